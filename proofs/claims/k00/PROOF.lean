import PyProof.Rows.All
import Wide.All
import OpenK.AllK
import Wide.FinOn
import HandS.ForMost
import HandS.Wide
import HandS.Flow
import HandS.TupAny
import HandS.TupMul
import HandS.IsInst
import HandS.Zip
import HandS.Conv
import HandS.Exc
import PyProof.StrOps2
import PyProof.MaxThree
import HandS.Comp
import HandS.CallSlots
import HandS.Lambda
import HandS.Ends
import HandS.Text
import HandS.Dict
import HandS.RaiseMore
import PyProof.ReprRoads
import PyProof.ReprBulk
import KE.IntTextLaws
import PySem.Challenge.RW_keytoall_k00_whole_fractions
section
set_option Elab.async false
set_option linter.all false
set_option maxRecDepth 100000
set_option maxHeartbeats 4000000
/-! MMA: the mirror machine: values, the store, trees of draws; how they lie in the layer's abstract heap. -/
namespace MM
open PySem PySem.Spec PyProof.Rows L2

/-- a mirrored value -/
inductive W where
  | non | bl (b : Bool) | int (i : Int) | str (s : Str)
  | tup (xs : List W)
  | obj (n : Nat)
  | fn (n : Nat)
  | cls (n : Nat)
  | ty (n : Nat)
  | scr (ns : List Int)
/-- the built-in types by numbers -/
def tyName : Nat → String
  | 0 => "int" | 1 => "bool" | 2 => "tuple" | 3 => "list" | 4 => "dict" | 5 => "str" | 6 => "NoneType" | 7 => "set" | _ => "object"

/-- a mirrored object that may change -/
inductive Ob where
  | lst (xs : List W)
  | dice (c : Nat)
  | ins (c : Nat) (fs : List W)
  | dct (kvs : List (W × W))

/-! ### the store: a tree of objects by their numbers -/
inductive BT where
  | lf
  | nd (o : Option Ob) (l r : BT)
noncomputable def BT.get (t : BT) : Nat → Option Ob :=
  BT.rec (motive := fun _ => Nat → Option Ob) (fun _ => none)
    (fun o _ _ gl gr n => Nat.casesOn (motive := fun _ => Option Ob) n o fun m => bif Nat.beq (m % 2) 0 then gl (m / 2) else gr (m / 2)) t
theorem BT.get_lf (n : Nat) : BT.lf.get n = none := rfl
theorem BT.get_nd0 (o : Option Ob) (l r : BT) : (BT.nd o l r).get 0 = o := rfl
theorem BT.get_nds (o : Option Ob) (l r : BT) (m : Nat) : (BT.nd o l r).get (m + 1) = bif Nat.beq (m % 2) 0 then l.get (m / 2) else r.get (m / 2) := rfl
def BT.left : BT → BT | .lf => .lf | .nd _ l _ => l
def BT.right : BT → BT | .lf => .lf | .nd _ _ r => r
def BT.top : BT → Option Ob | .lf => none | .nd o _ _ => o
theorem BT.get0 (t : BT) : t.get 0 = t.top := by cases t <;> rfl
theorem BT.gets (t : BT) (m : Nat) : t.get (m + 1) = bif Nat.beq (m % 2) 0 then t.left.get (m / 2) else t.right.get (m / 2) := by
  cases t with
  | lf => simp only [BT.left, BT.right, BT.get_lf]; cases Nat.beq (m % 2) 0 <;> rfl
  | nd o l r => rfl
noncomputable def BT.set (o : Ob) (k : Nat) : BT → Nat → BT :=
  Nat.rec (motive := fun _ => BT → Nat → BT) (fun t _ => t)
    (fun _ ih t n => Nat.casesOn (motive := fun _ => BT) n (.nd (some o) t.left t.right) fun m => bif Nat.beq (m % 2) 0 then .nd t.top (ih t.left (m / 2)) t.right else .nd t.top t.left (ih t.right (m / 2))) k
theorem BT.set_s0 (o : Ob) (k : Nat) (t : BT) : BT.set o (k + 1) t 0 = .nd (some o) t.left t.right := rfl
theorem BT.set_ss (o : Ob) (k : Nat) (t : BT) (m : Nat) : BT.set o (k + 1) t (m + 1) = bif Nat.beq (m % 2) 0 then .nd t.top (BT.set o k t.left (m / 2)) t.right else .nd t.top t.left (BT.set o k t.right (m / 2)) := rfl
theorem BT.get_set (o : Ob) : ∀ (k : Nat) (t : BT) (n j : Nat), n < k → (BT.set o k t n).get j = if j = n then some o else t.get j
  | 0, _, _, _, h => by omega
  | k + 1, t, 0, 0, _ => by rw [BT.set_s0]; rfl
  | k + 1, t, 0, j + 1, _ => by
    rw [BT.set_s0, BT.get_nds, BT.gets, if_neg (by omega)]
  | k + 1, t, m + 1, 0, h => by
    rw [BT.set_ss, if_neg (by omega), BT.get0, BT.get0]
    cases Nat.beq (m % 2) 0 <;> rfl
  | k + 1, t, m + 1, j + 1, h => by
    have hk : m / 2 < k := by omega
    rw [BT.set_ss]
    cases hm : Nat.beq (m % 2) 0 with
    | true =>
      have em : m % 2 = 0 := Nat.eq_of_beq_eq_true hm
      simp only [cond_true]
      rw [BT.get_nds, BT.gets]
      cases hj : Nat.beq (j % 2) 0 with
      | true =>
        have ej : j % 2 = 0 := Nat.eq_of_beq_eq_true hj
        simp only [cond_true]
        rw [BT.get_set o k _ _ _ hk]
        by_cases e : j / 2 = m / 2
        · rw [if_pos e, if_pos (by omega)]
        · rw [if_neg e, if_neg (by omega)]
      | false =>
        have ej : ¬ j % 2 = 0 := Nat.ne_of_beq_eq_false hj
        simp only [cond_false]
        rw [if_neg (by omega)]
    | false =>
      have em : ¬ m % 2 = 0 := Nat.ne_of_beq_eq_false hm
      simp only [cond_false]
      rw [BT.get_nds, BT.gets]
      cases hj : Nat.beq (j % 2) 0 with
      | true =>
        have ej : j % 2 = 0 := Nat.eq_of_beq_eq_true hj
        simp only [cond_true]
        rw [if_neg (by omega)]
      | false =>
        have ej : ¬ j % 2 = 0 := Nat.ne_of_beq_eq_false hj
        simp only [cond_false]
        rw [BT.get_set o k _ _ _ hk]
        by_cases e : j / 2 = m / 2
        · rw [if_pos e, if_pos (by omega)]
        · rw [if_neg e, if_neg (by omega)]

structure Sto where
  n : Nat
  t : BT
noncomputable def Sto.get (s : Sto) (k : Nat) : Option Ob := bif Nat.blt k s.n then s.t.get k else none
noncomputable def Sto.new (s : Sto) (o : Ob) : Sto := ⟨s.n + 1, BT.set o (s.n + 1) s.t s.n⟩
noncomputable def Sto.put (s : Sto) (k : Nat) (o : Ob) : Sto := ⟨s.n, BT.set o (k + 1) s.t k⟩
theorem blt_t {a b : Nat} (h : a < b) : Nat.blt a b = true := Nat.ble_eq.mpr h
theorem blt_f {a b : Nat} (h : ¬ a < b) : Nat.blt a b = false := by
  cases e : Nat.blt a b with
  | false => rfl
  | true => exact absurd (Nat.ble_eq.mp e) h
theorem Sto.get_lt {s : Sto} {k : Nat} (h : k < s.n) : s.get k = s.t.get k := by unfold Sto.get; rw [blt_t h]; rfl
theorem Sto.get_ge {s : Sto} {k : Nat} (h : ¬ k < s.n) : s.get k = none := by unfold Sto.get; rw [blt_f h]; rfl
theorem Sto.lt_of {s : Sto} {k : Nat} {o : Ob} (h : s.get k = some o) : k < s.n := by
  by_cases q : k < s.n
  · exact q
  · rw [Sto.get_ge q] at h; cases h
@[simp] theorem Sto.n_new (s : Sto) (o : Ob) : (s.new o).n = s.n + 1 := rfl
@[simp] theorem Sto.n_put (s : Sto) (k : Nat) (o : Ob) : (s.put k o).n = s.n := rfl
theorem Sto.get_new (s : Sto) (o : Ob) (k : Nat) : (s.new o).get k = if k = s.n then some o else s.get k := by
  by_cases h : k < s.n
  · rw [Sto.get_lt (by rw [Sto.n_new]; omega), if_neg (by omega), Sto.get_lt h]
    show (BT.set o (s.n + 1) s.t s.n).get k = _
    rw [BT.get_set _ _ _ _ _ (by omega), if_neg (by omega)]
  · by_cases e : k = s.n
    · rw [Sto.get_lt (by rw [Sto.n_new]; omega), if_pos e]
      show (BT.set o (s.n + 1) s.t s.n).get k = _
      rw [BT.get_set _ _ _ _ _ (by omega), if_pos e]
    · rw [if_neg e, Sto.get_ge h, Sto.get_ge (by rw [Sto.n_new]; omega)]
theorem Sto.get_put (s : Sto) (j : Nat) (o : Ob) (k : Nat) (hj : j < s.n) : (s.put j o).get k = if k = j then some o else s.get k := by
  by_cases h : k < s.n
  · rw [Sto.get_lt (by rw [Sto.n_put]; omega), Sto.get_lt h]
    show (BT.set o (j + 1) s.t j).get k = _
    rw [BT.get_set _ _ _ _ _ (by omega)]
  · rw [if_neg (by omega), Sto.get_ge h, Sto.get_ge (by rw [Sto.n_put]; omega)]

/-! ### trees of draws -/
inductive Tr (α : Type) where
  | lf (a : α)
  | ch (n : Nat) (f : Nat → Tr α)
  | bad
noncomputable def Tr.bind {α β : Type} (t : Tr α) (k : α → Tr β) : Tr β := Tr.rec (motive := fun _ => Tr β) k (fun n _ ih => .ch n ih) .bad t
@[simp] theorem Tr.bind_lf {α β : Type} (a : α) (k : α → Tr β) : (Tr.lf a).bind k = k a := rfl
@[simp] theorem Tr.bind_ch {α β : Type} (n : Nat) (f : Nat → Tr α) (k : α → Tr β) : (Tr.ch n f).bind k = .ch n fun i => (f i).bind k := rfl
@[simp] theorem Tr.bind_bad {α β : Type} (k : α → Tr β) : (Tr.bad : Tr α).bind k = .bad := rfl
def Tr.All {α : Type} (P : α → Prop) : Tr α → Prop
  | .lf a => P a
  | .ch n f => ∀ i, i < n → (f i).All P
  | .bad => False
theorem Tr.All.mono {α : Type} {P Q : α → Prop} : ∀ {t : Tr α}, t.All P → (∀ a, P a → Q a) → t.All Q
  | .lf a, h, k => k a h
  | .ch _ f, h, k => fun i hi => (h i hi).mono k
  | .bad, h, _ => h
theorem Tr.all_bind {α β : Type} {P : β → Prop} {k : α → Tr β} : ∀ {t : Tr α}, (t.bind k).All P ↔ t.All fun a => (k a).All P
  | .lf _ => Iff.rfl
  | .ch _ f => ⟨fun h i hi => all_bind.mp (h i hi), fun h i hi => all_bind.mpr (h i hi)⟩
  | .bad => Iff.rfl
theorem Tr.bind_assoc {α β γ : Type} (k : α → Tr β) (j : β → Tr γ) : ∀ t : Tr α, (t.bind k).bind j = t.bind fun a => (k a).bind j
  | .lf _ => rfl
  | .ch n f => by
    simp only [Tr.bind_ch]
    exact congrArg _ (funext fun i => bind_assoc k j (f i))
  | .bad => rfl

inductive Out (α : Type) where
  | ok (a : α) (s : Sto)
  | ex (c : Nat) (fs : List W) (s : Sto)
/-- a mirrored reckoning -/
abbrev M (α : Type) := Sto → Tr (Out α)
abbrev Loc := List (Option W)
noncomputable def then_ {α β : Type} (t : Tr (Out α)) (k : α → M β) : Tr (Out β) :=
  t.bind fun o => Out.rec (motive := fun _ => Tr (Out β)) k (fun c fs s => .lf (.ex c fs s)) o
@[simp] theorem then_ok {α β : Type} (a : α) (s : Sto) (k : α → M β) : then_ (.lf (.ok a s)) k = k a s := rfl
@[simp] theorem then_ex {α β : Type} (c : Nat) (fs : List W) (s : Sto) (k : α → M β) : then_ (.lf (.ex c fs s)) k = .lf (.ex c fs s) := rfl
@[simp] theorem then_bad {α β : Type} (k : α → M β) : then_ .bad k = .bad := rfl
@[simp] theorem then_ch {α β : Type} (n : Nat) (f : Nat → Tr (Out α)) (k : α → M β) : then_ (.ch n f) k = .ch n fun i => then_ (f i) k := rfl
theorem all_then {α β : Type} {P : Out β → Prop} {k : α → M β} {t : Tr (Out α)} (h : (then_ t k).All P) :
    t.All fun o => match o with
      | .ok a s => (k a s).All P
      | .ex c fs s => P (.ex c fs s) :=
  (Tr.all_bind.mp h).mono fun o q => by cases o <;> exact q

/-! ### how it lies in the abstract heap -/
/-- what stands fast: the written part, where defs and classes stand -/
structure Tb where
  K : PySem.W.Frag
  fa : Nat → Addr
  ca : Nat → Addr
/-- where the store's objects lie -/
structure Gm where
  N : Nat
  ρ : Nat → Addr
/-- a list that stands fast: the script -/
def SqF (K : PySem.W.Frag) (H : Hp) (a : Addr) (xs : List V) : Prop := (∃ o, H a = some (.frz o (.lst xs))) ∨ (SqL K (fun _ => none) a xs)
theorem SqF.seq {K : PySem.W.Frag} {H : Hp} {a : Addr} {xs : List V} (h : SqF K H a xs) : SqL K H a xs := by
  rcases h with ⟨o, h⟩ | (h | h)
  · exact .inl (.inr ⟨o, h⟩)
  · rcases h with h | ⟨_, h⟩ <;> cases h
  · exact .inr h
mutual
def RW (T : Tb) (g : Gm) (H : Hp) : W → V → Prop
  | .non, v => v = .non
  | .bl b, v => v = .bl b
  | .int i, v => v = .int i
  | .str x, v => v = .str x
  | .tup xs, v => ∃ a vs, v = .ref a ∧ SqT T.K H a vs ∧ vs.length ≤ sizeLine ∧ RWs T g H xs vs
  | .obj n, v => n < g.N ∧ v = .ref (g.ρ n)
  | .fn n, v => v = .ref (T.fa n)
  | .cls n, v => v = .ref (T.ca n)
  | .ty n, v => v = .ty (tyName n)
  | .scr ns, v => ∃ a, v = .ref a ∧ SqF T.K H a (ns.map V.int)
def RWs (T : Tb) (g : Gm) (H : Hp) : List W → List V → Prop
  | [], vs => vs = []
  | x :: xs, vs => ∃ v r, vs = v :: r ∧ RW T g H x v ∧ RWs T g H xs r
end
structure Ext (T : Tb) (g : Gm) (H : Hp) (g' : Gm) (H' : Hp) : Prop where
  n : g.N ≤ g'.N
  ρ : ∀ k, k < g.N → g'.ρ k = g.ρ k
  t : ∀ a vs, SqT T.K H a vs → SqT T.K H' a vs
  f : ∀ a o xs, H a = some (.frz o (.lst xs)) → H' a = some (.frz o (.lst xs))
theorem Ext.refl {T : Tb} {g : Gm} {H : Hp} : Ext T g H g H := ⟨Nat.le_refl _, fun _ _ => rfl, fun _ _ h => h, fun _ _ _ h => h⟩
theorem Ext.trans {T : Tb} {g g1 g2 : Gm} {H H1 H2 : Hp} (a : Ext T g H g1 H1) (b : Ext T g1 H1 g2 H2) : Ext T g H g2 H2 :=
  ⟨Nat.le_trans a.n b.n, fun k h => (b.ρ k (Nat.lt_of_lt_of_le h a.n)).trans (a.ρ k h), fun c vs h => b.t c vs (a.t c vs h), fun c o xs h => b.f c o xs (a.f c o xs h)⟩
theorem SqF.ext {T : Tb} {g g' : Gm} {H H' : Hp} {a : Addr} {xs : List V} (e : Ext T g H g' H') (h : SqF T.K H a xs) : SqF T.K H' a xs := by
  rcases h with ⟨o, h⟩ | h
  · exact .inl ⟨o, e.f _ _ _ h⟩
  · exact .inr h
section
variable {T : Tb} {g g' : Gm} {H H' : Hp}
mutual
theorem RW.ext (e : Ext T g H g' H') : ∀ (w : W) (v : V), RW T g H w v → RW T g' H' w v
  | .non, v, h => by simpa only [RW] using h
  | .bl _, v, h => by simpa only [RW] using h
  | .int _, v, h => by simpa only [RW] using h
  | .str _, v, h => by simpa only [RW] using h
  | .fn _, v, h => by simpa only [RW] using h
  | .cls _, v, h => by simpa only [RW] using h
  | .ty _, v, h => by simpa only [RW] using h
  | .scr _, v, h => by
    simp only [RW] at h ⊢
    obtain ⟨a, h1, h2⟩ := h
    exact ⟨a, h1, h2.ext e⟩
  | .obj n, v, h => by
    simp only [RW] at h ⊢
    obtain ⟨h1, h2⟩ := h
    exact ⟨Nat.lt_of_lt_of_le h1 e.n, by rw [e.ρ n h1]; exact h2⟩
  | .tup xs, v, h => by
    simp only [RW] at h ⊢
    obtain ⟨a, vs, h1, h2, hz, h3⟩ := h
    exact ⟨a, vs, h1, e.t _ _ h2, hz, RWs.ext e xs vs h3⟩
theorem RWs.ext (e : Ext T g H g' H') : ∀ (ws : List W) (vs : List V), RWs T g H ws vs → RWs T g' H' ws vs
  | [], vs, h => by simpa only [RWs] using h
  | x :: xs, vs, h => by
    simp only [RWs] at h ⊢
    obtain ⟨v, r, h1, h2, h3⟩ := h
    exact ⟨v, r, h1, RW.ext e x v h2, RWs.ext e xs r h3⟩
end
theorem RWs.nil : RWs T g H [] [] := by simp only [RWs]
theorem RWs.cons {x : W} {v : V} {xs : List W} {vs : List V} (h : RW T g H x v) (h' : RWs T g H xs vs) : RWs T g H (x :: xs) (v :: vs) := by
  simp only [RWs]; exact ⟨v, vs, rfl, h, h'⟩
theorem RWs.length : ∀ {xs : List W} {vs : List V}, RWs T g H xs vs → xs.length = vs.length
  | [], vs, h => by simp only [RWs] at h; rw [h]; rfl
  | x :: xs, vs, h => by
    simp only [RWs] at h
    obtain ⟨v, r, rfl, _, h3⟩ := h
    rw [List.length_cons, List.length_cons, RWs.length h3]
theorem RWs.append : ∀ {xs ys : List W} {vs us : List V}, RWs T g H xs vs → RWs T g H ys us → RWs T g H (xs ++ ys) (vs ++ us)
  | [], ys, vs, us, h, h' => by simp only [RWs] at h; rw [h]; exact h'
  | x :: xs, ys, vs, us, h, h' => by
    simp only [RWs] at h
    obtain ⟨v, r, rfl, h2, h3⟩ := h
    exact RWs.cons h2 (RWs.append h3 h')
theorem RWs.get : ∀ {xs : List W} {vs : List V} {i : Nat} {x : W}, RWs T g H xs vs → xs[i]? = some x → ∃ v, vs[i]? = some v ∧ RW T g H x v
  | [], _, _, _, _, e => by simp at e
  | y :: xs, vs, 0, x, h, e => by
    simp only [RWs] at h
    obtain ⟨v, r, rfl, h2, h3⟩ := h
    simp at e
    subst e
    exact ⟨v, rfl, h2⟩
  | y :: xs, vs, i + 1, x, h, e => by
    simp only [RWs] at h
    obtain ⟨v, r, rfl, h2, h3⟩ := h
    obtain ⟨u, h4, h5⟩ := RWs.get (i := i) h3 (by simpa using e)
    exact ⟨u, by simpa using h4, h5⟩
theorem RWs.set {x : W} {v : V} (r : RW T g H x v) : ∀ {xs : List W} {vs : List V} (i : Nat), RWs T g H xs vs → RWs T g H (xs.set i x) (vs.set i v)
  | [], vs, _, h => by simp only [RWs] at h; rw [h]; exact RWs.nil
  | y :: xs, vs, 0, h => by
    simp only [RWs] at h
    obtain ⟨v', r', rfl, h2, h3⟩ := h
    exact RWs.cons r h3
  | y :: xs, vs, i + 1, h => by
    simp only [RWs] at h
    obtain ⟨v', r', rfl, h2, h3⟩ := h
    exact RWs.cons h2 (RWs.set r i h3)
theorem RWs.drop : ∀ {xs : List W} {vs : List V} (i : Nat), RWs T g H xs vs → RWs T g H (xs.drop i) (vs.drop i)
  | xs, vs, 0, h => by simpa using h
  | [], vs, i + 1, h => by simp only [RWs] at h; rw [h]; exact RWs.nil
  | y :: xs, vs, i + 1, h => by
    simp only [RWs] at h
    obtain ⟨v', r', rfl, h2, h3⟩ := h
    exact RWs.drop i h3
theorem RWs.take : ∀ {xs : List W} {vs : List V} (i : Nat), RWs T g H xs vs → RWs T g H (xs.take i) (vs.take i)
  | xs, vs, 0, h => RWs.nil
  | [], vs, i + 1, h => by simp only [RWs] at h; rw [h]; exact RWs.nil
  | y :: xs, vs, i + 1, h => by
    simp only [RWs] at h
    obtain ⟨v', r', rfl, h2, h3⟩ := h
    exact RWs.cons h2 (RWs.take i h3)
theorem rw_int {i : Int} {v : V} (h : RW T g H (.int i) v) : v = .int i := by simpa only [RW] using h
theorem rw_bl {i : Bool} {v : V} (h : RW T g H (.bl i) v) : v = .bl i := by simpa only [RW] using h
theorem rw_str {i : Str} {v : V} (h : RW T g H (.str i) v) : v = .str i := by simpa only [RW] using h
theorem rw_non {v : V} (h : RW T g H .non v) : v = .non := by simpa only [RW] using h
theorem rw_tup {xs : List W} {v : V} (h : RW T g H (.tup xs) v) : ∃ a vs, v = .ref a ∧ SqT T.K H a vs ∧ vs.length ≤ sizeLine ∧ RWs T g H xs vs := by simpa only [RW] using h
theorem rw_obj {n : Nat} {v : V} (h : RW T g H (.obj n) v) : n < g.N ∧ v = .ref (g.ρ n) := by simpa only [RW] using h
theorem rw_fn {n : Nat} {v : V} (h : RW T g H (.fn n) v) : v = .ref (T.fa n) := by simpa only [RW] using h
theorem rw_cls {n : Nat} {v : V} (h : RW T g H (.cls n) v) : v = .ref (T.ca n) := by simpa only [RW] using h
theorem rw_scr {ns : List Int} {v : V} (h : RW T g H (.scr ns) v) : ∃ a, v = .ref a ∧ SqF T.K H a (ns.map V.int) := by simpa only [RW] using h
theorem rw_ty {n : Nat} {v : V} (h : RW T g H (.ty n) v) : v = .ty (tyName n) := by simpa only [RW] using h
theorem RW.ty (n : Nat) : RW T g H (.ty n) (.ty (tyName n)) := by simp only [RW]
theorem RW.int (i : Int) : RW T g H (.int i) (.int i) := by simp only [RW]
theorem RW.bl (i : Bool) : RW T g H (.bl i) (.bl i) := by simp only [RW]
theorem RW.str (i : Str) : RW T g H (.str i) (.str i) := by simp only [RW]
theorem RW.non : RW T g H .non .non := by simp only [RW]
theorem RW.tup {a : Addr} {xs : List W} {vs : List V} (h : SqT T.K H a vs) (hz : vs.length ≤ sizeLine) (r : RWs T g H xs vs) : RW T g H (.tup xs) (.ref a) := by
  simp only [RW]; exact ⟨a, vs, rfl, h, hz, r⟩
theorem RW.obj {n : Nat} (h : n < g.N) : RW T g H (.obj n) (.ref (g.ρ n)) := by simp only [RW]; exact ⟨h, trivial⟩
end

/-- a key of a dict: an int, a text -/
def keyW : L2.Key → W
  | .inl i => .int i
  | .inr x => .str x
/-- an object of the store, at its address; dice of at most c rolls -/
def RO (T : Tb) (g : Gm) (H : Hp) : Ob → Addr → Prop
  | .lst xs, a => ∃ vs, H a = some (.lst vs) ∧ vs.length ≤ sizeLine ∧ RWs T g H xs vs
  | .dice c, a => ∃ d0 d1 d2 : Int, H a = some (.lst [.int d0, .int d1, .int d2]) ∧ 0 ≤ d0 ∧ d0.natAbs < 2 ^ 1200 ∧ 0 ≤ d2 ∧ d2 ≤ c
  | .ins _ _, _ => False
  | .dct kvs, a => ∃ ks : List (L2.Key × V), H a = some (.dK ks) ∧ kvs.map (·.1) = ks.map (fun p => keyW p.1) ∧ RWs T g H (kvs.map (·.2)) (ks.map (·.2))
structure SR (T : Tb) (g : Gm) (H : Hp) (s : Sto) : Prop where
  n : s.n = g.N
  inj : ∀ j k, j < g.N → k < g.N → g.ρ j = g.ρ k → j = k
  o : ∀ k, k < g.N → ∃ o, s.get k = some o ∧ RO T g H o (g.ρ k)
/-- neither free nor a tuple nor fast -/
def NoTup (H : Hp) (a : Addr) : Prop := ∃ o, H a = some o ∧ (∀ xs, o ≠ .tup xs) ∧ (∀ ob xs, o ≠ .frz ob (.tup xs)) ∧ ∀ ob xs, o ≠ .frz ob (.lst xs)
section
variable {T : Tb} {g g' : Gm} {H H' : Hp} {s : Sto}
theorem RO.noTup {o : Ob} {a : Addr} (h : RO T g H o a) : NoTup H a := by
  cases o with
  | lst xs => obtain ⟨vs, e, _⟩ := h; exact ⟨_, e, (fun _ z => nomatch z), (fun _ _ z => nomatch z), fun _ _ z => nomatch z⟩
  | dice _ => obtain ⟨_, _, _, e, _⟩ := h; exact ⟨_, e, (fun _ z => nomatch z), (fun _ _ z => nomatch z), fun _ _ z => nomatch z⟩
  | ins _ _ => exact h.elim
  | dct _ => obtain ⟨_, e, _⟩ := h; exact ⟨_, e, (fun _ z => nomatch z), (fun _ _ z => nomatch z), fun _ _ z => nomatch z⟩
theorem RO.ext {o : Ob} {a : Addr} (h : RO T g H o a) (e : Ext T g H g' H') (ha : H' a = H a) : RO T g' H' o a := by
  cases o with
  | lst xs => obtain ⟨vs, h1, h2, h3⟩ := h; exact ⟨vs, by rw [ha]; exact h1, h2, RWs.ext e _ _ h3⟩
  | dice _ => obtain ⟨d0, d1, d2, h1, h2⟩ := h; exact ⟨d0, d1, d2, by rw [ha]; exact h1, h2⟩
  | ins _ _ => exact h.elim
  | dct _ => obtain ⟨ks, h1, h2, h3⟩ := h; exact ⟨ks, by rw [ha]; exact h1, h2, RWs.ext e _ _ h3⟩
theorem SqT.upd_mut {a b : Addr} {o : HO} {vs : List V} (n : NoTup H a) (h : SqT T.K H b vs) : SqT T.K (upd H a o) b vs := by
  obtain ⟨u, e, n1, n2, _⟩ := n
  rcases h with (h | ⟨ob, h⟩) | h
  · exact .inl (.inl (by rw [upd_ne fun z => by rw [z, e] at h; exact n1 vs (Option.some.inj h)]; exact h))
  · exact .inl (.inr ⟨ob, by rw [upd_ne fun z => by rw [z, e] at h; exact n2 ob vs (Option.some.inj h)]; exact h⟩)
  · exact .inr h
theorem SqT.upd_new {a b : Addr} {o : HO} {vs : List V} (n : H a = none) (h : SqT T.K H b vs) : SqT T.K (upd H a o) b vs := by
  rcases h with (h | ⟨ob, h⟩) | h
  · exact .inl (.inl (by rw [upd_ne (ne_of_none h n)]; exact h))
  · exact .inl (.inr ⟨ob, by rw [upd_ne (ne_of_none h n)]; exact h⟩)
  · exact .inr h
theorem frz_new {a : Addr} {o : HO} (n : H a = none) (b : Addr) (ob : Obj) (xs : List V) (h : H b = some (.frz ob (.lst xs))) : upd H a o b = some (.frz ob (.lst xs)) := by
  rw [upd_ne (ne_of_none h n)]; exact h
theorem frz_mut {a : Addr} {o : HO} (n : NoTup H a) (b : Addr) (ob : Obj) (xs : List V) (h : H b = some (.frz ob (.lst xs))) : upd H a o b = some (.frz ob (.lst xs)) := by
  obtain ⟨u, e, _, _, n3⟩ := n
  rw [upd_ne fun z => by rw [z, e] at h; exact n3 ob xs (Option.some.inj h)]
  exact h
/-- a new tuple: nothing of the store changes -/
theorem Ext.newT {p : Addr} {o : HO} (n : H p = none) : Ext T g H g (upd H p o) := ⟨Nat.le_refl _, fun _ _ => rfl, fun _ _ h => SqT.upd_new n h, frz_new n⟩
theorem SR.newT {p : Addr} {o : HO} (h : SR T g H s) (n : H p = none) : SR T g (upd H p o) s := by
  refine ⟨h.n, h.inj, fun k hk => ?_⟩
  obtain ⟨ob, h1, h2⟩ := h.o k hk
  obtain ⟨u, e, _⟩ := h2.noTup
  exact ⟨ob, h1, h2.ext (Ext.newT n) (upd_ne (ne_of_none e n))⟩
def Gm.add (g : Gm) (p : Addr) : Gm := ⟨g.N + 1, fun k => if k = g.N then p else g.ρ k⟩
theorem Gm.add_at (g : Gm) (p : Addr) : (g.add p).ρ g.N = p := if_pos rfl
theorem Gm.add_lt (g : Gm) (p : Addr) {k : Nat} (h : k < g.N) : (g.add p).ρ k = g.ρ k := if_neg (Nat.ne_of_lt h)
theorem Ext.add {p : Addr} {o : HO} (n : H p = none) : Ext T g H (g.add p) (upd H p o) := ⟨Nat.le_succ _, fun k h => g.add_lt p h, fun _ _ h => SqT.upd_new n h, frz_new n⟩
/-- a new object of the store -/
theorem SR.add {p : Addr} {ho : HO} {o : Ob} (h : SR T g H s) (n : H p = none) (r : RO T (g.add p) (upd H p ho) o p) : SR T (g.add p) (upd H p ho) (s.new o) := by
  have np : ∀ k, k < g.N → g.ρ k ≠ p := fun k hk => by
    obtain ⟨ob, h1, h2⟩ := h.o k hk
    obtain ⟨u, e, _⟩ := h2.noTup
    exact ne_of_none e n
  refine ⟨by rw [Sto.n_new, h.n]; rfl, fun j k hj hk e => ?_, fun k hk => ?_⟩
  · by_cases ej : j = g.N
    · by_cases ek : k = g.N
      · rw [ej, ek]
      · have hk' : k < g.N := by have : k < g.N + 1 := hk; omega
        rw [ej, g.add_at, g.add_lt p hk'] at e
        exact absurd e.symm (np k hk')
    · have hj' : j < g.N := by have : j < g.N + 1 := hj; omega
      by_cases ek : k = g.N
      · rw [ek, g.add_at, g.add_lt p hj'] at e
        exact absurd e (np j hj')
      · have hk' : k < g.N := by have : k < g.N + 1 := hk; omega
        rw [g.add_lt p hj', g.add_lt p hk'] at e
        exact h.inj j k hj' hk' e
  · rw [Sto.get_new, h.n]
    by_cases ek : k = g.N
    · refine ⟨o, if_pos ek, ?_⟩
      rw [ek, g.add_at]
      exact r
    · have hk' : k < g.N := by have : k < g.N + 1 := hk; omega
      obtain ⟨ob, h1, h2⟩ := h.o k hk'
      refine ⟨ob, by rw [if_neg ek]; exact h1, ?_⟩
      rw [g.add_lt p hk']
      exact h2.ext (Ext.add n) (upd_ne (np k hk'))
theorem Ext.put {k : Nat} {ho : HO} (h : SR T g H s) (hk : k < g.N) : Ext T g H g (upd H (g.ρ k) ho) := by
  obtain ⟨ob, h1, h2⟩ := h.o k hk
  exact ⟨Nat.le_refl _, fun _ _ => rfl, fun _ _ q => SqT.upd_mut h2.noTup q, frz_mut h2.noTup⟩
/-- an object of the store is changed -/
theorem SR.put {k : Nat} {ho : HO} {o : Ob} (h : SR T g H s) (hk : k < g.N) (r : RO T g (upd H (g.ρ k) ho) o (g.ρ k)) : SR T g (upd H (g.ρ k) ho) (s.put k o) := by
  refine ⟨h.n, h.inj, fun j hj => ?_⟩
  rw [Sto.get_put _ _ _ _ (by rw [h.n]; exact hk)]
  by_cases e : j = k
  · rw [e]
    exact ⟨o, if_pos rfl, r⟩
  · obtain ⟨ob, h1, h2⟩ := h.o j hj
    exact ⟨ob, by rw [if_neg e]; exact h1, h2.ext (Ext.put h hk) (upd_ne fun z => e (h.inj j k hj hk z))⟩
theorem SR.at_ {k : Nat} {o : Ob} (h : SR T g H s) (e : s.get k = some o) : k < g.N ∧ RO T g H o (g.ρ k) := by
  have hk : k < g.N := by rw [← h.n]; exact Sto.lt_of e
  obtain ⟨ob, h1, h2⟩ := h.o k hk
  rw [e] at h1
  cases h1
  exact ⟨hk, h2⟩
end

/-- the names' values -/
structure LR (T : Tb) (g : Gm) (H : Hp) (l : Loc) (σ : L2.St) : Prop where
  len : l.length = σ.length
  at_ : ∀ (i : Nat) (w : W), l[i]? = some (some w) → ∃ v, σ[i]? = some (some v) ∧ RW T g H w v
theorem LR.ext {T : Tb} {g g' : Gm} {H H' : Hp} {l : Loc} {σ : L2.St} (h : LR T g H l σ) (e : Ext T g H g' H') : LR T g' H' l σ :=
  ⟨h.len, fun i w q => let ⟨v, h1, h2⟩ := h.at_ i w q; ⟨v, h1, RW.ext e w v h2⟩⟩
theorem LR.set {T : Tb} {g : Gm} {H : Hp} {l : Loc} {σ : L2.St} (h : LR T g H l σ) (i : Nat) {w : W} {v : V} (r : RW T g H w v) : LR T g H (l.set i (some w)) (σ.set i (some v)) := by
  refine ⟨by rw [List.length_set, List.length_set]; exact h.len, fun j u q => ?_⟩
  by_cases e : i = j
  · subst e
    by_cases hi : i < l.length
    · rw [List.getElem?_set_self hi] at q
      cases q
      exact ⟨v, by rw [List.getElem?_set_self (by rw [← h.len]; exact hi)], r⟩
    · rw [List.getElem?_eq_none (by rw [List.length_set]; omega)] at q
      cases q
  · rw [List.getElem?_set_ne e] at q
    obtain ⟨v', h1, h2⟩ := h.at_ j u q
    exact ⟨v', by rw [List.getElem?_set_ne e]; exact h1, h2⟩
end MM
end

section
set_option Elab.async false
set_option linter.all false
set_option autoImplicit false
set_option maxRecDepth 100000
set_option maxHeartbeats 4000000
/-! MMB: what it means that a mirror follows an expression; the rules. -/
namespace MM
open PySem PySem.Spec PyProof.Rows L2

abbrev EM := Loc → M W
abbrev AM := Loc → M (List W)
abbrev TM := Loc → M Bool
/-- an operation without a draw and without an error -/
abbrev Op2 := W → W → Sto → Option (W × Sto)
abbrev Op1 := W → Sto → Option (W × Sto)
abbrev OpL := List W → Sto → Option (W × Sto)
noncomputable def lift (o : Option (W × Sto)) : Tr (Out W) := Option.rec (motive := fun _ => Tr (Out W)) .bad (fun p => .lf (.ok p.1 p.2)) o
@[simp] theorem lift_some (w : W) (s : Sto) : lift (some (w, s)) = .lf (.ok w s) := rfl
@[simp] theorem lift_none : lift none = .bad := rfl

/-- what a call's, an expression's end asks -/
def Po {α β : Type} (T : Tb) (Wx : WX) (σ : L2.St) (R : Gm → Hp → α → β → Prop) (g : Gm) (H : Hp) (Q : β → Hp → Prop) : Out α → Prop
  | .ok a st => ∀ g' H' b, Ext T g H g' H' → SR T g' H' st → R g' H' a b → Q b H'
  | .ex c fs st => ∀ g' H' cls d, Ext T g H g' H' → SR T g' H' st → cls = Value.ref (T.ca c) → Wx cls d σ H'
theorem Po.ext {α β : Type} {T : Tb} {Wx : WX} {σ : L2.St} {R : Gm → Hp → α → β → Prop} {g g1 : Gm} {H H1 : Hp} {Q : β → Hp → Prop} {o : Out α} (e : Ext T g H g1 H1) (h : Po T Wx σ R g H Q o) : Po T Wx σ R g1 H1 Q o := by
  cases o with
  | ok a st => exact fun g' H' b e' => h g' H' b (e.trans e')
  | ex c fs st => exact fun g' H' cls d e' => h g' H' cls d (e.trans e')
abbrev PoW (T : Tb) (Wx : WX) (σ : L2.St) := Po (α := W) (β := V) T Wx σ (fun g H w v => RW T g H w v)
abbrev PoL (T : Tb) (Wx : WX) (σ : L2.St) := Po (α := List W) (β := List V) T Wx σ (fun g H w v => RWs T g H w v)
abbrev PoB (T : Tb) (Wx : WX) (σ : L2.St) := Po (α := Bool) (β := Bool) T Wx σ (fun _ _ a b => b = a)

def rdE (T : Tb) (Wx : WX) (m : EM) : TE := fun σ H Q => ∃ g l st, LR T g H l σ ∧ SR T g H st ∧ (m l st).All (PoW T Wx σ g H Q)
def rdA (T : Tb) (Wx : WX) (m : AM) : TA := fun σ H Q => ∃ g l st, LR T g H l σ ∧ SR T g H st ∧ (m l st).All (PoL T Wx σ g H Q)
def rdT (T : Tb) (Wx : WX) (m : TM) : TT := fun σ H Q => ∃ g l st, LR T g H l σ ∧ SR T g H st ∧ (m l st).All (PoB T Wx σ g H Q)
abbrev SE (T : Tb) (X : Cx) (Wx : WX) (e : Expr) (m : EM) : Prop := PE X e (rdE T Wx m)
abbrev SA (T : Tb) (X : Cx) (Wx : WX) (es : List Expr) (m : AM) : Prop := PA X es (rdA T Wx m)
abbrev STt (T : Tb) (X : Cx) (Wx : WX) (e : Expr) (m : TM) : Prop := PT X e (rdT T Wx m)
abbrev SW (T : Tb) (X : Cx) (Wx : WX) (e : Expr) (m : TM) : Prop := PW X e (rdT T Wx m)

theorem weakE {X : Cx} {e : Expr} {t t' : TE} (h : PE X e t) (w : ∀ σ H Q, t' σ H Q → t σ H Q) : PE X e t' := ⟨fun pins s σ H Q I q => h.run pins s σ H Q I (w σ H Q q)⟩
theorem weakA {X : Cx} {e : List Expr} {t t' : TA} (h : PA X e t) (w : ∀ σ H Q, t' σ H Q → t σ H Q) : PA X e t' := ⟨fun pos pins s σ H Q I q => h.run pos pins s σ H Q I (w σ H Q q)⟩
theorem weakT {X : Cx} {e : Expr} {t t' : TT} (h : PT X e t) (w : ∀ σ H Q, t' σ H Q → t σ H Q) : PT X e t' := ⟨fun pins s σ H Q I q => h.run pins s σ H Q I (w σ H Q q)⟩
theorem weakW {X : Cx} {e : Expr} {t t' : TT} (h : PW X e t) (w : ∀ σ H Q, t' σ H Q → t σ H Q) : PW X e t' := ⟨fun wh pins s σ H Q I q => h.run wh pins s σ H Q I (w σ H Q q)⟩
theorem weakOp {X : Cx} {f : Value → Value → Sem Value} {r r' : R2} (h : OpR X f r) (w : ∀ x y H Q, r' x y H Q → r x y H Q) : OpR X f r' := fun pins s σ H x y v u Q I rx ry q => h pins s σ H x y v u Q I rx ry (w x y H Q q)
theorem weakCall {X : Cx} {f : Value} {r r' : List V → Hp → VK → Prop} (h : CallR X f r) (w : ∀ x H Q, r' x H Q → r x H Q) : CallR X f r' := fun pins s σ H xs us Q I rx q => h pins s σ H xs us Q I rx (w xs H Q q)
theorem weakMt {X : Cx} {id : String} {r r' : V → List V → Hp → VK → Prop} (h : MtR X id r) (w : ∀ x y H Q, r' x y H Q → r x y H Q) : MtR X id r' := fun pins s σ H x xs v us Q I rx ry q => h pins s σ H x xs v us Q I rx ry (w x xs H Q q)

/-- what is fast in a context -/
structure Fast (T : Tb) (X : Cx) : Prop where
  k : X.K = T.K
  calm : X.calm = true
  nd : X.N.Nodup
  un : X.A.units + 64 + 100 < cLine
  gd : X.A.guards = some []

section
variable {T : Tb} {X : Cx} {Wx : WX}
/-- the composition: what follows ma is asked behind it -/
theorem rdE_then {β : Type} {m : EM} {k : W → M β} {γ : Type} {R : Gm → Hp → β → γ → Prop} {g : Gm} {H : Hp} {l : Loc} {st : Sto} {σ : L2.St} {Q' : γ → Hp → Prop} {Q : V → Hp → Prop} (hl : LR T g H l σ) (hs : SR T g H st)
    (h : (then_ (m l st) k).All (Po T Wx σ R g H Q'))
    (n : ∀ w st1 g1 H1 v, Ext T g H g1 H1 → SR T g1 H1 st1 → RW T g1 H1 w v → LR T g1 H1 l σ → (k w st1).All (Po T Wx σ R g1 H1 Q') → Q v H1) : rdE T Wx m σ H Q := by
  refine ⟨g, l, st, hl, hs, (all_then h).mono fun o q => ?_⟩
  cases o with
  | ok w st1 => exact fun g1 H1 v e s r => n w st1 g1 H1 v e s r (hl.ext e) (Tr.All.mono q fun o q => q.ext e)
  | ex c fs st1 => exact q
theorem rdA_then {β : Type} {m : AM} {k : List W → M β} {γ : Type} {R : Gm → Hp → β → γ → Prop} {g : Gm} {H : Hp} {l : Loc} {st : Sto} {σ : L2.St} {Q' : γ → Hp → Prop} {Q : List V → Hp → Prop} (hl : LR T g H l σ) (hs : SR T g H st)
    (h : (then_ (m l st) k).All (Po T Wx σ R g H Q'))
    (n : ∀ w st1 g1 H1 v, Ext T g H g1 H1 → SR T g1 H1 st1 → RWs T g1 H1 w v → LR T g1 H1 l σ → (k w st1).All (Po T Wx σ R g1 H1 Q') → Q v H1) : rdA T Wx m σ H Q := by
  refine ⟨g, l, st, hl, hs, (all_then h).mono fun o q => ?_⟩
  cases o with
  | ok w st1 => exact fun g1 H1 v e s r => n w st1 g1 H1 v e s r (hl.ext e) (Tr.All.mono q fun o q => q.ext e)
  | ex c fs st1 => exact q
theorem rdT_then {β : Type} {m : TM} {k : Bool → M β} {γ : Type} {R : Gm → Hp → β → γ → Prop} {g : Gm} {H : Hp} {l : Loc} {st : Sto} {σ : L2.St} {Q' : γ → Hp → Prop} {Q : Bool → Hp → Prop} (hl : LR T g H l σ) (hs : SR T g H st)
    (h : (then_ (m l st) k).All (Po T Wx σ R g H Q'))
    (n : ∀ b st1 g1 H1, Ext T g H g1 H1 → SR T g1 H1 st1 → LR T g1 H1 l σ → (k b st1).All (Po T Wx σ R g1 H1 Q') → Q b H1) : rdT T Wx m σ H Q := by
  refine ⟨g, l, st, hl, hs, (all_then h).mono fun o q => ?_⟩
  cases o with
  | ok w st1 => exact fun g1 H1 v e s r => by subst r; exact n v st1 g1 H1 e s (hl.ext e) (Tr.All.mono q fun o q => q.ext e)
  | ex c fs st1 => exact q
theorem lift_all {P : Out W → Prop} {o : Option (W × Sto)} (h : (lift o).All P) : ∃ w s, o = some (w, s) ∧ P (.ok w s) := by
  cases o with
  | none => exact h.elim
  | some p => exact ⟨p.1, p.2, rfl, h⟩

/-! ### names, constants -/
noncomputable def nth (l : Loc) : Nat → Option W := List.rec (motive := fun _ => Nat → Option W) (fun _ => none) (fun x _ ih n => Nat.casesOn (motive := fun _ => Option W) n x fun m => ih m) l
theorem nth_eq : ∀ {l : Loc} {i : Nat} {w : W}, nth l i = some w → l[i]? = some (some w)
  | [], _, _, h => by cases h
  | x :: r, 0, w, h => by
    have h : x = some w := h
    rw [h]; rfl
  | x :: r, i + 1, w, h => by
    have h : nth r i = some w := h
    simpa using nth_eq h
noncomputable def mVar (i : Nat) : EM := fun l st => Option.rec (motive := fun _ => Tr (Out W)) .bad (fun w => .lf (.ok w st)) (nth l i)
theorem s_var {i : Nat} {x : Str} {pos : Pos} (hN : X.N[i]? = some x) (hv : Vis X.env.scope x) (hd : (x == ("__debug__" : Str)) = false) (hcd : (x == ("__classdict__" : Str)) = false) : SE T X Wx (.Name x pos) (mVar i) := by
  refine weakE (pe_var hN hv hd hcd) fun σ H Q h => ?_
  obtain ⟨g, l, st, hl, hs, h⟩ := h
  unfold mVar at h
  cases e : nth l i with
  | none => rw [e] at h; exact h.elim
  | some w =>
    rw [e] at h
    obtain ⟨v, h1, h2⟩ := hl.at_ i w (nth_eq e)
    exact ⟨v, h1, h g H v Ext.refl hs h2⟩
def mC (w : W) : EM := fun _ st => .lf (.ok w st)
theorem s_const {e : Expr} {w : W} {v : V} (h : PE X e (tC v)) (r : ∀ g H, RW T g H w v) : SE T X Wx e (mC w) := by
  refine weakE h fun σ H Q q => ?_
  obtain ⟨g, l, st, hl, hs, q⟩ := q
  exact q g H v Ext.refl hs (r g H)
theorem s_int {i : Int} {j : Nat} {pos : Pos} : SE T X Wx (.Constant (.int i) j pos) (mC (.int i)) := s_const pe_int fun _ _ => RW.int i
theorem s_bl {i : Bool} {j : Nat} {pos : Pos} : SE T X Wx (.Constant (.bool i) j pos) (mC (.bl i)) := s_const pe_bl fun _ _ => RW.bl i
theorem s_non {j : Nat} {pos : Pos} : SE T X Wx (.Constant .none j pos) (mC .non) := s_const pe_non fun _ _ => RW.non
theorem s_str {i : Str} {j : Nat} {pos : Pos} : SE T X Wx (.Constant (.str i) j pos) (mC (.str i)) := s_const pe_str fun _ _ => RW.str i
/-- a name of the module: a constant, a def, a class -/
theorem s_glob {x : Str} {w : W} {v : V} {u : Value} {pos : Pos} (hg : Gl X x) (hm : X.mg x = some u) (r : RelV v u) (rw_ : ∀ g H, RW T g H w v) (hd : (x == ("__debug__" : Str)) = false) : SE T X Wx (.Name x pos) (mC w) := s_const (pe_glob hg hm r hd) rw_

/-! ### two-place operations -/
/-- r: what the rule asks, by the mirror -/
def rdO (T : Tb) (op : Op2) : R2 := fun x y H Q => ∃ g st wx wy w st', SR T g H st ∧ RW T g H wx x ∧ RW T g H wy y ∧ op wx wy st = some (w, st') ∧ ∀ g' H' v, Ext T g H g' H' → SR T g' H' st' → RW T g' H' w v → Q v H'
abbrev SO (T : Tb) (X : Cx) (f : Value → Value → Sem Value) (op : Op2) : Prop := OpR X f (rdO T op)
noncomputable def mOp2 (op : Op2) (a b : EM) : EM := fun l st => then_ (a l st) fun x st => then_ (b l st) fun y st => lift (op x y st)
theorem rd_op2 {op : Op2} {ma mb : EM} {σ : L2.St} {H : Hp} {Q : VK} (h : rdE T Wx (mOp2 op ma mb) σ H Q) : tOp (rdO T op) (rdE T Wx ma) (rdE T Wx mb) σ H Q := by
  obtain ⟨g, l, st, hl, hs, h⟩ := h
  refine rdE_then hl hs h fun x st1 g1 H1 v1 e1 s1 r1 l1 h => ?_
  refine rdE_then l1 s1 h fun y st2 g2 H2 v2 e2 s2 r2 l2 h => ?_
  obtain ⟨w, st', e, q⟩ := lift_all h
  exact ⟨g2, st2, x, y, w, st', s2, RW.ext e2 _ _ r1, r2, e, q⟩
theorem s_binop {op : Operator} {f : Op2} {a b : Expr} {ma mb : EM} {pos : Pos} (ho : SO T X (binaryOp op) f) (ha : SE T X Wx a ma) (hb : SE T X Wx b mb) : SE T X Wx (.BinOp a op b pos) (mOp2 f ma mb) :=
  weakE (pe_op ho ha hb) fun _ _ _ h => rd_op2 h
theorem s_cmp {op : CmpOp} {f : Op2} {a b : Expr} {ma mb : EM} {pos : Pos} (ho : SO T X (compareOp op) f) (ha : SE T X Wx a ma) (hb : SE T X Wx b mb) (hm : behindInMarks op b = false) : SE T X Wx (.Compare a [op] [b] pos) (mOp2 f ma mb) :=
  weakE (pe_cmpR ho ha hb hm) fun _ _ _ h => rd_op2 h
/-- a value that is a bool, as a test -/
noncomputable def mBool (m : EM) : TM := fun l st => then_ (m l st) fun w st => W.rec (motive_1 := fun _ => Tr (Out Bool)) (motive_2 := fun _ => Unit) .bad (fun b => .lf (.ok b st)) (fun _ => .bad) (fun _ => .bad) (fun _ _ => .bad) (fun _ => .bad) (fun _ => .bad) (fun _ => .bad) (fun _ => .bad) (fun _ => .bad) () (fun _ _ _ _ => ()) w
theorem mBool_bl (b : Bool) (st : Sto) : (W.rec (motive_1 := fun _ => Tr (Out Bool)) (motive_2 := fun _ => Unit) .bad (fun b => .lf (.ok b st)) (fun _ => .bad) (fun _ => .bad) (fun _ _ => .bad) (fun _ => .bad) (fun _ => .bad) (fun _ => .bad) (fun _ => .bad) (fun _ => .bad) () (fun _ _ _ _ => ()) (.bl b) : Tr (Out Bool)) = .lf (.ok b st) := rfl
theorem rd_bool {m : EM} {σ : L2.St} {H : Hp} {Q : Bool → Hp → Prop} (h : rdT T Wx (mBool m) σ H Q) : rdE T Wx m σ H fun x H' => ∃ k, x = .bl k ∧ Q k H' := by
  obtain ⟨g, l, st, hl, hs, h⟩ := h
  refine rdE_then hl hs h fun x st1 g1 H1 v1 e1 s1 r1 l1 h => ?_
  cases x with
  | bl b => exact ⟨b, rw_bl r1, h g1 H1 b Ext.refl s1 rfl⟩
  | _ => exact h.elim
theorem s_tcmp {op : CmpOp} {f : Op2} {a b : Expr} {ma mb : EM} {pos : Pos} (ho : SO T X (compareOp op) f) (ha : SE T X Wx a ma) (hb : SE T X Wx b mb) (hm : behindInMarks op b = false) : STt T X Wx (.Compare a [op] [b] pos) (mBool (mOp2 f ma mb)) := by
  refine weakT (pt_cmpR ho ha hb hm) fun σ H Q h => ?_
  exact rd_op2 (rd_bool h)
end
end MM
end

section
set_option Elab.async false
set_option linter.all false
set_option autoImplicit false
set_option maxRecDepth 100000
set_option maxHeartbeats 4000000
/-! MMC: the operations: arithmetic, order, equality, subscripts, slices, truth, built-ins. -/
namespace MM
open PySem PySem.Spec PyProof.Rows L2

theorem ltB {a b : Nat} (h : Nat.blt a b = true) : a < b := Nat.ble_eq.mp h
theorem leB {a b : Nat} (h : Nat.ble a b = true) : a ≤ b := Nat.ble_eq.mp h
noncomputable def posI (j : Int) : Bool := Int.rec (motive := fun _ => Bool) (fun n => Nat.blt 0 n) (fun _ => false) j
theorem posI_t {j : Int} (h : posI j = true) : 0 < j := by
  cases j with
  | ofNat n => have h : Nat.blt 0 n = true := h; have := ltB h; show (0 : Int) < (n : Int); omega
  | negSucc n => cases h
theorem posI_of {j : Int} (h : 0 < j) : posI j = true := by
  cases j with
  | ofNat n => exact Nat.ble_eq.mpr (by have : (0 : Int) < (n : Int) := h; omega)
  | negSucc n => exact absurd h (by omega)
noncomputable def nnI (j : Int) : Bool := Int.rec (motive := fun _ => Bool) (fun _ => true) (fun _ => false) j
theorem nnI_t {j : Int} (h : nnI j = true) : 0 ≤ j := by
  cases j with
  | ofNat n => exact Int.natCast_nonneg n
  | negSucc n => cases h
theorem nnI_of {j : Int} (h : 0 ≤ j) : nnI j = true := by
  cases j with
  | ofNat n => rfl
  | negSucc n => exact absurd h (by omega)
theorem bif_t {α : Type} {c : Bool} {x : α} {w : α} (h : (bif c then some x else none) = some w) : c = true ∧ x = w := by
  cases c with
  | true => exact ⟨rfl, Option.some.inj h⟩
  | false => cases h

section
variable {T : Tb} {X : Cx} {Wx : WX}
/-- two ints, by a rule of the layer -/
theorem so_int {f : Value → Value → Sem Value} {C : Int → Int → Prop} {k : Int → Int → V} {op : Op2} (rule : OpR X f (rI C k))
    (h : ∀ wx wy st w st', op wx wy st = some (w, st') → ∃ i j, wx = .int i ∧ wy = .int j ∧ st' = st ∧ C i j ∧ ∀ g H, RW T g H w (k i j)) : SO T X f op := by
  refine weakOp rule fun x y H Q q => ?_
  obtain ⟨g, st, wx, wy, w, st', hs, hx, hy, e, q⟩ := q
  obtain ⟨i, j, rfl, rfl, rfl, hC, r⟩ := h _ _ _ _ _ e
  exact ⟨i, j, rw_int hx, rw_int hy, hC, q g H _ Ext.refl hs (r g H)⟩
theorem so_int0 {f : Value → Value → Sem Value} {k : Int → Int → V} {op : Op2} (rule : OpR X f (rI0 k))
    (h : ∀ wx wy st w st', op wx wy st = some (w, st') → ∃ i j, wx = .int i ∧ wy = .int j ∧ st' = st ∧ ∀ g H, RW T g H w (k i j)) : SO T X f op := by
  refine weakOp rule fun x y H Q q => ?_
  obtain ⟨g, st, wx, wy, w, st', hs, hx, hy, e, q⟩ := q
  obtain ⟨i, j, rfl, rfl, rfl, r⟩ := h _ _ _ _ _ e
  exact ⟨i, j, rw_int hx, rw_int hy, q g H _ Ext.refl hs (r g H)⟩
/-- two ints only -/
noncomputable def intsO (k : Int → Int → Sto → Option (W × Sto)) : Op2 := fun x y s => match x with
  | .int i => match y with
    | .int j => k i j s
    | _ => none
  | _ => none
theorem ints_some {k : Int → Int → Sto → Option (W × Sto)} {x y w : W} {s s' : Sto} (h : intsO k x y s = some (w, s')) : ∃ i j, x = .int i ∧ y = .int j ∧ k i j s = some (w, s') := by
  unfold intsO at h
  split at h
  · split at h
    · exact ⟨_, _, rfl, rfl, h⟩
    · cases h
  · cases h

noncomputable def opSub : Op2 := intsO fun i j s => some (.int (i - j), s)
theorem so_sub : SO T X (binaryOp .Sub) opSub := so_int0 op_sub fun wx wy st w st' e => by
  obtain ⟨i, j, rfl, rfl, e⟩ := ints_some e
  cases e
  exact ⟨i, j, rfl, rfl, rfl, fun _ _ => RW.int _⟩
noncomputable def opMod : Op2 := intsO fun i j s => bif posI j then some (.int (i % j), s) else none
theorem so_mod : SO T X (binaryOp .Mod) opMod := so_int op_mod fun wx wy st w st' e => by
  obtain ⟨i, j, rfl, rfl, e⟩ := ints_some e
  obtain ⟨c, e⟩ := bif_t e
  cases e
  exact ⟨i, j, rfl, rfl, rfl, posI_t c, fun _ _ => RW.int _⟩
noncomputable def opFdiv : Op2 := intsO fun i j s => bif posI j && Nat.blt (Nat.log2 j.natAbs) 9000 then some (.int (i / j), s) else none
theorem so_fdiv : SO T X (binaryOp .FloorDiv) opFdiv := so_int op_fdivW fun wx wy st w st' e => by
  obtain ⟨i, j, rfl, rfl, e⟩ := ints_some e
  obtain ⟨c, e⟩ := bif_t e
  obtain ⟨c1, c2⟩ := Bool.and_eq_true_iff.mp c
  cases e
  exact ⟨i, j, rfl, rfl, rfl, ⟨posI_t c1, ltB c2⟩, fun _ _ => RW.int _⟩
noncomputable def opPow : Op2 := intsO fun i j s => bif nnI j && Nat.ble ((Nat.log2 i.natAbs + 1) * j.natAbs) 67108864 then some (.int (i ^ j.toNat), s) else none
theorem cpow_of {i j : Int} (c : (nnI j && Nat.ble j.natAbs 1000000 && Nat.blt i.natAbs (2 ^ 64)) = true) : CPow i j := by
  obtain ⟨c, c3⟩ := Bool.and_eq_true_iff.mp c
  obtain ⟨c1, c2⟩ := Bool.and_eq_true_iff.mp c
  have h1 := nnI_t c1
  have h2 := leB c2
  exact ⟨h1, by omega, ltB c3⟩
def CPowW (i j : Int) : Prop := 0 ≤ j ∧ (Nat.log2 i.natAbs + 1) * j.natAbs ≤ 67108864
theorem op_powW : OpR X (binaryOp .Pow) (rI CPowW fun i j => .int (i ^ j.toNat)) := opI fun i j _ _ _ _ _ hc q => by
  refine PyProof.Rows.pow_int hc.1 ?_ q
  have b : Builtin.Int.intBits i ≤ i.natAbs.log2 + 1 := by
    unfold Builtin.Int.intBits
    split <;> omega
  have h0 : 0 ≤ j := hc.1
  have h1 : Builtin.Int.intBits i * j.natAbs ≤ 67108864 := Nat.le_trans (Nat.mul_le_mul_right _ b) hc.2
  have h2 : ((Builtin.Int.intBits i : Nat) : Int) * j = ((Builtin.Int.intBits i * j.natAbs : Nat) : Int) := by
    rw [Int.natCast_mul, Int.natAbs_of_nonneg h0]
  rw [h2]
  omega
theorem so_pow : SO T X (binaryOp .Pow) opPow := so_int op_powW fun wx wy st w st' e => by
  obtain ⟨i, j, rfl, rfl, e⟩ := ints_some e
  obtain ⟨c, e⟩ := bif_t e
  obtain ⟨c1, c2⟩ := Bool.and_eq_true_iff.mp c
  cases e
  exact ⟨i, j, rfl, rfl, rfl, ⟨nnI_t c1, leB c2⟩, fun _ _ => RW.int _⟩
noncomputable def opShl : Op2 := intsO fun i j s => bif nnI j && Nat.ble j.natAbs 1000000 && Nat.blt i.natAbs (2 ^ 64) then some (.int (i * 2 ^ j.toNat), s) else none
theorem so_shl : SO T X (binaryOp .LShift) opShl := so_int op_shl fun wx wy st w st' e => by
  obtain ⟨i, j, rfl, rfl, e⟩ := ints_some e
  obtain ⟨c, e⟩ := bif_t e
  cases e
  exact ⟨i, j, rfl, rfl, rfl, cpow_of c, fun _ _ => RW.int _⟩
noncomputable def opShr : Op2 := intsO fun i j s => bif nnI j then some (.int (i / 2 ^ j.toNat), s) else none
theorem so_shr : SO T X (binaryOp .RShift) opShr := so_int op_shr fun wx wy st w st' e => by
  obtain ⟨i, j, rfl, rfl, e⟩ := ints_some e
  obtain ⟨c, e⟩ := bif_t e
  cases e
  exact ⟨i, j, rfl, rfl, rfl, nnI_t c, fun _ _ => RW.int _⟩
/-- bits of ints from 0 on -/
noncomputable def opBit (f : Nat → Nat → Nat) : Op2 := intsO fun i j s => bif nnI i && nnI j then some (.int (Int.ofNat (f i.toNat j.toNat)), s) else none
theorem so_and : SO T X (binaryOp .BitAnd) (opBit Nat.land) := so_int0 op_and fun wx wy st w st' e => by
  obtain ⟨i, j, rfl, rfl, e⟩ := ints_some e
  obtain ⟨c, e⟩ := bif_t e
  obtain ⟨c1, c2⟩ := Bool.and_eq_true_iff.mp c
  cases e
  exact ⟨i, j, rfl, rfl, rfl, fun _ _ => by rw [bitAnd_pp (nnI_t c1) (nnI_t c2)]; exact RW.int _⟩
theorem so_or : SO T X (binaryOp .BitOr) (opBit Nat.lor) := so_int0 op_or fun wx wy st w st' e => by
  obtain ⟨i, j, rfl, rfl, e⟩ := ints_some e
  obtain ⟨c, e⟩ := bif_t e
  obtain ⟨c1, c2⟩ := Bool.and_eq_true_iff.mp c
  cases e
  exact ⟨i, j, rfl, rfl, rfl, fun _ _ => by rw [_root_.Bits.bitOr_pp (nnI_t c1) (nnI_t c2)]; exact RW.int _⟩
theorem so_xor : SO T X (binaryOp .BitXor) (opBit Nat.xor) := so_int0 op_xor fun wx wy st w st' e => by
  obtain ⟨i, j, rfl, rfl, e⟩ := ints_some e
  obtain ⟨c, e⟩ := bif_t e
  obtain ⟨c1, c2⟩ := Bool.and_eq_true_iff.mp c
  cases e
  exact ⟨i, j, rfl, rfl, rfl, fun _ _ => by rw [_root_.Bits.bitXor_pp (nnI_t c1) (nnI_t c2)]; exact RW.int _⟩
noncomputable def opLt : Op2 := intsO fun i j s => some (.bl (decide (i < j)), s)
noncomputable def opLe : Op2 := intsO fun i j s => some (.bl (decide (i ≤ j)), s)
noncomputable def opGt : Op2 := intsO fun i j s => some (.bl (decide (j < i)), s)
noncomputable def opGe : Op2 := intsO fun i j s => some (.bl (decide (j ≤ i)), s)
theorem so_lt : SO T X (compareOp .Lt) opLt := so_int0 op_lt fun wx wy st w st' e => by
  obtain ⟨i, j, rfl, rfl, e⟩ := ints_some e
  cases e
  exact ⟨i, j, rfl, rfl, rfl, fun _ _ => RW.bl _⟩
theorem so_le : SO T X (compareOp .LtE) opLe := so_int0 op_le fun wx wy st w st' e => by
  obtain ⟨i, j, rfl, rfl, e⟩ := ints_some e
  cases e
  exact ⟨i, j, rfl, rfl, rfl, fun _ _ => RW.bl _⟩
theorem so_gt : SO T X (compareOp .Gt) opGt := so_int0 op_gt fun wx wy st w st' e => by
  obtain ⟨i, j, rfl, rfl, e⟩ := ints_some e
  cases e
  exact ⟨i, j, rfl, rfl, rfl, fun _ _ => RW.bl _⟩
theorem so_ge : SO T X (compareOp .GtE) opGe := so_int0 op_ge fun wx wy st w st' e => by
  obtain ⟨i, j, rfl, rfl, e⟩ := ints_some e
  cases e
  exact ⟨i, j, rfl, rfl, rfl, fun _ _ => RW.bl _⟩

/-! ### sums, products of any values -/
def lineN : Nat := 16777216
theorem lineN_eq : lineN = sizeLine := sizeLine_eq.symm
noncomputable def opAdd : Op2 := fun x y s => match x with
  | .int i => match y with
    | .int j => some (.int (i + j), s)
    | _ => none
  | .str a => match y with
    | .str b => bif Nat.ble (a.length + b.length) lineN then some (.str (a ++ b), s) else none
    | _ => none
  | .tup xs => match y with
    | .tup ys => bif Nat.ble (xs.length + ys.length) lineN then some (.tup (xs ++ ys), s) else none
    | _ => none
  | .obj m => match y with
    | .obj n => match s.get m with
      | some (.lst xs) => match s.get n with
        | some (.lst ys) => bif Nat.ble (xs.length + ys.length) lineN then some (.obj s.n, s.new (.lst (xs ++ ys))) else none
        | _ => none
      | _ => none
    | _ => none
  | _ => none
theorem SR.lst {g : Gm} {H : Hp} {s : Sto} {n : Nat} {xs : List W} (h : SR T g H s) (e : s.get n = some (.lst xs)) : n < g.N ∧ ∃ vs, H (g.ρ n) = some (.lst vs) ∧ vs.length ≤ sizeLine ∧ RWs T g H xs vs := h.at_ e
/-- a new list is laid -/
theorem SR.newL {g : Gm} {H : Hp} {s : Sto} {p : Addr} {xs : List W} {vs : List V} (h : SR T g H s) (n : H p = none) (hz : vs.length ≤ sizeLine) (r : RWs T g H xs vs) :
    Ext T g H (g.add p) (upd H p (.lst vs)) ∧ SR T (g.add p) (upd H p (.lst vs)) (s.new (.lst xs)) ∧ RW T (g.add p) (upd H p (.lst vs)) (.obj s.n) (.ref p) := by
  have e : Ext T g H (g.add p) (upd H p (.lst vs)) := Ext.add n
  refine ⟨e, h.add n ⟨vs, upd_same, hz, RWs.ext e _ _ r⟩, ?_⟩
  have := RW.obj (T := T) (g := g.add p) (H := upd H p (.lst vs)) (n := g.N) (Nat.lt_succ_self _)
  rw [g.add_at] at this
  rw [h.n]
  exact this
/-- a list is changed -/
theorem SR.putL {g : Gm} {H : Hp} {s : Sto} {k : Nat} {xs : List W} {vs : List V} (h : SR T g H s) (hk : k < g.N) (hz : vs.length ≤ sizeLine) (r : RWs T g H xs vs) :
    Ext T g H g (upd H (g.ρ k) (.lst vs)) ∧ SR T g (upd H (g.ρ k) (.lst vs)) (s.put k (.lst xs)) := by
  have e : Ext T g H g (upd H (g.ρ k) (.lst vs)) := Ext.put h hk
  exact ⟨e, h.put hk ⟨vs, upd_same, hz, RWs.ext e _ _ r⟩⟩
/-- a new tuple is laid -/
theorem SR.tupN {g : Gm} {H : Hp} {s : Sto} {p : Addr} {xs : List W} {vs : List V} (h : SR T g H s) (n : H p = none) (hz : vs.length ≤ sizeLine) (r : RWs T g H xs vs) :
    Ext T g H g (upd H p (.tup vs)) ∧ SR T g (upd H p (.tup vs)) s ∧ RW T g (upd H p (.tup vs)) (.tup xs) (.ref p) := by
  have e : Ext T g H g (upd H p (.tup vs)) := Ext.newT n
  exact ⟨e, h.newT n, RW.tup (.inl (.inl upd_same)) hz (RWs.ext e _ _ r)⟩
theorem RWs.nil_iff {g : Gm} {H : Hp} {xs : List W} {vs : List V} (r : RWs T g H xs vs) : vs = [] ↔ xs = [] := by
  have h := r.length
  constructor
  · intro e; rw [e] at h; exact List.eq_nil_of_length_eq_zero h
  · intro e; rw [e] at h; exact List.eq_nil_of_length_eq_zero h.symm
theorem so_add (F : Fast T X) : SO T X (binaryOp .Add) opAdd := by
  intro pins s σ H x y v u Q I rx ry h
  obtain ⟨g, st, wx, wy, w, st', hs, hx, hy, e, q⟩ := h
  unfold opAdd at e
  split at e
  · split at e
    · cases e
      exact op_add pins s σ H x y v u Q I rx ry ⟨_, _, rw_int hx, rw_int hy, q g H _ Ext.refl hs (RW.int _)⟩
    · cases e
  · split at e
    · obtain ⟨c, e⟩ := bif_t e
      cases e
      have c := leB c
      rw [lineN_eq] at c
      exact op_add_str pins s σ H x y v u Q I rx ry ⟨_, _, rw_str hx, rw_str hy, c, q g H _ Ext.refl hs (RW.str _)⟩
    · cases e
  · split at e
    · obtain ⟨c, e⟩ := bif_t e
      cases e
      have c := leB c
      rw [lineN_eq] at c
      obtain ⟨a, vs, rfl, ha, hza, ra⟩ := rw_tup hx
      obtain ⟨b, us, rfl, hb, hzb, rb⟩ := rw_tup hy
      rename_i xs ys
      have la := ra.length
      have lb := rb.length
      refine op_catA pins s σ H _ _ v u Q I rx ry ⟨a, b, vs, us, rfl, rfl, F.k ▸ ha, F.k ▸ hb, by omega, fun e => ?_, fun e1 e2 => ?_, fun e1 e2 p hp => ?_⟩
      · have e := (RWs.nil_iff ra).mp e
        subst e
        exact q g H _ Ext.refl hs (RW.tup hb hzb rb)
      · have e := (RWs.nil_iff rb).mp e2
        subst e
        refine q g H _ Ext.refl hs (RW.tup ha hza ?_)
        rw [List.append_nil]
        exact ra
      · obtain ⟨x1, x2, x3⟩ := hs.tupN hp (vs := vs ++ us) (by rw [List.length_append]; omega) (ra.append rb)
        exact q _ _ _ x1 x2 x3
    · cases e
  · split at e
    · split at e
      · split at e
        · obtain ⟨c, e⟩ := bif_t e
          cases e
          have c := leB c
          rw [lineN_eq] at c
          rename_i e1 _ _ e2 _
          obtain ⟨hm, rfl⟩ := rw_obj hx
          obtain ⟨hn, rfl⟩ := rw_obj hy
          obtain ⟨_, vs, h1, hz1, r1⟩ := hs.lst e1
          obtain ⟨_, us, h2, hz2, r2⟩ := hs.lst e2
          have l1 := r1.length
          have l2 := r2.length
          refine op_cat pins s σ H _ _ v u Q I rx ry ⟨_, _, vs, us, rfl, rfl, h1, h2, by omega, fun p hp => ?_⟩
          obtain ⟨x1, x2, x3⟩ := hs.newL hp (vs := vs ++ us) (by rw [List.length_append]; omega) (r1.append r2)
          exact q _ _ _ x1 x2 x3
        · cases e
      · cases e
    · cases e
  · cases e
/-- a text k times -/
def repS (z : Str) (k : Nat) : Str := ⟨(List.replicate k z.cps).foldl (· ++ ·) #[]⟩
theorem repS_size (z : Array Nat) : ∀ (k : Nat) (a : Array Nat), ((List.replicate k z).foldl (· ++ ·) a).size = a.size + k * z.size
  | 0, a => by simp
  | k + 1, a => by
    rw [List.replicate_succ, List.foldl_cons, repS_size z k, Array.size_append, Nat.succ_mul]
    omega
noncomputable def opMul : Op2 := fun x y s => match x with
  | .int i => match y with
    | .int j => bif Nat.blt (Nat.log2 i.natAbs + Nat.log2 j.natAbs) 1000000 then some (.int (i * j), s) else none
    | _ => none
  | .str z => match y with
    | .int k => bif nnI k && Nat.ble k.toNat 1000 && Nat.blt 0 z.length && Nat.ble z.length 1000 then some (.str (repS z k.toNat), s) else none
    | _ => none
  | .tup xs => match y with
    | .int k => bif !xs.isEmpty && posI (k - 1) && Nat.ble k.toNat 1000 && Nat.ble xs.length 1000 then some (.tup (List.replicate k.toNat xs).flatten, s) else none
    | _ => none
  | .obj n => match y with
    | .int k => match s.get n with
      | some (.lst xs) => bif Nat.ble k.natAbs lineN && Nat.ble (xs.length * k.toNat) lineN then some (.obj s.n, s.new (.lst (List.replicate k.toNat xs).flatten)) else none
      | _ => none
    | _ => none
  | _ => none
theorem RWs.rep {g : Gm} {H : Hp} {xs : List W} {vs : List V} (r : RWs T g H xs vs) : ∀ k : Nat, RWs T g H (List.replicate k xs).flatten (List.replicate k vs).flatten
  | 0 => RWs.nil
  | k + 1 => by
    rw [List.replicate_succ, List.replicate_succ, List.flatten_cons, List.flatten_cons]
    exact r.append (RWs.rep r k)
theorem rep_len {α : Type} (xs : List α) : ∀ k : Nat, (List.replicate k xs).flatten.length = k * xs.length
  | 0 => by simp
  | k + 1 => by rw [List.replicate_succ, List.flatten_cons, List.length_append, rep_len xs k, Nat.succ_mul]; omega
theorem so_mul (F : Fast T X) : SO T X (binaryOp .Mult) opMul := by
  intro pins s σ H x y v u Q I rx ry h
  obtain ⟨g, st, wx, wy, w, st', hs, hx, hy, e, q⟩ := h
  have hsz : sizeLine = 16777216 := sizeLine_eq
  unfold opMul at e
  split at e
  · split at e
    · obtain ⟨c, e⟩ := bif_t e
      cases e
      exact op_mulW pins s σ H x y v u Q I rx ry ⟨_, _, rw_int hx, rw_int hy, ltB c, q g H _ Ext.refl hs (RW.int _)⟩
    · cases e
  · split at e
    · obtain ⟨c, e⟩ := bif_t e
      cases e
      rename_i z _ k
      simp only [Bool.and_eq_true] at c
      obtain ⟨⟨⟨c1, c2⟩, c3⟩, c4⟩ := c
      have c1 := nnI_t c1
      have c2 := leB c2
      have c3 := ltB c3
      have c4 := leB c4
      have hx := rw_str hx
      have hy := rw_int hy
      subst hx
      subst hy
      obtain ⟨t, rfl⟩ := rx
      obtain ⟨u', rfl⟩ := ry
      have q := q g H _ Ext.refl hs (RW.str _)
      have zl : (repS z k.toNat).length ≤ sizeLine := by
        show ((List.replicate k.toNat z.cps).foldl (· ++ ·) #[]).size ≤ _
        rw [repS_size, hsz]
        have : k.toNat * z.cps.size ≤ 1000 * 1000 := Nat.mul_le_mul c2 c4
        show 0 + _ ≤ _
        omega
      have m : k.toNat * z.length ≤ 1000 * 1000 := Nat.mul_le_mul c2 c4
      have hk1 : k < 2 ^ 63 := by omega
      refine PySem.P.mul_str ?_ (fun h1 _ => ?_) (fun _ _ => ?_) ?_
      · rw [decide_eq_false (by omega), decide_eq_false (by omega)]; rfl
      · have hk : 1 ≤ k := by omega
        have : (z.length : Int) * k ≤ 2 ^ 63 - 1 := by
          have : (z.length : Int) * k ≤ 1000 * 1000 := by
            have c5 : k ≤ 1000 := by omega
            have c6 : (z.length : Int) ≤ 1000 := by omega
            have c7 : (0 : Int) ≤ 1000 := by omega
            exact Int.mul_le_mul c6 c5 c1 c7
          omega
        have := (Int.le_ediv_iff_mul_le (c := k) (a := (z.length : Int)) (b := 2 ^ 63 - 1) (by omega)).mpr this
        omega
      · rw [Nat.mul_comm] at m
        show decide (_ > sizeLine) = false
        exact decide_eq_false (by rw [hsz]; omega)
      · by_cases h1 : k < 1
        · rw [if_pos h1]
          have e0 : k.toNat = 0 := by omega
          rw [e0] at q
          exact ⟨by decide, .str _, _, I.tok _, ⟨_, rfl⟩, q⟩
        · rw [if_neg h1]
          by_cases h2 : (k == 1 || z.length == 0) = true
          · rw [if_pos h2]
            have e1 : k = 1 := by
              rcases Bool.or_eq_true_iff.mp h2 with h | h
              · exact eq_of_beq h
              · have := eq_of_beq h; omega
            subst e1
            have ez : repS z (1 : Int).toNat = z := by
              show (⟨#[] ++ z.cps⟩ : Str) = z
              rw [Array.empty_append]
            rw [ez] at q
            exact ⟨.str _, _, I, ⟨_, rfl⟩, q⟩
          · rw [if_neg h2]
            exact ⟨zl, .str _, _, I.tok _, ⟨_, rfl⟩, q⟩
    · cases e
  · split at e
    · obtain ⟨c, e⟩ := bif_t e
      cases e
      rename_i xs _ k
      simp only [Bool.and_eq_true, Bool.not_eq_true'] at c
      obtain ⟨⟨⟨c1, c2⟩, c3⟩, c4⟩ := c
      have c2 := posI_t c2
      have c3 := leB c3
      have c4 := leB c4
      obtain ⟨a, vs, rfl, ha, hza, ra⟩ := rw_tup hx
      have la := ra.length
      have ne : vs ≠ [] := fun e => by rw [(RWs.nil_iff ra).mp e] at c1; cases c1
      refine op_repT pins s σ H _ _ v u Q I rx ry ⟨a, _, vs, rfl, rw_int hy, F.k ▸ ha, ne, by omega, by omega, by omega, fun p hp => ?_⟩
      obtain ⟨x1, x2, x3⟩ := hs.tupN hp (vs := (List.replicate k.toNat vs).flatten) (by rw [rep_len, hsz]; have : k.toNat * vs.length ≤ 1000 * 1000 := Nat.mul_le_mul (by omega) (by omega); omega) (ra.rep k.toNat)
      exact q _ _ _ x1 x2 x3
    · cases e
  · split at e
    · split at e
      · obtain ⟨c, e⟩ := bif_t e
        cases e
        rename_i n _ k _ xs e1
        obtain ⟨c1, c2⟩ := Bool.and_eq_true_iff.mp c
        have c1 := leB c1
        have c2 := leB c2
        unfold lineN at c1 c2
        obtain ⟨hn, rfl⟩ := rw_obj hx
        obtain ⟨_, vs, h1, hz1, r1⟩ := hs.lst e1
        have l1 := r1.length
        refine op_rep pins s σ H _ _ v u Q I rx ry ⟨_, _, vs, rfl, rw_int hy, h1, by omega, by omega, by rw [← l1, hsz]; exact c2, fun p hp => ?_⟩
        obtain ⟨x1, x2, x3⟩ := hs.newL hp (vs := (List.replicate k.toNat vs).flatten) (by rw [rep_len, ← l1, hsz, Nat.mul_comm]; exact c2) (r1.rep k.toNat)
        exact q _ _ _ x1 x2 x3
      · cases e
    · cases e
  · cases e
end
end MM
end

section
set_option Elab.async false
set_option linter.all false
set_option autoImplicit false
set_option maxRecDepth 100000
set_option maxHeartbeats 4000000
/-! MMD: equality, membership, subscripts, slices, truth, built-ins. -/
namespace MM
open PySem PySem.Spec PyProof.Rows L2

/-! ### a value as data -/
def datL (f : W → Option PyData) : List W → Option (List PyData)
  | [] => some []
  | x :: xs => match f x with
    | some d => match datL f xs with
      | some ds => some (d :: ds)
      | none => none
    | none => none
noncomputable def dat : Nat → Sto → W → Option PyData
  | 0, _, _ => none
  | k + 1, s, w => match w with
    | .non => some .none
    | .bl b => some (.bool b)
    | .int i => some (.int i)
    | .str x => bif PyData.strOk x then some (.str x) else none
    | .tup xs => (datL (dat k s) xs).map .tuple
    | .obj n => match s.get n with
      | some (.lst xs) => (datL (dat k s) xs).map .list
      | _ => none
    | _ => none
section
variable {T : Tb} {X : Cx} {Wx : WX} {g : Gm} {H : Hp} {s : Sto}
theorem datL_ok {k : Nat} {f : W → Option PyData} (hf : ∀ w d v, f w = some d → RW T g H w v → Dp T.K H v d ∧ d.canLay0 = true ∧ d.depth ≤ k) :
    ∀ {xs : List W} {ds : List PyData} {vs : List V}, datL f xs = some ds → RWs T g H xs vs → DpAll T.K H vs ds ∧ PyData.canLayAll0 ds = true ∧ PyData.depthAll ds ≤ k
  | [], ds, vs, e, r => by
    simp only [RWs] at r
    have e : some [] = some ds := e
    cases e
    rw [r]
    exact ⟨.nil, by simp [PyData.canLayAll0], by simp [PyData.depthAll]⟩
  | x :: xs, ds, vs, e, r => by
    simp only [RWs] at r
    obtain ⟨v, vr, rfl, r1, r2⟩ := r
    unfold datL at e
    split at e
    · rename_i d e1
      split at e
      · rename_i ds' e2
        cases e
        obtain ⟨a1, a2, a3⟩ := hf x d v e1 r1
        obtain ⟨b1, b2, b3⟩ := datL_ok hf e2 r2
        exact ⟨.cons a1 b1, by simp [PyData.canLayAll0, a2, b2], by simp only [PyData.depthAll]; omega⟩
      · cases e
    · cases e
theorem dat_ok (hs : SR T g H s) : ∀ (k : Nat) (w : W) (d : PyData) (v : V), dat k s w = some d → RW T g H w v → Dp T.K H v d ∧ d.canLay0 = true ∧ d.depth ≤ k
  | 0, _, _, _, e, _ => by cases e
  | k + 1, w, d, v, e, r => by
    unfold dat at e
    split at e
    · cases e; rw [rw_non r]; exact ⟨.non, by simp [PyData.canLay0], by simp [PyData.depth]⟩
    · cases e; rw [rw_bl r]; exact ⟨.bl _, by simp [PyData.canLay0], by simp [PyData.depth]⟩
    · cases e; rw [rw_int r]; exact ⟨.int _, by simp [PyData.canLay0], by simp [PyData.depth]⟩
    · obtain ⟨c, e⟩ := bif_t' e
      cases e; rw [rw_str r]; exact ⟨.str _, by simpa [PyData.canLay0] using c, by simp [PyData.depth]⟩
    · rename_i xs
      cases h : datL (dat k s) xs with
      | none => rw [h] at e; cases e
      | some ds =>
        rw [h] at e
        cases e
        obtain ⟨a, vs, rfl, ha, hz, ra⟩ := rw_tup r
        obtain ⟨b1, b2, b3⟩ := datL_ok (fun w d v => dat_ok hs k w d v) h ra
        exact ⟨.tup ha b1, by simpa [PyData.canLay0] using b2, by simp only [PyData.depth]; omega⟩
    · rename_i n
      split at e
      · rename_i xs e1
        cases h : datL (dat k s) xs with
        | none => rw [h] at e; cases e
        | some ds =>
          rw [h] at e
          cases e
          obtain ⟨hn, rfl⟩ := rw_obj r
          obtain ⟨_, vs, h1, hz, ra⟩ := hs.lst e1
          obtain ⟨b1, b2, b3⟩ := datL_ok (fun w d v => dat_ok hs k w d v) h ra
          exact ⟨.lst (SqL.of h1) b1, by simpa [PyData.canLay0] using b2, by simp only [PyData.depth]; omega⟩
      · cases e
    · cases e
where bif_t' {α : Type} {c : Bool} {x : α} {w : α} (h : (bif c then some x else none) = some w) : c = true ∧ x = w := bif_t h
theorem dat_shaped (hs : SR T g H s) {w : W} {d : PyData} {v : V} (e : dat 40 s w = some d) (r : RW T g H w v) : Dp T.K H v d ∧ SeqAt.shaped d = true := by
  obtain ⟨a, b, c⟩ := dat_ok hs 40 w d v e r
  refine ⟨a, ?_⟩
  unfold SeqAt.shaped
  rw [b, decide_eq_true (by omega)] <;> rfl
/-- == of data -/
noncomputable def eqW (s : Sto) (x y : W) : Option Bool := match dat 40 s x with
  | some d => match dat 40 s y with
    | some e => some (PyData.eqv d e)
    | none => none
  | none => none
noncomputable def strEq : W → W → Option Bool := fun x y => match x with
  | .str a => match y with
    | .str b => some (a == b)
    | _ => none
  | _ => none
theorem strEq_some {x y : W} {b : Bool} (h : strEq x y = some b) : ∃ i j, x = .str i ∧ y = .str j ∧ b = (i == j) := by
  unfold strEq at h
  split at h
  · split at h
    · cases h; exact ⟨_, _, rfl, rfl, rfl⟩
    · cases h
  · cases h
noncomputable def opEq : Op2 := fun x y s => match strEq x y with
  | some b => some (.bl b, s)
  | none => match eqW s x y with
    | some b => some (.bl b, s)
    | none => none
noncomputable def opNe : Op2 := fun x y s => match strEq x y with
  | some b => some (.bl (!b), s)
  | none => match eqW s x y with
    | some b => some (.bl (!b), s)
    | none => none
theorem eqW_some {x y : W} {b : Bool} (h : eqW s x y = some b) : ∃ d e, dat 40 s x = some d ∧ dat 40 s y = some e ∧ b = PyData.eqv d e := by
  unfold eqW at h
  split at h
  · rename_i d e1
    split at h
    · rename_i e e2
      cases h
      exact ⟨d, e, e1, e2, rfl⟩
    · cases h
  · cases h
theorem so_eq (F : Fast T X) : SO T X (compareOp .Eq) opEq := by
  intro pins s0 σ H x y v u Q I rx ry h
  obtain ⟨g, st, wx, wy, w, st', hs, hx, hy, e, q⟩ := h
  unfold opEq at e
  split at e
  · rename_i b hb
    cases e
    obtain ⟨i, j, rfl, rfl, rfl⟩ := strEq_some hb
    have q' := q g H _ Ext.refl hs (RW.bl _)
    refine op_eq pins s0 σ H x y v u Q I rx ry ?_
    rw [rw_str hx, rw_str hy]
    refine ⟨rfl, ?_⟩
    rw [dec_str]
    exact q'
  · split at e
    · rename_i b hb
      cases e
      obtain ⟨d, e, e1, e2, rfl⟩ := eqW_some hb
      obtain ⟨a1, a2⟩ := dat_shaped hs e1 hx
      obtain ⟨b1, b2⟩ := dat_shaped hs e2 hy
      exact op_eqD (by have := F.un; omega) pins s0 σ H x y v u Q I rx ry ⟨d, e, F.k ▸ a1, F.k ▸ b1, a2, b2, q g H _ Ext.refl hs (RW.bl _)⟩
    · cases e
theorem so_ne (F : Fast T X) : SO T X (compareOp .NotEq) opNe := by
  intro pins s0 σ H x y v u Q I rx ry h
  obtain ⟨g, st, wx, wy, w, st', hs, hx, hy, e, q⟩ := h
  unfold opNe at e
  split at e
  · rename_i b hb
    cases e
    obtain ⟨i, j, rfl, rfl, rfl⟩ := strEq_some hb
    have q' := q g H _ Ext.refl hs (RW.bl _)
    refine op_ne pins s0 σ H x y v u Q I rx ry ?_
    rw [rw_str hx, rw_str hy]
    refine ⟨rfl, ?_⟩
    rw [dec_str]
    exact q'
  · split at e
    · rename_i b hb
      cases e
      obtain ⟨d, e, e1, e2, rfl⟩ := eqW_some hb
      obtain ⟨a1, a2⟩ := dat_shaped hs e1 hx
      obtain ⟨b1, b2⟩ := dat_shaped hs e2 hy
      exact op_neD (by have := F.un; omega) pins s0 σ H x y v u Q I rx ry ⟨d, e, F.k ▸ a1, F.k ▸ b1, a2, b2, q g H _ Ext.refl hs (RW.bl _)⟩
    · cases e
def isNon : W → Bool
  | .non => true
  | _ => false
theorem isNon_of {w : W} {v : V} (r : RW T g H w v) : decide (v = .non) = isNon w := by
  cases w with
  | non => rw [rw_non r]; rfl
  | bl b => rw [rw_bl r]; rfl
  | int b => rw [rw_int r]; rfl
  | str b => rw [rw_str r]; rfl
  | tup xs => obtain ⟨a, vs, rfl, _⟩ := rw_tup r; rfl
  | obj n => rw [(rw_obj r).2]; rfl
  | fn n => rw [rw_fn r]; rfl
  | cls n => rw [rw_cls r]; rfl
  | ty n => rw [rw_ty r]; rfl
  | scr ns => obtain ⟨a, rfl, _⟩ := rw_scr r; rfl
noncomputable def opIs : Op2 := fun x y s => match y with
  | .non => some (.bl (isNon x), s)
  | _ => none
noncomputable def opIsNot : Op2 := fun x y s => match y with
  | .non => some (.bl (!isNon x), s)
  | _ => none
theorem so_is : SO T X (compareOp .Is) opIs := by
  refine weakOp op_isN fun x y H Q h => ?_
  obtain ⟨g, st, wx, wy, w, st', hs, hx, hy, e, q⟩ := h
  unfold opIs at e
  split at e
  · cases e
    exact ⟨rw_non hy, q g H _ Ext.refl hs (by rw [isNon_of hx]; exact RW.bl _)⟩
  · cases e
theorem so_isNot : SO T X (compareOp .IsNot) opIsNot := by
  refine weakOp op_notN fun x y H Q h => ?_
  obtain ⟨g, st, wx, wy, w, st', hs, hx, hy, e, q⟩ := h
  unfold opIsNot at e
  split at e
  · cases e
    exact ⟨rw_non hy, q g H _ Ext.refl hs (by rw [isNon_of hx]; exact RW.bl _)⟩
  · cases e

/-! ### subscripts -/
noncomputable def opIx : Op2 := fun x y s => match y with
  | .int i => match x with
    | .tup xs => match atI xs i with
      | some w => some (w, s)
      | none => none
    | .obj n => match s.get n with
      | some (.lst xs) => match atI xs i with
        | some w => some (w, s)
        | none => none
      | _ => none
    | .scr ns => match atI ns i with
      | some k => some (.int k, s)
      | none => none
    | .str z => bif Nat.ble z.length lineN then (match atI z.cps.toList i with
      | some c => some (.str ⟨#[c]⟩, s)
      | none => none) else none
    | _ => none
  | _ => none
theorem RWs.atI {xs : List W} {vs : List V} {i : Int} {w : W} (r : RWs T g H xs vs) (h : L2.atI xs i = some w) : ∃ v, L2.atI vs i = some v ∧ RW T g H w v := by
  unfold L2.atI at h ⊢
  rw [← r.length]
  cases e : ixN xs.length i with
  | none => rw [e] at h; cases h
  | some j =>
    rw [e] at h
    exact r.get h
abbrev SIx (T : Tb) (X : Cx) : Prop := IxR X (rdO T opIx)
theorem s_ix (F : Fast T X) : SIx T X := by
  intro value slice pins s σ H x y v u Q I rx ry h hsub
  obtain ⟨g, st, wx, wy, w, st', hs, hx, hy, e, q⟩ := h
  unfold opIx at e
  split at e
  · split at e
    · split at e
      · rename_i w' e1
        cases e
        obtain ⟨a, vs, rfl, ha, hz, ra⟩ := rw_tup hx
        obtain ⟨v', h1, h2⟩ := ra.atI e1
        exact ix_tup value slice pins s σ H _ y v u Q I rx ry ⟨a, vs, _, v', rfl, rw_int hy, F.k ▸ ha, h1, q g H _ Ext.refl hs h2⟩ hsub
      · cases e
    · split at e
      · split at e
        · rename_i e0 _ _ e1
          cases e
          obtain ⟨hn, rfl⟩ := rw_obj hx
          obtain ⟨_, vs, h0, hz, ra⟩ := hs.lst e0
          obtain ⟨v', h1, h2⟩ := ra.atI e1
          exact ix_list value slice pins s σ H _ y v u Q I rx ry ⟨_, vs, _, v', rfl, rw_int hy, SqL.of h0, h1, q g H _ Ext.refl hs h2⟩ hsub
        · cases e
      · cases e
    · split at e
      · rename_i ns _ k e1
        cases e
        obtain ⟨a, rfl, h0⟩ := rw_scr hx
        refine ix_list value slice pins s σ H _ y v u Q I rx ry ⟨_, ns.map V.int, _, .int k, rfl, rw_int hy, F.k ▸ h0.seq, ?_, q g H _ Ext.refl hs (RW.int _)⟩ hsub
        unfold L2.atI at e1 ⊢
        rw [List.length_map]
        cases h : ixN ns.length _ with
        | none => rw [h] at e1; cases e1
        | some j =>
          rw [h] at e1
          show (ns.map V.int)[j]? = _
          rw [List.getElem?_map, show ns[j]? = some k from e1]
          rfl
      · cases e
    · cases hc : Nat.ble (Str.length _) lineN with
      | false => rw [hc] at e; cases e
      | true =>
        rw [hc] at e
        simp only [cond_true] at e
        split at e
        · rename_i c e1
          cases e
          have hc := leB hc
          rw [lineN_eq] at hc
          exact ix_str value slice pins s σ H x y v u Q I rx ry ⟨_, _, c, rw_str hx, rw_int hy, hc, e1, q g H _ Ext.refl hs (RW.str _)⟩ hsub
        · cases e
    · cases e
  · cases e
theorem s_sub {a b : Expr} {ma mb : EM} {pos : Pos} (F : Fast T X) (ha : SE T X Wx a ma) (hb : SE T X Wx b mb) (hs : PlainIx b) : SE T X Wx (.Subscript a b pos) (mOp2 opIx ma mb) :=
  weakE (pe_ix (s_ix F) ha hb hs) fun _ _ _ h => rd_op2 h

/-! ### slices -/
def cut {α : Type} (xs : List α) (lo hi : Option Int) : List α := (xs.drop (HT.sIx xs.length 0 lo)).take (HT.sIx xs.length xs.length hi - HT.sIx xs.length 0 lo)
theorem RWs.cut {xs : List W} {vs : List V} (r : RWs T g H xs vs) (lo hi : Option Int) : RWs T g H (MM.cut xs lo hi) (cutV vs lo hi) := by
  unfold MM.cut cutV
  rw [r.length]
  exact (r.drop _).take _
noncomputable def opSl (lo hi : Option Int) : Op1 := fun x s => match x with
  | .tup xs => some (.tup (cut xs lo hi), s)
  | .obj n => match s.get n with
    | some (.lst xs) => some (.obj s.n, s.new (.lst (cut xs lo hi)))
    | _ => none
  | _ => none
def rdSl (T : Tb) : V → Option Int → Option Int → Hp → VK → Prop := fun x lo hi H Q => ∃ g st wx w st', SR T g H st ∧ RW T g H wx x ∧ opSl lo hi wx st = some (w, st') ∧ ∀ g' H' v, Ext T g H g' H' → SR T g' H' st' → RW T g' H' w v → Q v H'
theorem cut_whole {α : Type} {xs : List α} {lo hi : Option Int} (h : HT.sIx xs.length 0 lo = 0 ∧ HT.sIx xs.length xs.length hi = xs.length) : cut xs lo hi = xs := by
  unfold cut
  rw [h.1, h.2]
  simp
theorem sl_any (F : Fast T X) : SlR X (rdSl T) := by
  intro pins s σ H x v vl vu lo hi sl Q I rx hsl pl pu h
  obtain ⟨g, st, wx, w, st', hs, hx, e, q⟩ := h
  unfold opSl at e
  split at e
  · cases e
    obtain ⟨a, vs, rfl, ha, hz, ra⟩ := rw_tup hx
    refine sl_tupA pins s σ H _ v vl vu lo hi sl Q I rx hsl pl pu ⟨a, vs, rfl, F.k ▸ ha, fun e => ?_, fun e p hp => ?_⟩
    · refine q g H _ Ext.refl hs ?_
      rw [← ra.length] at e
      rw [cut_whole e]
      exact RW.tup ha hz ra
    · obtain ⟨x1, x2, x3⟩ := hs.tupN hp (vs := cutV vs lo hi) (Nat.le_trans (cutV_length _ _ _) hz) (ra.cut lo hi)
      exact q _ _ _ x1 x2 x3
  · split at e
    · rename_i e0
      cases e
      obtain ⟨hn, rfl⟩ := rw_obj hx
      obtain ⟨_, vs, h0, hz, ra⟩ := hs.lst e0
      refine sl_list pins s σ H _ v vl vu lo hi sl Q I rx hsl pl pu ⟨_, vs, rfl, SqL.of h0, fun p hp => ?_⟩
      obtain ⟨x1, x2, x3⟩ := hs.newL hp (vs := cutV vs lo hi) (Nat.le_trans (cutV_length _ _ _) hz) (ra.cut lo hi)
      exact q _ _ _ x1 x2 x3
    · cases e
  · cases e
/-- a slice's part -/
abbrev OM := Loc → M (Option Int)
abbrev PoO (T : Tb) (Wx : WX) (σ : L2.St) := Po (α := Option Int) (β := Option Int) T Wx σ (fun _ _ a b => b = a)
def rdP (T : Tb) (Wx : WX) (m : OM) : TO := fun σ H Q => ∃ g l st, LR T g H l σ ∧ SR T g H st ∧ (m l st).All (PoO T Wx σ g H Q)
theorem weakO {e : Option Expr} {t t' : TO} (h : PO X e t) (w : ∀ σ H Q, t' σ H Q → t σ H Q) : PO X e t' := ⟨fun pins s σ H Q I q => h.run pins s σ H Q I (w σ H Q q)⟩
def mNoPart : OM := fun _ st => .lf (.ok none st)
noncomputable def mPart (m : EM) : OM := fun l st => then_ (m l st) fun w st => match w with
  | .int i => .lf (.ok (some i) st)
  | _ => .bad
theorem s_noPart : PO X none (rdP T Wx mNoPart) := weakO po_none fun σ H Q ⟨g, l, st, hl, hs, h⟩ => h g H none Ext.refl hs rfl
theorem s_part {e : Expr} {m : EM} (h : SE T X Wx e m) : PO X (some e) (rdP T Wx (mPart m)) := by
  refine weakO (po_some h) fun σ H Q ⟨g, l, st, hl, hs, h⟩ => ?_
  refine rdE_then hl hs h fun x st1 g1 H1 v1 e1 s1 r1 l1 h => ?_
  cases x with
  | int i => exact ⟨i, rw_int r1, h g1 H1 _ Ext.refl s1 rfl⟩
  | _ => exact h.elim
noncomputable def mSl (m : EM) (lo hi : OM) : EM := fun l st => then_ (m l st) fun x st => then_ (lo l st) fun a st => then_ (hi l st) fun b st => lift (opSl a b x st)
theorem s_slice {e : Expr} {lo hi : Option Expr} {p2 pos : Pos} {m : EM} {ml mh : OM} (F : Fast T X) (he : SE T X Wx e m) (hl : PO X lo (rdP T Wx ml)) (hh : PO X hi (rdP T Wx mh)) :
    SE T X Wx (.Subscript e (.Slice lo hi none p2) pos) (mSl m ml mh) := by
  refine weakE (pe_slice (sl_any F) he hl hh) fun σ H Q ⟨g, l, st, hl, hs, h⟩ => ?_
  refine rdE_then hl hs h fun x st1 g1 H1 v1 e1 s1 r1 l1 h => ?_
  refine ⟨g1, l, st1, l1, s1, (all_then h).mono fun o q => ?_⟩
  cases o with
  | ex c fs st2 => exact q
  | ok a st2 =>
    intro g2 H2 b e2 s2 rb
    subst rb
    refine ⟨g2, l, st2, l1.ext e2, s2, (all_then q).mono fun o q => ?_⟩
    cases o with
    | ex c fs st3 => exact q.ext e2
    | ok c st3 =>
      intro g3 H3 d e3 s3 rd
      subst rd
      obtain ⟨w, st', e, q⟩ := lift_all q
      exact ⟨g3, st3, x, w, st', s3, RW.ext (e2.trans e3) _ _ r1, e, q.ext (e2.trans e3)⟩

/-! ### truth -/
noncomputable def truW (s : Sto) : W → Option Bool
  | .non => some false
  | .bl b => some b
  | .int i => some (i != 0)
  | .str x => bif Nat.ble x.length lineN then some ((x.length : Int) != 0) else none
  | .tup xs => some (!xs.isEmpty)
  | .obj n => match s.get n with
    | some (.lst xs) => some (!xs.isEmpty)
    | _ => none
  | _ => none
theorem isEmpty_rws {xs : List W} {vs : List V} (r : RWs T g H xs vs) : vs.isEmpty = xs.isEmpty := by
  have h := r.length
  cases xs <;> cases vs <;> first | rfl | (simp at h)
theorem tru_of {w : W} {v : V} {b : Bool} (hs : SR T g H s) (r : RW T g H w v) (e : truW s w = some b) : TruV T.K v H b := by
  unfold truW at e
  split at e
  · cases e; rw [rw_non r]; exact rfl
  · cases e; rw [rw_bl r]; exact rfl
  · cases e; rw [rw_int r]; exact rfl
  · obtain ⟨c, e⟩ := bif_t e
    cases e
    have c := leB c
    rw [lineN_eq] at c
    rw [rw_str r]
    exact ⟨c, rfl⟩
  · cases e
    obtain ⟨a, vs, rfl, ha, hz, ra⟩ := rw_tup r
    exact .inr (.inl ⟨vs, ha, by rw [isEmpty_rws ra]⟩)
  · split at e
    · rename_i e0
      cases e
      obtain ⟨hn, rfl⟩ := rw_obj r
      obtain ⟨_, vs, h0, hz, ra⟩ := hs.lst e0
      exact .inl ⟨vs, SqL.of h0, by rw [isEmpty_rws ra]⟩
    · cases e
  · cases e
noncomputable def liftB (o : Option Bool) (st : Sto) : Tr (Out Bool) := Option.rec (motive := fun _ => Tr (Out Bool)) .bad (fun p => .lf (.ok p st)) o
theorem liftB_all {P : Out Bool → Prop} {o : Option Bool} {st : Sto} (h : (liftB o st).All P) : ∃ b, o = some b ∧ P (.ok b st) := by
  cases o with
  | none => exact h.elim
  | some p => exact ⟨p, rfl, h⟩
noncomputable def mTru (m : EM) : TM := fun l st => then_ (m l st) fun w st => liftB (truW st w) st
theorem rd_tru (F : Fast T X) {m : EM} {σ : L2.St} {H : Hp} {Q : Bool → Hp → Prop} (h : rdT T Wx (mTru m) σ H Q) : rdE T Wx m σ H fun x H' => ∃ k, TruV X.K x H' k ∧ Q k H' := by
  obtain ⟨g, l, st, hl, hs, h⟩ := h
  refine rdE_then hl hs h fun x st1 g1 H1 v1 e1 s1 r1 l1 h => ?_
  obtain ⟨b, e, q⟩ := liftB_all h
  exact ⟨b, F.k ▸ tru_of s1 r1 e, q g1 H1 b Ext.refl s1 rfl⟩
theorem s_truth {a : Expr} {m : EM} (F : Fast T X) (ha : SE T X Wx a m) (he : ∀ whole, isTrue a X.env whole = (do let v ← whole; standAt a.pos; holding [v] (truthy v))) : STt T X Wx a (mTru m) :=
  weakT (pt_truth ha he) fun _ _ _ h => rd_tru F h
end
end MM
end

section
set_option Elab.async false
set_option linter.all false
set_option autoImplicit false
set_option maxRecDepth 100000
set_option maxHeartbeats 4000000
/-! MME: and, or, not, chains, choices, displays, calls of built-ins and of defs. -/
namespace MM
open PySem PySem.Spec PyProof.Rows L2
section
variable {T : Tb} {X : Cx} {Wx : WX} {g : Gm} {H : Hp} {s : Sto} {pos : Pos}

/-! ### tests put together -/
noncomputable def mAnd (a b : TM) : TM := fun l st => then_ (a l st) fun c st => bif c then b l st else .lf (.ok false st)
noncomputable def mOr (a b : TM) : TM := fun l st => then_ (a l st) fun c st => bif c then .lf (.ok true st) else b l st
noncomputable def mNotT (a : TM) : TM := fun l st => then_ (a l st) fun c st => .lf (.ok (!c) st)
theorem s_and1 {a : Expr} {m : TM} (h : STt T X Wx a m) : SW T X Wx (.BoolOp .And [a] pos) m := pw_and1 h
theorem s_or1 {a : Expr} {m : TM} (h : STt T X Wx a m) : SW T X Wx (.BoolOp .Or [a] pos) m := pw_or1 h
theorem s_and {a b : Expr} {rest : List Expr} {m n : TM} (h : STt T X Wx a m) (h' : SW T X Wx (.BoolOp .And (b :: rest) pos) n) : SW T X Wx (.BoolOp .And (a :: b :: rest) pos) (mAnd m n) := by
  refine weakW (pw_and h h') fun σ H Q ⟨g, l, st, hl, hs, h⟩ => ?_
  refine rdT_then hl hs h fun c st1 g1 H1 e1 s1 l1 h => ?_
  cases c with
  | true =>
    rw [if_pos rfl]
    exact ⟨g1, l, st1, l1, s1, h⟩
  | false =>
    rw [if_neg Bool.false_ne_true]
    exact h g1 H1 false Ext.refl s1 rfl
theorem s_or {a b : Expr} {rest : List Expr} {m n : TM} (h : STt T X Wx a m) (h' : SW T X Wx (.BoolOp .Or (b :: rest) pos) n) : SW T X Wx (.BoolOp .Or (a :: b :: rest) pos) (mOr m n) := by
  refine weakW (pw_or h h') fun σ H Q ⟨g, l, st, hl, hs, h⟩ => ?_
  refine rdT_then hl hs h fun c st1 g1 H1 e1 s1 l1 h => ?_
  cases c with
  | true =>
    rw [if_pos rfl]
    exact h g1 H1 true Ext.refl s1 rfl
  | false =>
    rw [if_neg Bool.false_ne_true]
    exact ⟨g1, l, st1, l1, s1, h⟩
theorem s_whole {e : Expr} {m : TM} (h : SW T X Wx e m) : STt T X Wx e m := PW.pt h
theorem s_notT {a : Expr} {m : TM} (h : STt T X Wx a m) : STt T X Wx (.UnaryOp .Not a pos) (mNotT m) := by
  refine weakT (pt_not h) fun σ H Q ⟨g, l, st, hl, hs, h⟩ => ?_
  refine rdT_then hl hs h fun c st1 g1 H1 e1 s1 l1 h => ?_
  exact h g1 H1 (!c) Ext.refl s1 rfl

/-! ### the same as values -/
noncomputable def mAndV (a b : EM) : EM := fun l st => then_ (a l st) fun w st => match truW st w with
  | some true => b l st
  | some false => .lf (.ok w st)
  | none => .bad
noncomputable def mOrV (a b : EM) : EM := fun l st => then_ (a l st) fun w st => match truW st w with
  | some true => .lf (.ok w st)
  | some false => b l st
  | none => .bad
noncomputable def mNot (a : EM) : EM := fun l st => then_ (a l st) fun w st => match truW st w with
  | some b => .lf (.ok (.bl (!b)) st)
  | none => .bad
theorem s_one {op : BoolOp} {a : Expr} {m : EM} (h : SE T X Wx a m) : SE T X Wx (.BoolOp op [a] pos) m := pe_one h
theorem s_andV (F : Fast T X) {a b : Expr} {rest : List Expr} {m n : EM} (h : SE T X Wx a m) (h' : SE T X Wx (.BoolOp .And (b :: rest) pos) n) : SE T X Wx (.BoolOp .And (a :: b :: rest) pos) (mAndV m n) := by
  refine weakE (pe_andT h h') fun σ H Q ⟨g, l, st, hl, hs, h⟩ => ?_
  refine rdE_then hl hs h fun w st1 g1 H1 v1 e1 s1 r1 l1 h => ?_
  cases hb : truW st1 w with
  | none => rw [hb] at h; exact h.elim
  | some b =>
    rw [hb] at h
    refine ⟨b, F.k ▸ tru_of s1 r1 hb, ?_⟩
    cases b with
    | true => rw [if_pos rfl]; exact ⟨g1, l, st1, l1, s1, h⟩
    | false => rw [if_neg Bool.false_ne_true]; exact h g1 H1 _ Ext.refl s1 r1
theorem s_orV (F : Fast T X) {a b : Expr} {rest : List Expr} {m n : EM} (h : SE T X Wx a m) (h' : SE T X Wx (.BoolOp .Or (b :: rest) pos) n) : SE T X Wx (.BoolOp .Or (a :: b :: rest) pos) (mOrV m n) := by
  refine weakE (pe_orT h h') fun σ H Q ⟨g, l, st, hl, hs, h⟩ => ?_
  refine rdE_then hl hs h fun w st1 g1 H1 v1 e1 s1 r1 l1 h => ?_
  cases hb : truW st1 w with
  | none => rw [hb] at h; exact h.elim
  | some b =>
    rw [hb] at h
    refine ⟨b, F.k ▸ tru_of s1 r1 hb, ?_⟩
    cases b with
    | true => rw [if_pos rfl]; exact h g1 H1 _ Ext.refl s1 r1
    | false => rw [if_neg Bool.false_ne_true]; exact ⟨g1, l, st1, l1, s1, h⟩
theorem s_not (F : Fast T X) {a : Expr} {m : EM} (h : SE T X Wx a m) : SE T X Wx (.UnaryOp .Not a pos) (mNot m) := by
  refine weakE (pe_notT h) fun σ H Q ⟨g, l, st, hl, hs, h⟩ => ?_
  refine rdE_then hl hs h fun w st1 g1 H1 v1 e1 s1 r1 l1 h => ?_
  cases hb : truW st1 w with
  | none => rw [hb] at h; exact h.elim
  | some b =>
    rw [hb] at h
    exact ⟨b, F.k ▸ tru_of s1 r1 hb, h g1 H1 _ Ext.refl s1 (RW.bl _)⟩

/-! ### one-place operations -/
def rdU (T : Tb) (op : Op1) : V → Hp → VK → Prop := fun x H Q => ∃ g st wx w st', SR T g H st ∧ RW T g H wx x ∧ op wx st = some (w, st') ∧ ∀ g' H' v, Ext T g H g' H' → SR T g' H' st' → RW T g' H' w v → Q v H'
theorem weakUn {f : Value → Sem Value} {r r' : V → Hp → VK → Prop} (h : UnR X f r) (w : ∀ x H Q, r' x H Q → r x H Q) : UnR X f r' := fun pins s σ H x v Q I rx q => h pins s σ H x v Q I rx (w x H Q q)
noncomputable def mOp1 (op : Op1) (a : EM) : EM := fun l st => then_ (a l st) fun x st => lift (op x st)
theorem s_unop {op : UnaryOp} {f : Op1} {a : Expr} {m : EM} (ho : UnR X (unaryOp op) (rdU T f)) (ha : SE T X Wx a m) : SE T X Wx (.UnaryOp op a pos) (mOp1 f m) := by
  refine weakE (pe_un ho ha) fun σ H Q ⟨g, l, st, hl, hs, h⟩ => ?_
  refine rdE_then hl hs h fun x st1 g1 H1 v1 e1 s1 r1 l1 h => ?_
  obtain ⟨w, st', e, q⟩ := lift_all h
  exact ⟨g1, st1, x, w, st', s1, r1, e, q⟩
noncomputable def opNeg : Op1 := fun x s => match x with
  | .int i => some (.int (-i), s)
  | _ => none
theorem so_neg : UnR X (unaryOp .USub) (rdU T opNeg) := by
  refine weakUn un_neg fun x H Q ⟨g, st, wx, w, st', hs, hx, e, q⟩ => ?_
  unfold opNeg at e
  split at e
  · cases e; exact ⟨_, rw_int hx, q g H _ Ext.refl hs (RW.int _)⟩
  · cases e

/-! ### chains of two comparisons, choices -/
noncomputable def mChain (f f' : Op2) (a b c : EM) : EM := fun l st => then_ (a l st) fun x st => then_ (b l st) fun y st => then_ (lift (f x y st)) fun z st => match z with
  | .bl true => then_ (c l st) fun w st => lift (f' y w st)
  | .bl false => .lf (.ok (.bl false) st)
  | _ => .bad
theorem rd_chain {f f' : Op2} {ma mb mc : EM} {σ : L2.St} {H : Hp} {Q : VK} (h : rdE T Wx (mChain f f' ma mb mc) σ H Q) : tChain (rdO T f) (rdO T f') (rdE T Wx ma) (rdE T Wx mb) (rdE T Wx mc) σ H Q := by
  obtain ⟨g, l, st, hl, hs, h⟩ := h
  refine rdE_then hl hs h fun x st1 g1 H1 v1 e1 s1 r1 l1 h => ?_
  refine rdE_then l1 s1 h fun y st2 g2 H2 v2 e2 s2 r2 l2 h => ?_
  have h := all_then h
  obtain ⟨z, st3, e3, h⟩ := lift_all h
  refine ⟨g2, st2, x, y, z, st3, s2, RW.ext e2 _ _ r1, r2, e3, fun g3 H3 v3 e4 s3 r3 => ?_⟩
  cases z with
  | bl k =>
    refine ⟨k, rw_bl r3, ?_⟩
    cases k with
    | true =>
      rw [if_pos rfl]
      refine rdE_then (l2.ext e4) s3 (Tr.All.mono h fun o q => q.ext e4) fun w st4 g4 H4 v4 e5 s4 r4 l4 h => ?_
      obtain ⟨w', st', e, q⟩ := lift_all h
      exact ⟨g4, st4, y, w, w', st', s4, RW.ext (e4.trans e5) _ _ r2, r4, e, q⟩
    | false =>
      rw [if_neg Bool.false_ne_true]
      exact h g3 H3 _ e4 s3 (RW.bl _)
  | _ => exact h.elim
theorem s_chain {op op' : CmpOp} {f f' : Op2} {a b c : Expr} {ma mb mc : EM} (ho : SO T X (compareOp op) f) (ho' : SO T X (compareOp op') f') (ha : SE T X Wx a ma) (hb : SE T X Wx b mb) (hc : SE T X Wx c mc)
    (hm : lastMarks [op, op'] [b, c] = false) : SE T X Wx (.Compare a [op, op'] [b, c] pos) (mChain f f' ma mb mc) := weakE (pe_chain ho ho' ha hb hc hm) fun _ _ _ h => rd_chain h
theorem s_tchain {op op' : CmpOp} {f f' : Op2} {a b c : Expr} {ma mb mc : EM} (ho : SO T X (compareOp op) f) (ho' : SO T X (compareOp op') f') (ha : SE T X Wx a ma) (hb : SE T X Wx b mb) (hc : SE T X Wx c mc)
    (hm : lastMarks [op, op'] [b, c] = false) : STt T X Wx (.Compare a [op, op'] [b, c] pos) (mBool (mChain f f' ma mb mc)) := weakT (pt_chain ho ho' ha hb hc hm) fun _ _ _ h => rd_chain (rd_bool h)
noncomputable def mIf (c : TM) (a b : EM) : EM := fun l st => then_ (c l st) fun k st => bif k then a l st else b l st
theorem s_ifExp {c a b : Expr} {mc : TM} {ma mb : EM} (hc : STt T X Wx c mc) (ha : SE T X Wx a ma) (hb : SE T X Wx b mb) : SE T X Wx (.IfExp c a b pos) (mIf mc ma mb) := by
  refine weakE (pe_ifExp hc ha hb) fun σ H Q ⟨g, l, st, hl, hs, h⟩ => ?_
  refine rdT_then hl hs h fun k st1 g1 H1 e1 s1 l1 h => ?_
  cases k with
  | true => rw [if_pos rfl]; exact ⟨g1, l, st1, l1, s1, h⟩
  | false => rw [if_neg Bool.false_ne_true]; exact ⟨g1, l, st1, l1, s1, h⟩

/-! ### argument lists, displays -/
def mNil : AM := fun _ st => .lf (.ok [] st)
noncomputable def mCons (a : EM) (r : AM) : AM := fun l st => then_ (a l st) fun x st => then_ (r l st) fun xs st => .lf (.ok (x :: xs) st)
theorem s_nil : SA T X Wx [] mNil := weakA pa_nil fun σ H Q ⟨g, l, st, hl, hs, h⟩ => h g H [] Ext.refl hs RWs.nil
theorem rd_cons {a : EM} {r : AM} {σ : L2.St} {H : Hp} {Q : List V → Hp → Prop} (h : rdA T Wx (mCons a r) σ H Q) : tCons (rdE T Wx a) (rdA T Wx r) σ H Q := by
  obtain ⟨g, l, st, hl, hs, h⟩ := h
  refine rdE_then hl hs h fun x st1 g1 H1 v1 e1 s1 r1 l1 h => ?_
  refine rdA_then l1 s1 h fun y st2 g2 H2 v2 e2 s2 r2 l2 h => ?_
  exact h g2 H2 _ Ext.refl s2 (RWs.cons (RW.ext e2 _ _ r1) r2)
theorem s_cons {e : Expr} {es : List Expr} {m : EM} {r : AM} (he : SE T X Wx e m) (hr : SA T X Wx es r) (hs : starEach (e :: es) X.env = (false, eval e X.env) :: starEach es X.env) : SA T X Wx (e :: es) (mCons m r) :=
  weakA (pa_cons he hr hs) fun _ _ _ h => rd_cons h
noncomputable def mTup (a : AM) : EM := fun l st => then_ (a l st) fun xs st => bif Nat.ble xs.length lineN then .lf (.ok (.tup xs) st) else .bad
noncomputable def mLst (a : AM) : EM := fun l st => then_ (a l st) fun xs st => bif Nat.ble xs.length lineN then .lf (.ok (.obj st.n) (st.new (.lst xs))) else .bad
theorem s_tup {es : List Expr} {k : Nat} {m : AM} (h : SA T X Wx es m) : SE T X Wx (.Tuple es k pos) (mTup m) := by
  refine weakE (pe_tup h) fun σ H Q ⟨g, l, st, hl, hs, h⟩ => ?_
  refine rdA_then hl hs h fun xs st1 g1 H1 vs e1 s1 r1 l1 h => ?_
  cases hc : Nat.ble xs.length lineN with
  | false => rw [hc] at h; exact h.elim
  | true =>
    rw [hc] at h
    have hc := leB hc
    rw [lineN_eq, r1.length] at hc
    refine ⟨hc, fun p hp => ?_⟩
    obtain ⟨x1, x2, x3⟩ := s1.tupN hp hc r1
    exact h _ _ _ x1 x2 x3
theorem s_lst {es : List Expr} {m : AM} (h : SA T X Wx es m) : SE T X Wx (.List es pos) (mLst m) := by
  refine weakE (pe_lst h) fun σ H Q ⟨g, l, st, hl, hs, h⟩ => ?_
  refine rdA_then hl hs h fun xs st1 g1 H1 vs e1 s1 r1 l1 h => ?_
  cases hc : Nat.ble xs.length lineN with
  | false => rw [hc] at h; exact h.elim
  | true =>
    rw [hc] at h
    have hc := leB hc
    rw [lineN_eq, r1.length] at hc
    refine ⟨hc, fun p hp => ?_⟩
    obtain ⟨x1, x2, x3⟩ := s1.newL hp hc r1
    exact h _ _ _ x1 x2 x3

/-! ### built-ins -/
def rdC (T : Tb) (op : OpL) : List V → Hp → VK → Prop := fun vs H Q => ∃ g st ws w st', SR T g H st ∧ RWs T g H ws vs ∧ op ws st = some (w, st') ∧ ∀ g' H' v, Ext T g H g' H' → SR T g' H' st' → RW T g' H' w v → Q v H'
abbrev SC (T : Tb) (X : Cx) (f : Value) (op : OpL) : Prop := CallR X f (rdC T op)
noncomputable def mCall (op : OpL) (a : AM) : EM := fun l st => then_ (a l st) fun ws st => lift (op ws st)
theorem rd_call {op : OpL} {m : AM} {σ : L2.St} {H : Hp} {Q : VK} (h : rdE T Wx (mCall op m) σ H Q) : tCB (rdC T op) (rdA T Wx m) σ H Q := by
  obtain ⟨g, l, st, hl, hs, h⟩ := h
  refine rdA_then hl hs h fun ws st1 g1 H1 vs e1 s1 r1 l1 h => ?_
  obtain ⟨w, st', e, q⟩ := lift_all h
  exact ⟨g1, st1, ws, w, st', s1, r1, e, q⟩
theorem s_callB {id : String} {op : OpL} {x : Str} {p : Pos} {e : Expr} {es : List Expr} {m : AM} (hc : SC T X (.builtin id) op) (hg : Gl X x) (hm : X.mg x = none) (hv : bootBuiltins x = some (.builtin id)) (ha : SA T X Wx (e :: es) m)
    (hn : x ≠ "__name__") (hdb : (x == ("__debug__" : Str)) = false) (he : starEach (e :: es) X.env = (false, eval e X.env) :: starEach es X.env) (hpl : (backTo pos (starEach es X.env)).any (·.1) = false) :
    SE T X Wx (.Call (.Name x p) (e :: es) [] pos) (mCall op m) := weakE (pe_callB hc hg hm hv ha hn hdb he hpl) fun _ _ _ h => rd_call h
theorem s_callTy {id : String} {op : OpL} {x : Str} {p : Pos} {e : Expr} {es : List Expr} {m : AM} (hc : SC T X (.type id) op) (hg : Gl X x) (hm : X.mg x = none) (hv : bootBuiltins x = some (.type id)) (ha : SA T X Wx (e :: es) m)
    (hn : x ≠ "__name__") (hdb : (x == ("__debug__" : Str)) = false) (he : starEach (e :: es) X.env = (false, eval e X.env) :: starEach es X.env) (hpl : (backTo pos (starEach es X.env)).any (·.1) = false) :
    SE T X Wx (.Call (.Name x p) (e :: es) [] pos) (mCall op m) := weakE (pe_callTy hc hg hm hv ha hn hdb he hpl) fun _ _ _ h => rd_call h

theorem rws1 {x : W} {vs : List V} (h : RWs T g H [x] vs) : ∃ v, vs = [v] ∧ RW T g H x v := by
  simp only [RWs] at h
  obtain ⟨v, r, rfl, h1, rfl⟩ := h
  exact ⟨v, rfl, h1⟩
theorem rws2 {x y : W} {vs : List V} (h : RWs T g H [x, y] vs) : ∃ v u, vs = [v, u] ∧ RW T g H x v ∧ RW T g H y u := by
  simp only [RWs] at h
  obtain ⟨v, r, rfl, h1, u, r', rfl, h2, rfl⟩ := h
  exact ⟨v, u, rfl, h1, h2⟩
theorem rws3 {x y z : W} {vs : List V} (h : RWs T g H [x, y, z] vs) : ∃ v u t, vs = [v, u, t] ∧ RW T g H x v ∧ RW T g H y u ∧ RW T g H z t := by
  simp only [RWs] at h
  obtain ⟨v, r, rfl, h1, u, r', rfl, h2, t, r2, rfl, h3, rfl⟩ := h
  exact ⟨v, u, t, rfl, h1, h2, h3⟩
/-- f(x) of one argument -/
noncomputable def one (k : W → Sto → Option (W × Sto)) : OpL := fun ws s => match ws with
  | [x] => k x s
  | _ => none
noncomputable def two (k : W → W → Sto → Option (W × Sto)) : OpL := fun ws s => match ws with
  | [x, y] => k x y s
  | _ => none
theorem one_some {k : W → Sto → Option (W × Sto)} {ws : List W} {s s' : Sto} {w : W} (h : one k ws s = some (w, s')) : ∃ x, ws = [x] ∧ k x s = some (w, s') := by
  unfold one at h
  split at h
  · exact ⟨_, rfl, h⟩
  · cases h
theorem two_some {k : W → W → Sto → Option (W × Sto)} {ws : List W} {s s' : Sto} {w : W} (h : two k ws s = some (w, s')) : ∃ x y, ws = [x, y] ∧ k x y s = some (w, s') := by
  unfold two at h
  split at h
  · exact ⟨_, _, rfl, h⟩
  · cases h
noncomputable def opLen : OpL := one fun x s => match x with
  | .str z => bif Nat.ble z.length lineN then some (.int z.length, s) else none
  | .tup xs => some (.int xs.length, s)
  | .obj n => match s.get n with
    | some (.lst xs) => some (.int xs.length, s)
    | _ => none
  | .scr ns => some (.int ns.length, s)
  | _ => none
theorem sc_len (F : Fast T X) : SC T X (.builtin "len") opLen := by
  refine weakCall call_len fun vs H Q ⟨g, st, ws, w, st', hs, hx, e, q⟩ => ?_
  replace e := one_some e
  obtain ⟨x, rfl, e⟩ := e
  obtain ⟨v, rfl, r⟩ := rws1 hx
  split at e
  · obtain ⟨c, e⟩ := bif_t e
    cases e
    have c := leB c
    rw [lineN_eq] at c
    rw [rw_str r]
    exact ⟨_, _, rfl, ⟨c, rfl⟩, q g H _ Ext.refl hs (RW.int _)⟩
  · cases e
    obtain ⟨a, vs, rfl, ha, hz, ra⟩ := rw_tup r
    exact ⟨_, _, rfl, .inr ⟨vs, F.k ▸ ha, rfl⟩, q g H _ Ext.refl hs (by rw [ra.length]; exact RW.int _)⟩
  · split at e
    · rename_i e0
      cases e
      obtain ⟨hn, rfl⟩ := rw_obj r
      obtain ⟨_, vs, h0, hz, ra⟩ := hs.lst e0
      exact ⟨_, _, rfl, .inl ⟨vs, SqL.of h0, rfl⟩, q g H _ Ext.refl hs (by rw [ra.length]; exact RW.int _)⟩
    · cases e
  · cases e
    obtain ⟨a, rfl, h0⟩ := rw_scr r
    exact ⟨_, _, rfl, .inl ⟨_, F.k ▸ h0.seq, rfl⟩, q g H _ Ext.refl hs (by rw [List.length_map]; exact RW.int _)⟩
  · cases e
/-- what a value is, by its number -/
noncomputable def tyOf (s : Sto) : W → Option Nat
  | .non => some 6
  | .bl _ => some 1
  | .int _ => some 0
  | .str _ => some 5
  | .tup _ => some 2
  | .obj n => match s.get n with
    | some (.lst _) => some 3
    | some (.dct _) => some 4
    | _ => none
  | _ => none
def isTy (a b : Nat) : Bool := Nat.beq a b || (Nat.beq a 1 && Nat.beq b 0)
theorem kit_all : ∀ a, a < 7 → ∀ b, b < 6 → kitB (tyName a) (tyName b) = some (isTy a b) := by decide +kernel
theorem tyOf_lt {w : W} {k : Nat} (h : tyOf s w = some k) : k < 7 := by
  unfold tyOf at h
  split at h <;> first | (cases h; omega) | (split at h <;> first | (cases h; omega) | cases h) | cases h
theorem tyOf_ok {w : W} {v : V} {k : Nat} (hs : SR T g H s) (r : RW T g H w v) (h : tyOf s w = some k) : TyX T.K H v (.type (tyName k)) := by
  unfold tyOf at h
  split at h
  · cases h; rw [rw_non r]; exact .base .non
  · cases h; rw [rw_bl r]; exact .base (.bl _)
  · cases h; rw [rw_int r]; exact .base (.int _)
  · cases h; rw [rw_str r]; exact .base (.str _)
  · cases h
    obtain ⟨a, vs, rfl, ha, hz, ra⟩ := rw_tup r
    rcases ha with (ha | ⟨o, ha⟩) | ⟨o, its, n, h1, h2, _⟩
    · exact .base (.tup ha)
    · exact .fTuple ha
    · exact .kTuple h1 h2
  · split at h
    · rename_i e0
      cases h
      obtain ⟨hn, rfl⟩ := rw_obj r
      obtain ⟨_, vs, h0, hz, ra⟩ := hs.lst e0
      exact .base (.lst h0)
    · rename_i e0
      cases h
      obtain ⟨hn, rfl⟩ := rw_obj r
      obtain ⟨_, ks, h0, _⟩ := hs.at_ e0
      exact .base (.dK h0)
    · cases h
  · cases h
noncomputable def opIsi : OpL := two fun x y s => match y with
  | .ty b => match tyOf s x with
    | some a => bif Nat.blt b 6 then some (.bl (isTy a b), s) else none
    | none => none
  | _ => none
theorem sc_isi (F : Fast T X) : SC T X (.builtin "isinstance") opIsi := by
  refine weakCall call_isi fun vs H Q ⟨g, st, ws, w, st', hs, hx, e, q⟩ => ?_
  replace e := two_some e
  obtain ⟨x, y, rfl, e⟩ := e
  obtain ⟨v, u, rfl, r1, r2⟩ := rws2 hx
  split at e
  · split at e
    · rename_i b _ a ha
      obtain ⟨c, e⟩ := bif_t e
      cases e
      refine ⟨v, u, _, _, _, rfl, ?_, F.k ▸ tyOf_ok hs r1 ha, kit_ty (kit_all a (tyOf_lt ha) b (ltB c)), q g H _ Ext.refl hs (RW.bl _)⟩
      rw [rw_ty r2]
      exact .ty _
    · cases e
  · cases e
noncomputable def intsOf : List W → Option (List Int)
  | [] => some []
  | .int i :: r => match intsOf r with
    | some is => some (i :: is)
    | none => none
  | _ => none
theorem intsOf_ok : ∀ {ws : List W} {is : List Int} {vs : List V}, intsOf ws = some is → RWs T g H ws vs → vs = is.map V.int
  | [], is, vs, e, r => by
    cases e
    simp only [RWs] at r
    exact r
  | w :: ws, is, vs, e, r => by
    simp only [RWs] at r
    obtain ⟨v, vr, rfl, r1, r2⟩ := r
    cases w with
    | int i =>
      unfold intsOf at e
      split at e
      · rename_i is' e1
        cases e
        rw [intsOf_ok e1 r2, rw_int r1]
        rfl
      · cases e
    | _ => cases e
noncomputable def blsOf : List W → Option (List Bool)
  | [] => some []
  | .bl i :: r => match blsOf r with
    | some is => some (i :: is)
    | none => none
  | _ => none
theorem blsOf_ok : ∀ {ws : List W} {is : List Bool} {vs : List V}, blsOf ws = some is → RWs T g H ws vs → vs = is.map V.bl
  | [], is, vs, e, r => by
    cases e
    simp only [RWs] at r
    exact r
  | w :: ws, is, vs, e, r => by
    simp only [RWs] at r
    obtain ⟨v, vr, rfl, r1, r2⟩ := r
    cases w with
    | bl i =>
      unfold blsOf at e
      split at e
      · rename_i is' e1
        cases e
        rw [blsOf_ok e1 r2, rw_bl r1]
        rfl
      · cases e
    | _ => cases e
/-- of a list -/
noncomputable def ofList (k : List W → Sto → Option (W × Sto)) : OpL := one fun x s => match x with
  | .obj n => match s.get n with
    | some (.lst xs) => k xs s
    | _ => none
  | _ => none
theorem ofList_some {k : List W → Sto → Option (W × Sto)} {ws : List W} {s s' : Sto} {w : W} {vs : List V} (hs : SR T g H s) (hx : RWs T g H ws vs) (h : ofList k ws s = some (w, s')) :
    ∃ n xs us, ws = [.obj n] ∧ k xs s = some (w, s') ∧ vs = [.ref (g.ρ n)] ∧ H (g.ρ n) = some (.lst us) ∧ us.length ≤ sizeLine ∧ RWs T g H xs us := by
  obtain ⟨x, rfl, e⟩ := one_some h
  obtain ⟨v, rfl, r⟩ := rws1 hx
  split at e
  · split at e
    · rename_i e0
      obtain ⟨hn, rfl⟩ := rw_obj r
      obtain ⟨_, us, h0, hz, ra⟩ := hs.lst e0
      exact ⟨_, _, us, rfl, e, rfl, h0, hz, ra⟩
    · cases e
  · cases e
noncomputable def opAll : OpL := ofList fun xs s => match blsOf xs with
  | some bs => some (.bl (bs.all id), s)
  | none => none
noncomputable def opAny : OpL := ofList fun xs s => match blsOf xs with
  | some bs => some (.bl (bs.any id), s)
  | none => none
noncomputable def opSum : OpL := ofList fun xs s => match intsOf xs with
  | some bs => some (.int bs.sum, s)
  | none => none
theorem sc_all (F : Fast T X) : SC T X (.builtin "all") opAll := by
  refine weakCall (cr_all F.calm) fun vs H Q ⟨g, st, ws, w, st', hs, hx, e, q⟩ => ?_
  obtain ⟨n, xs, us, rfl, e, rfl, h0, hz, ra⟩ := ofList_some hs hx e
  split at e
  · rename_i bs hb
    cases e
    have := blsOf_ok hb ra
    subst this
    exact ⟨_, bs, rfl, SqL.of h0, q g H _ Ext.refl hs (RW.bl _)⟩
  · cases e
theorem sc_any (F : Fast T X) : SC T X (.builtin "any") opAny := by
  refine weakCall (cr_any F.calm) fun vs H Q ⟨g, st, ws, w, st', hs, hx, e, q⟩ => ?_
  obtain ⟨n, xs, us, rfl, e, rfl, h0, hz, ra⟩ := ofList_some hs hx e
  split at e
  · rename_i bs hb
    cases e
    have := blsOf_ok hb ra
    subst this
    exact ⟨_, bs, rfl, SqL.of h0, q g H _ Ext.refl hs (RW.bl _)⟩
  · cases e
theorem sc_sum (F : Fast T X) : SC T X (.builtin "sum") opSum := by
  refine weakCall (cr_sum F.calm) fun vs H Q ⟨g, st, ws, w, st', hs, hx, e, q⟩ => ?_
  obtain ⟨n, xs, us, rfl, e, rfl, h0, hz, ra⟩ := ofList_some hs hx e
  split at e
  · rename_i bs hb
    cases e
    have := intsOf_ok hb ra
    subst this
    exact ⟨_, bs, rfl, SqL.of h0, q g H _ Ext.refl hs (RW.int _)⟩
  · cases e
def maxI (i j : Int) : Int := if j > i then j else i
def minI (i j : Int) : Int := if j < i then j else i
/-- max of two or three ints, or of a list of them -/
noncomputable def opMax : OpL := fun ws s => match ws with
  | [.int i, .int j] => some (.int (maxI i j), s)
  | [.int i, .int j, .int k] => some (.int (maxI (maxI i j) k), s)
  | [.obj n] => match s.get n with
    | some (.lst xs) => match intsOf xs with
      | some (i :: is) => some (.int (is.foldl maxI i), s)
      | _ => none
    | _ => none
  | _ => none
noncomputable def opMin : OpL := fun ws s => match ws with
  | [.int i, .int j] => some (.int (minI i j), s)
  | [.obj n] => match s.get n with
    | some (.lst xs) => match intsOf xs with
      | some (i :: is) => some (.int (is.foldl minI i), s)
      | _ => none
    | _ => none
  | _ => none
theorem call_max3 (hc : X.calm = true) : CallR X (.builtin "max") (fun xs H Q => ∃ i j k, xs = [.int i, .int j, .int k] ∧ Q (.int (maxI (maxI i j) k)) H) := by
  intro pins s σ H xs us Q I r h
  obtain ⟨i, j, k, rfl, q⟩ := h
  cases r with
  | cons r1 r => cases r with
    | cons r2 r => cases r with
      | cons r3 r =>
        cases r
        obtain ⟨t1, rfl⟩ := r1
        obtain ⟨t2, rfl⟩ := r2
        obtain ⟨t3, rfl⟩ := r3
        refine max_three_ints (I.ok.hd hc) fun h' tk kp => ⟨_, H, I.kept kp, ?_, q⟩
        unfold maxI
        by_cases h1 : j > i
        · rw [if_pos h1, if_pos h1]
          by_cases h2 : k > j
          · rw [if_pos h2, if_pos h2]; exact ⟨_, rfl⟩
          · rw [if_neg h2, if_neg h2]; exact ⟨_, rfl⟩
        · rw [if_neg h1, if_neg h1]
          by_cases h2 : k > i
          · rw [if_pos h2, if_pos h2]; exact ⟨_, rfl⟩
          · rw [if_neg h2, if_neg h2]; exact ⟨_, rfl⟩
theorem foldl_max : ∀ (is : List Int) (i m : Int), (m = i ∨ m ∈ is) → i ≤ m → (∀ y ∈ is, y ≤ m) → is.foldl maxI i = m
  | [], i, m, h, _, _ => by
    rcases h with h | h
    · exact h.symm
    · cases h
  | a :: r, i, m, h, h1, h2 => by
    have ha := h2 a List.mem_cons_self
    refine foldl_max r (maxI i a) m ?_ (by unfold maxI; split <;> omega) fun y hy => h2 y (List.mem_cons_of_mem _ hy)
    rcases h with h | h
    · left; unfold maxI; split <;> omega
    · rcases List.mem_cons.mp h with h | h
      · left; unfold maxI; split <;> omega
      · exact .inr h
theorem foldl_min : ∀ (is : List Int) (i m : Int), (m = i ∨ m ∈ is) → m ≤ i → (∀ y ∈ is, m ≤ y) → is.foldl minI i = m
  | [], i, m, h, _, _ => by
    rcases h with h | h
    · exact h.symm
    · cases h
  | a :: r, i, m, h, h1, h2 => by
    have ha := h2 a List.mem_cons_self
    refine foldl_min r (minI i a) m ?_ (by unfold minI; split <;> omega) fun y hy => h2 y (List.mem_cons_of_mem _ hy)
    rcases h with h | h
    · left; unfold minI; split <;> omega
    · rcases List.mem_cons.mp h with h | h
      · left; unfold minI; split <;> omega
      · exact .inr h
theorem sc_max (F : Fast T X) : SC T X (.builtin "max") opMax := by
  intro pins s σ H xs us Q I r h
  obtain ⟨g, st, ws, w, st', hs, hx, e, q⟩ := h
  unfold opMax at e
  split at e
  · cases e
    obtain ⟨v, u, rfl, r1, r2⟩ := rws2 hx
    exact call_max2 F.calm pins s σ H _ us Q I r ⟨_, _, by rw [rw_int r1, rw_int r2], q g H _ Ext.refl hs (RW.int _)⟩
  · cases e
    obtain ⟨v, u, t, rfl, r1, r2, r3⟩ := rws3 hx
    exact call_max3 F.calm pins s σ H _ us Q I r ⟨_, _, _, by rw [rw_int r1, rw_int r2, rw_int r3], q g H _ Ext.refl hs (RW.int _)⟩
  · split at e
    · rename_i e0
      split at e
      · rename_i i is hi
        cases e
        obtain ⟨v, rfl, rv⟩ := rws1 hx
        obtain ⟨hn, rfl⟩ := rw_obj rv
        obtain ⟨_, us', h0, hz, ra⟩ := hs.lst e0
        have := intsOf_ok hi ra
        subst this
        refine cr_max F.calm pins s σ H _ us Q I r ⟨_, i :: is, rfl, SqL.of h0, by simp, fun m hm hle => ?_⟩
        refine q g H _ Ext.refl hs ?_
        rw [foldl_max is i m (List.mem_cons.mp hm) (hle i List.mem_cons_self) fun y hy => hle y (List.mem_cons_of_mem _ hy)]
        exact RW.int _
      · cases e
    · cases e
  · cases e
theorem sc_min (F : Fast T X) : SC T X (.builtin "min") opMin := by
  intro pins s σ H xs us Q I r h
  obtain ⟨g, st, ws, w, st', hs, hx, e, q⟩ := h
  unfold opMin at e
  split at e
  · cases e
    obtain ⟨v, u, rfl, r1, r2⟩ := rws2 hx
    exact call_min2 F.calm pins s σ H _ us Q I r ⟨_, _, by rw [rw_int r1, rw_int r2], q g H _ Ext.refl hs (RW.int _)⟩
  · split at e
    · rename_i e0
      split at e
      · rename_i i is hi
        cases e
        obtain ⟨v, rfl, rv⟩ := rws1 hx
        obtain ⟨hn, rfl⟩ := rw_obj rv
        obtain ⟨_, us', h0, hz, ra⟩ := hs.lst e0
        have := intsOf_ok hi ra
        subst this
        refine cr_min F.calm pins s σ H _ us Q I r ⟨_, i :: is, rfl, SqL.of h0, by simp, fun m hm hle => ?_⟩
        refine q g H _ Ext.refl hs ?_
        rw [foldl_min is i m (List.mem_cons.mp hm) (hle i List.mem_cons_self) fun y hy => hle y (List.mem_cons_of_mem _ hy)]
        exact RW.int _
      · cases e
    · cases e
  · cases e
noncomputable def opAbs : OpL := one fun x s => match x with
  | .int i => some (.int (if i < 0 then -i else i), s)
  | _ => none
theorem sc_abs : SC T X (.builtin "abs") opAbs := by
  refine weakCall call_abs fun vs H Q ⟨g, st, ws, w, st', hs, hx, e, q⟩ => ?_
  replace e := one_some e
  obtain ⟨x, rfl, e⟩ := e
  obtain ⟨v, rfl, r⟩ := rws1 hx
  split at e
  · cases e; exact ⟨_, by rw [rw_int r], q g H _ Ext.refl hs (RW.int _)⟩
  · cases e
noncomputable def opList : OpL := one fun x s => match x with
  | .tup xs => some (.obj s.n, s.new (.lst xs))
  | .obj n => match s.get n with
    | some (.lst xs) => some (.obj s.n, s.new (.lst xs))
    | _ => none
  | _ => none
theorem sc_list (F : Fast T X) : SC T X (.type "list") opList := by
  refine weakCall call_list_of fun vs H Q ⟨g, st, ws, w, st', hs, hx, e, q⟩ => ?_
  replace e := one_some e
  obtain ⟨x, rfl, e⟩ := e
  obtain ⟨v, rfl, r⟩ := rws1 hx
  split at e
  · cases e
    obtain ⟨a, vs, rfl, ha, hz, ra⟩ := rw_tup r
    refine ⟨a, vs, rfl, .inr (F.k ▸ ha), fun p hp => ?_⟩
    obtain ⟨x1, x2, x3⟩ := hs.newL hp hz ra
    exact q _ _ _ x1 x2 x3
  · split at e
    · rename_i e0
      cases e
      obtain ⟨hn, rfl⟩ := rw_obj r
      obtain ⟨_, vs, h0, hz, ra⟩ := hs.lst e0
      refine ⟨_, vs, rfl, .inl (SqL.of h0), fun p hp => ?_⟩
      obtain ⟨x1, x2, x3⟩ := hs.newL hp hz ra
      exact q _ _ _ x1 x2 x3
    · cases e
  · cases e
noncomputable def opTuple : OpL := one fun x s => match x with
  | .tup xs => some (.tup xs, s)
  | .obj n => match s.get n with
    | some (.lst xs) => some (.tup xs, s)
    | _ => none
  | _ => none
theorem sc_tuple (F : Fast T X) : SC T X (.type "tuple") opTuple := by
  refine weakCall call_tuple_of fun vs H Q ⟨g, st, ws, w, st', hs, hx, e, q⟩ => ?_
  replace e := one_some e
  obtain ⟨x, rfl, e⟩ := e
  obtain ⟨v, rfl, r⟩ := rws1 hx
  split at e
  · cases e
    obtain ⟨a, vs, rfl, ha, hz, ra⟩ := rw_tup r
    exact ⟨a, vs, rfl, .inr ⟨F.k ▸ ha, q g H _ Ext.refl hs (RW.tup ha hz ra)⟩⟩
  · split at e
    · rename_i e0
      cases e
      obtain ⟨hn, rfl⟩ := rw_obj r
      obtain ⟨_, vs, h0, hz, ra⟩ := hs.lst e0
      refine ⟨_, vs, rfl, .inl ⟨SqL.of h0, fun p hp => ?_⟩⟩
      obtain ⟨x1, x2, x3⟩ := hs.tupN hp hz ra
      exact q _ _ _ x1 x2 x3
    · cases e
  · cases e
end
end MM
end

section
set_option Elab.async false
set_option linter.all false
set_option autoImplicit false
set_option maxRecDepth 100000
set_option maxHeartbeats 4000000
/-! MMF: statements, targets, loops, defs. -/
namespace MM
open PySem PySem.Spec PyProof.Rows L2

inductive SOut where
  | nx (l : Loc) (s : Sto)
  | rt (w : W) (s : Sto)
  | bk (l : Loc) (s : Sto)
  | ct (l : Loc) (s : Sto)
  | ex (c : Nat) (fs : List W) (l : Loc) (s : Sto)
abbrev SM := Loc → Sto → Tr SOut
abbrev GM := W → Loc → Sto → Tr (Out Loc)
def PoS (T : Tb) (Wx : WX) (D : Ends) (g : Gm) (H : Hp) : SOut → Prop
  | .nx l st => ∀ g' H' σ', Ext T g H g' H' → SR T g' H' st → LR T g' H' l σ' → D.nx σ' H'
  | .rt w st => ∀ g' H' v, Ext T g H g' H' → SR T g' H' st → RW T g' H' w v → D.rt v H'
  | .bk l st => ∀ g' H' σ', Ext T g H g' H' → SR T g' H' st → LR T g' H' l σ' → D.bk σ' H'
  | .ct l st => ∀ g' H' σ', Ext T g H g' H' → SR T g' H' st → LR T g' H' l σ' → D.ct σ' H'
  | .ex c fs l st => ∀ g' H' σ' cls d, Ext T g H g' H' → SR T g' H' st → LR T g' H' l σ' → cls = Value.ref (T.ca c) → Wx cls d σ' H'
theorem PoS.ext {T : Tb} {Wx : WX} {D : Ends} {g g1 : Gm} {H H1 : Hp} {o : SOut} (e : Ext T g H g1 H1) (h : PoS T Wx D g H o) : PoS T Wx D g1 H1 o := by
  cases o with
  | nx l st => exact fun g' H' σ' e' => h g' H' σ' (e.trans e')
  | rt w st => exact fun g' H' v e' => h g' H' v (e.trans e')
  | bk l st => exact fun g' H' σ' e' => h g' H' σ' (e.trans e')
  | ct l st => exact fun g' H' σ' e' => h g' H' σ' (e.trans e')
  | ex c fs l st => exact fun g' H' σ' cls d e' => h g' H' σ' cls d (e.trans e')
def rdS (T : Tb) (Wx : WX) (m : SM) : TS := fun D σ H => ∃ g l st, LR T g H l σ ∧ SR T g H st ∧ (m l st).All (PoS T Wx D g H)
abbrev SS (T : Tb) (X : Cx) (Wx : WX) (st : Stmt) (m : SM) : Prop := PS X st (rdS T Wx m)
abbrev SSs (T : Tb) (X : Cx) (Wx : WX) (st : List Stmt) (m : SM) : Prop := PSs X st (rdS T Wx m)
theorem weakS {X : Cx} {st : Stmt} {t t' : TS} (h : PS X st t) (w : ∀ D σ H, t' D σ H → t D σ H) : PS X st t' := ⟨fun pins s σ H D I q => h.run pins s σ H D I (w D σ H q)⟩
theorem weakSs {X : Cx} {st : List Stmt} {t t' : TS} (h : PSs X st t) (w : ∀ D σ H, t' D σ H → t D σ H) : PSs X st t' := ⟨fun pins s σ H D I q => h.run pins s σ H D I (w D σ H q)⟩
/-- no exception is wished for -/
abbrev W0 : WX := fun _ _ _ _ => False

/-- an expression's reckoning, then a statement's -/
noncomputable def thenS {α : Type} (t : Tr (Out α)) (l : Loc) (k : α → Sto → Tr SOut) : Tr SOut :=
  t.bind fun o => Out.rec (motive := fun _ => Tr SOut) k (fun c fs s => .lf (.ex c fs l s)) o
@[simp] theorem thenS_ok {α : Type} (a : α) (s : Sto) (l : Loc) (k : α → Sto → Tr SOut) : thenS (.lf (.ok a s)) l k = k a s := rfl
@[simp] theorem thenS_ex {α : Type} (c : Nat) (fs : List W) (s : Sto) (l : Loc) (k : α → Sto → Tr SOut) : thenS (.lf (.ex c fs s)) l k = .lf (.ex c fs l s) := rfl
@[simp] theorem thenS_bad {α : Type} (l : Loc) (k : α → Sto → Tr SOut) : thenS .bad l k = .bad := rfl
@[simp] theorem thenS_ch {α : Type} (n : Nat) (f : Nat → Tr (Out α)) (l : Loc) (k : α → Sto → Tr SOut) : thenS (.ch n f) l k = .ch n fun i => thenS (f i) l k := rfl
theorem all_thenS {α : Type} {P : SOut → Prop} {l : Loc} {k : α → Sto → Tr SOut} {t : Tr (Out α)} (h : (thenS t l k).All P) :
    t.All fun o => match o with
      | .ok a s => (k a s).All P
      | .ex c fs s => P (.ex c fs l s) :=
  (Tr.all_bind.mp h).mono fun o q => by cases o <;> exact q

section
variable {T : Tb} {X : Cx} {Wx : WX} {pos : Pos}
theorem rdE_thenS {m : EM} {k : W → Sto → Tr SOut} {D : Ends} {g : Gm} {H : Hp} {l : Loc} {st : Sto} {σ : L2.St} {Q : V → Hp → Prop} (hl : LR T g H l σ) (hs : SR T g H st)
    (h : (thenS (m l st) l k).All (PoS T Wx D g H))
    (n : ∀ w st1 g1 H1 v, Ext T g H g1 H1 → SR T g1 H1 st1 → RW T g1 H1 w v → LR T g1 H1 l σ → (k w st1).All (PoS T Wx D g1 H1) → Q v H1) : rdE T Wx m σ H Q := by
  refine ⟨g, l, st, hl, hs, (all_thenS h).mono fun o q => ?_⟩
  cases o with
  | ok w st1 => exact fun g1 H1 v e s r => n w st1 g1 H1 v e s r (hl.ext e) (Tr.All.mono q fun o q => q.ext e)
  | ex c fs st1 => exact fun g1 H1 cls d e s r => q g1 H1 σ cls d e s (hl.ext e) r
theorem rdT_thenS {m : TM} {k : Bool → Sto → Tr SOut} {D : Ends} {g : Gm} {H : Hp} {l : Loc} {st : Sto} {σ : L2.St} {Q : Bool → Hp → Prop} (hl : LR T g H l σ) (hs : SR T g H st)
    (h : (thenS (m l st) l k).All (PoS T Wx D g H))
    (n : ∀ b st1 g1 H1, Ext T g H g1 H1 → SR T g1 H1 st1 → LR T g1 H1 l σ → (k b st1).All (PoS T Wx D g1 H1) → Q b H1) : rdT T Wx m σ H Q := by
  refine ⟨g, l, st, hl, hs, (all_thenS h).mono fun o q => ?_⟩
  cases o with
  | ok w st1 => exact fun g1 H1 v e s r => by subst r; exact n v st1 g1 H1 e s (hl.ext e) (Tr.All.mono q fun o q => q.ext e)
  | ex c fs st1 => exact fun g1 H1 cls d e s r => q g1 H1 σ cls d e s (hl.ext e) r
theorem rdA_thenS {m : AM} {k : List W → Sto → Tr SOut} {D : Ends} {g : Gm} {H : Hp} {l : Loc} {st : Sto} {σ : L2.St} {Q : List V → Hp → Prop} (hl : LR T g H l σ) (hs : SR T g H st)
    (h : (thenS (m l st) l k).All (PoS T Wx D g H))
    (n : ∀ w st1 g1 H1 v, Ext T g H g1 H1 → SR T g1 H1 st1 → RWs T g1 H1 w v → LR T g1 H1 l σ → (k w st1).All (PoS T Wx D g1 H1) → Q v H1) : rdA T Wx m σ H Q := by
  refine ⟨g, l, st, hl, hs, (all_thenS h).mono fun o q => ?_⟩
  cases o with
  | ok w st1 => exact fun g1 H1 v e s r => n w st1 g1 H1 v e s r (hl.ext e) (Tr.All.mono q fun o q => q.ext e)
  | ex c fs st1 => exact fun g1 H1 cls d e s r => q g1 H1 σ cls d e s (hl.ext e) r

/-! ### blocks -/
def mSkip : SM := fun l st => .lf (.nx l st)
noncomputable def mSeq (a b : SM) : SM := fun l st => (a l st).bind fun o => SOut.rec (motive := fun _ => Tr SOut) b (fun w s => .lf (.rt w s)) (fun l s => .lf (.bk l s)) (fun l s => .lf (.ct l s)) (fun c fs l s => .lf (.ex c fs l s)) o
theorem s_skip : SSs T X Wx [] mSkip := weakSs pss_nil fun D σ H ⟨g, l, st, hl, hs, h⟩ => h g H σ Ext.refl hs hl
theorem s_seq {s : Stmt} {rest : List Stmt} {a b : SM} (h : SS T X Wx s a) (h' : SSs T X Wx rest b) : SSs T X Wx (s :: rest) (mSeq a b) := by
  refine weakSs (pss_cons h h') fun D σ H ⟨g, l, st, hl, hs, h⟩ => ?_
  refine ⟨g, l, st, hl, hs, (Tr.all_bind.mp h).mono fun o q => ?_⟩
  cases o with
  | nx l' st' => exact fun g' H' σ' e s r => ⟨g', l', st', r, s, Tr.All.mono q fun o q => q.ext e⟩
  | rt w st' => exact q
  | bk l' st' => exact q
  | ct l' st' => exact q
  | ex c fs l' st' => exact q
theorem s_last {s : Stmt} {a : SM} (h : SS T X Wx s a) : SSs T X Wx [s] a := pss_one h
theorem s_pass : SS T X Wx (.Pass pos) mSkip := weakS ps_pass fun D σ H ⟨g, l, st, hl, hs, h⟩ => h g H σ Ext.refl hs hl
def mBreak : SM := fun l st => .lf (.bk l st)
def mCont : SM := fun l st => .lf (.ct l st)
theorem s_break : SS T X Wx (.Break pos) mBreak := weakS ps_break fun D σ H ⟨g, l, st, hl, hs, h⟩ => h g H σ Ext.refl hs hl
theorem s_cont : SS T X Wx (.Continue pos) mCont := weakS ps_continue fun D σ H ⟨g, l, st, hl, hs, h⟩ => h g H σ Ext.refl hs hl
/-- what is never reached -/
def mNever : SM := fun _ _ => .bad
theorem s_never {s : Stmt} : SS T X Wx s mNever := weakS ps_never fun D σ H ⟨g, l, st, hl, hs, h⟩ => h.elim
noncomputable def mRet (m : EM) : SM := fun l st => thenS (m l st) l fun w st => .lf (.rt w st)
def mRetN : SM := fun l st => .lf (.rt .non st)
theorem s_ret {e : Expr} {m : EM} (h : SE T X Wx e m) : SS T X Wx (.Return (some e) pos) (mRet m) := by
  refine weakS (ps_ret h) fun D σ H ⟨g, l, st, hl, hs, h⟩ => ?_
  exact rdE_thenS hl hs h fun w st1 g1 H1 v1 e1 s1 r1 l1 h => h g1 H1 v1 Ext.refl s1 r1
theorem s_retN : SS T X Wx (.Return none pos) mRetN := weakS ps_retN fun D σ H ⟨g, l, st, hl, hs, h⟩ => h g H _ Ext.refl hs RW.non
noncomputable def mExp (m : EM) : SM := fun l st => thenS (m l st) l fun _ st => .lf (.nx l st)
theorem s_expr {e : Expr} {m : EM} (h : SE T X Wx e m) (hs : swapsWith e none pos.line X.env = pure false) : SS T X Wx (.Expr e pos) (mExp m) := by
  refine weakS (ps_expr h hs) fun D σ H ⟨g, l, st, hl, hs, h⟩ => ?_
  exact rdE_thenS hl hs h fun w st1 g1 H1 v1 e1 s1 r1 l1 h => h g1 H1 σ Ext.refl s1 l1
noncomputable def mIfS (c : TM) (a b : SM) : SM := fun l st => thenS (c l st) l fun k st => bif k then a l st else b l st
theorem s_if {c : Expr} {a b : List Stmt} {mc : TM} {ma mb : SM} (hc : STt T X Wx c mc) (ha : SSs T X Wx a ma) (hb : SSs T X Wx b mb) : SS T X Wx (.If c a b pos) (mIfS mc ma mb) := by
  refine weakS (ps_if hc ha hb) fun D σ H ⟨g, l, st, hl, hs, h⟩ => ?_
  refine rdT_thenS hl hs h fun k st1 g1 H1 e1 s1 l1 h => ?_
  cases k with
  | true => rw [if_pos rfl]; exact ⟨g1, l, st1, l1, s1, h⟩
  | false => rw [if_neg Bool.false_ne_true]; exact ⟨g1, l, st1, l1, s1, h⟩

/-! ### targets -/
/-- S: the slots that may be stored -/
def RelG (T : Tb) (σ : L2.St) (S : List Nat) (g : Gm) (H : Hp) (l : Loc) (σ' : L2.St) : Prop := LR T g H l σ' ∧ (∀ j, j ∉ S → σ'[j]? = σ[j]?) ∧ σ'.length = σ.length
abbrev PoG (T : Tb) (Wx : WX) (σ : L2.St) (S : List Nat) := Po (α := Loc) (β := L2.St) T Wx σ (RelG T σ S)
def rdG (T : Tb) (Wx : WX) (S : List Nat) (m : GM) : TG := fun v σ H Q => ∃ g l st w, LR T g H l σ ∧ SR T g H st ∧ RW T g H w v ∧ (m w l st).All (PoG T Wx σ S g H Q)
abbrev SG (T : Tb) (X : Cx) (Wx : WX) (S : List Nat) (e : Expr) (m : GM) : Prop := PG X e (rdG T Wx S m)
theorem weakG {e : Expr} {t t' : TG} (h : PG X e t) (w : ∀ v σ H Q, t' v σ H Q → t v σ H Q) : PG X e t' := ⟨fun pins s σ H v u Q I r q => h.run pins s σ H v u Q I r (w v σ H Q q)⟩
noncomputable def setL (l : Loc) (i : Nat) (w : W) : Loc := List.rec (motive := fun _ => Nat → Loc) (fun _ => []) (fun x r ih n => Nat.casesOn (motive := fun _ => Loc) n (some w :: r) fun m => x :: ih m) l i
theorem setL_eq : ∀ (l : Loc) (i : Nat) (w : W), setL l i w = l.set i (some w)
  | [], _, _ => rfl
  | x :: r, 0, w => rfl
  | x :: r, i + 1, w => by
    show x :: setL r i w = x :: r.set i (some w)
    rw [setL_eq]
noncomputable def gVar (i : Nat) : GM := fun w l st => .lf (.ok (setL l i w) st)
theorem s_gname {i : Nat} {x : Str} (hN : X.N.Nodup) (hi : X.N[i]? = some x) (hx : L2.Loc X.env.scope x) (hf : X.fn x = true ∨ X.env.scope.names.lookup x = some .local) : SG T X Wx [i] (.Name x pos) (gVar i) := by
  refine weakG (pg_name hN hi hx hf) fun v σ H Q ⟨g, l, st, w, hl, hs, r, h⟩ => ?_
  refine h g H _ Ext.refl hs ⟨?_, fun j hj => ?_, List.length_set⟩
  · rw [setL_eq]
    exact hl.set i r
  · rw [List.getElem?_set_ne fun z => hj (by rw [z]; exact List.mem_cons_self)]
/-- several targets in a row -/
abbrev GMs := List W → Loc → Sto → Tr (Out Loc)
def rdGs (T : Tb) (Wx : WX) (S : List Nat) (m : GMs) : TGs := fun vs σ H Q => ∃ g l st ws, LR T g H l σ ∧ SR T g H st ∧ RWs T g H ws vs ∧ (m ws l st).All (PoG T Wx σ S g H Q)
theorem weakGs {e : List Expr} {t t' : TGs} (h : PGs X e t) (w : ∀ v σ H Q, t' v σ H Q → t v σ H Q) : PGs X e t' := ⟨fun pins s σ H v u Q I r q => h.run pins s σ H v u Q I r (w v σ H Q q)⟩
noncomputable def gNil_ : GMs := fun ws l st => match ws with
  | [] => .lf (.ok l st)
  | _ => .bad
noncomputable def gCons_ (a : GM) (b : GMs) : GMs := fun ws l st => match ws with
  | w :: r => then_ (a w l st) fun l st => b r l st
  | [] => .bad
theorem s_gnil : PGs X [] (rdGs T Wx [] gNil_) := by
  refine weakGs pgs_nil fun v σ H Q ⟨g, l, st, ws, hl, hs, r, h⟩ => ?_
  cases ws with
  | nil =>
    simp only [RWs] at r
    exact ⟨r, h g H σ Ext.refl hs ⟨hl, fun _ _ => rfl, rfl⟩⟩
  | cons w ws => exact h.elim
theorem s_gcons {e : Expr} {es : List Expr} {S S' : List Nat} {a : GM} {b : GMs} (h1 : SG T X W0 S e a) (h2 : PGs X es (rdGs T W0 S' b))
    (hs : (assignEach (e :: es) X.env).map (·.2) = assign e X.env :: (assignEach es X.env).map (·.2)) : PGs X (e :: es) (rdGs T W0 (S ++ S') (gCons_ a b)) := by
  refine weakGs (pgs_cons h1 h2 hs) fun v σ H Q ⟨g, l, st, ws, hl, hs, r, h⟩ => ?_
  cases ws with
  | nil => exact h.elim
  | cons w ws =>
    simp only [RWs] at r
    obtain ⟨v, vr, rfl, r1, r2⟩ := r
    refine ⟨v, vr, rfl, g, l, st, w, hl, hs, r1, (all_then h).mono fun o q => ?_⟩
    cases o with
    | ok l' st' =>
      intro g' H' σ' e s ⟨r, k1, k2⟩
      refine ⟨g', l', st', ws, r, s, RWs.ext e _ _ r2, Tr.All.mono q fun o q => ?_⟩
      cases o with
      | ok a b =>
        intro g2 H2 σ2 e2 s2 ⟨r3, k3, k4⟩
        refine q g2 H2 σ2 (e.trans e2) s2 ⟨r3, fun j hj => ?_, k4.trans k2⟩
        rw [k3 j fun z => hj (List.mem_append_right _ z), k1 j fun z => hj (List.mem_append_left _ z)]
      | ex c fs b => exact fun g2 H2 cls d e2 s2 r2 => q g2 H2 cls d (e.trans e2) s2 r2
    | ex c fs st' => exact q
noncomputable def gTup_ (n : Nat) (b : GMs) : GM := fun w l st => match w with
  | .tup xs => bif Nat.beq xs.length n then b xs l st else .bad
  | _ => .bad
theorem s_gtup {es : List Expr} {k n : Nat} {S : List Nat} {b : GMs} (F : Fast T X) (h : PGs X es (rdGs T Wx S b)) (hn : (assignEach es X.env).length = n) (hst : (assignEach es X.env).findIdx? (·.1) = none) : SG T X Wx S (.Tuple es k pos) (gTup_ n b) := by
  refine weakG (pg_tup F.calm h hn hst) fun v σ H Q ⟨g, l, st, w, hl, hs, r, h⟩ => ?_
  cases w with
  | tup xs =>
    cases hc : Nat.beq xs.length n with
    | false => simp only [gTup_, hc] at h; exact h.elim
    | true =>
      simp only [gTup_, hc] at h
      obtain ⟨a, vs, rfl, ha, hz, ra⟩ := rw_tup r
      exact ⟨a, vs, rfl, F.k ▸ ha, by rw [← ra.length]; exact Nat.eq_of_beq_eq_true hc, g, l, st, xs, hl, hs, ra, h⟩
  | _ => exact h.elim
/-- target = e -/
noncomputable def mAsg (m : EM) (t : GM) : SM := fun l st => thenS (m l st) l fun w st => thenS (t w l st) l fun l st => .lf (.nx l st)
theorem rd_asg {m : EM} {t : GM} {S : List Nat} {D : Ends} {σ : L2.St} {H : Hp} (h : rdS T Wx (mAsg m t) D σ H) : tAsg (rdE T Wx m) (rdG T Wx S t) D σ H := by
  obtain ⟨g, l, st, hl, hs, h⟩ := h
  refine rdE_thenS hl hs h fun w st1 g1 H1 v1 e1 s1 r1 l1 h => ?_
  refine ⟨g1, l, st1, w, l1, s1, r1, (all_thenS h).mono fun o q => ?_⟩
  cases o with
  | ok l' st' => exact fun g2 H2 σ2 e2 s2 r2 => q g2 H2 σ2 e2 s2 r2.1
  | ex c fs st' => exact fun g2 H2 cls d e2 s2 r2 => q g2 H2 σ cls d e2 s2 (l1.ext e2) r2
theorem s_asg {tg e : Expr} {m : EM} {t : GM} {S : List Nat} (he : SE T X Wx e m) (hg : SG T X Wx S tg t) (hs : swapsWithSole [tg] e pos.line X.env = pure false) (hw : swappedStores [tg] e X.env = pure none)
    (h1 : (assignEach [tg] X.env).map (·.2) = [assign tg X.env]) : SS T X Wx (.Assign [tg] e pos) (mAsg m t) := weakS (ps_asg he hg hs hw h1) fun _ _ _ h => rd_asg h
theorem s_set {i : Nat} {x : Str} {e : Expr} {m : EM} {pos' : Pos} (hN : X.N.Nodup) (hi : X.N[i]? = some x) (hx : L2.Loc X.env.scope x) (he : SE T X Wx e m) (hs : swapsWith e (some (.Name x pos')) pos.line X.env = pure false)
    (hf : X.fn x = true ∨ X.env.scope.names.lookup x = some .local) : SS T X Wx (.Assign [.Name x pos'] e pos) (mAsg m (gVar i)) := by
  refine weakS (ps_set hN hi hx he hs hf) fun D σ H h => ?_
  obtain ⟨g, l, st, hl, hs, h⟩ := h
  refine rdE_thenS hl hs h fun w st1 g1 H1 v1 e1 s1 r1 l1 h => ?_
  refine h g1 H1 _ Ext.refl s1 ?_
  rw [setL_eq]
  exact l1.set i r1
/-- a, b = x, y with plain local names -/
noncomputable def mPar (i j : Nat) (a : AM) : SM := fun l st => thenS (a l st) l fun ws st => match ws with
  | [x, y] => .lf (.nx (setL (setL l i x) j y) st)
  | _ => .bad
theorem s_par {i j : Nat} {x y : Str} {a b : Expr} {m : AM} {px py pt : Pos} {kt k2 : Nat} {pt2 : Pos} (F : Fast T X) (hi : X.N[i]? = some x) (hj : X.N[j]? = some y) (hij : i ≠ j)
    (hx : X.env.scope.names.lookup x = some .local) (hy : X.env.scope.names.lookup y = some .local) (ha : SA T X Wx [a, b] m)
    (hw : swappedStores [.Tuple [.Name x px, .Name y py] kt pt] (.Tuple [a, b] k2 pt2) X.env = pure (some [x, y]))
    (hs : swapsWithSole [.Tuple [.Name x px, .Name y py] kt pt] (.Tuple [a, b] k2 pt2) pos.line X.env = pure false) :
    SS T X Wx (.Assign [.Tuple [.Name x px, .Name y py] kt pt] (.Tuple [a, b] k2 pt2) pos) (mPar i j m) := by
  refine weakS (ps_par F.calm F.nd hi hj hij hx hy ha hw hs) fun D σ H ⟨g, l, st, hl, hs, h⟩ => ?_
  refine rdA_thenS hl hs h fun ws st1 g1 H1 vs e1 s1 r1 l1 h => ?_
  match ws, r1, h with
  | [], _, h => exact h.elim
  | [_], _, h => exact h.elim
  | [x, y], r1, h =>
    obtain ⟨v, u, rfl, ra, rb⟩ := rws2 r1
    refine ⟨v, u, rfl, h g1 H1 _ Ext.refl s1 ?_⟩
    rw [setL_eq, setL_eq]
    exact (l1.set i ra).set j rb
  | _ :: _ :: _ :: _, _, h => exact h.elim
end
end MM
end

section
set_option Elab.async false
set_option linter.all false
set_option autoImplicit false
set_option maxRecDepth 100000
set_option maxHeartbeats 4000000
/-! MMG: what is walked, for, while, comprehensions. -/
namespace MM
open PySem PySem.Spec PyProof.Rows L2

/-- a list or a tuple that is walked -/
inductive Sq where
  | lst (n : Nat)
  | tup (xs : List W)
noncomputable def getN (xs : List W) (i : Nat) : Option W := List.rec (motive := fun _ => Nat → Option W) (fun _ => none) (fun x _ ih n => Nat.casesOn (motive := fun _ => Option W) n (some x) fun m => ih m) xs i
theorem getN_eq : ∀ (xs : List W) (i : Nat), getN xs i = xs[i]?
  | [], i => by rw [List.getElem?_nil]; rfl
  | x :: r, 0 => rfl
  | x :: r, i + 1 => by
    show getN r i = _
    rw [getN_eq r i, List.getElem?_cons_succ]
/-- its i-th item: none: not known; some none: no more -/
noncomputable def lstAt (o : Option Ob) (i : Nat) : Option (Option W) := match o with
  | some (.lst xs) => some (getN xs i)
  | _ => none
noncomputable def Sq.at_ (q : Sq) (i : Nat) (s : Sto) : Option (Option W) := Sq.rec (motive := fun _ => Option (Option W)) (fun n => lstAt (s.get n) i) (fun xs => some (getN xs i)) q
/-- what a loop walks -/
inductive Src where
  | sq (q : Sq)
  | rng (lo : Int) (n : Nat)
  | en (q : Sq)
  | zp (p q : Sq)
noncomputable def enAt (i : Nat) (o : Option (Option W)) : Option (Option W) := match o with
  | some (some w) => some (some (.tup [.int i, w]))
  | o => o
noncomputable def zpAt (o u : Option (Option W)) : Option (Option W) := match o with
  | some (some x) => match u with
    | some (some y) => some (some (.tup [x, y]))
    | u => u
  | o => o
noncomputable def Src.next (c : Src) (i : Nat) (s : Sto) : Option (Option W) := Src.rec (motive := fun _ => Option (Option W)) (fun q => q.at_ i s) (fun lo n => some (bif Nat.blt i n then some (.int (lo + i)) else none))
  (fun q => enAt i (q.at_ i s)) (fun p q => zpAt (p.at_ i s) (q.at_ i s)) c
/-- the layer's walk J goes as c does -/
def JR (T : Tb) (g0 : Gm) (H0 : Hp) (c : Src) (J : It) : Prop := ∀ (i : Nat) (g : Gm) (H : Hp) (s : Sto), Ext T g0 H0 g H → SR T g H s →
  (c.next i s = some none → J.stop i H) ∧
  ∀ w, c.next i s = some (some w) → J.go i H ∧ ∀ x H', J.yld i H x H' → Ext T g H g H' ∧ SR T g H' s ∧ RW T g H' w x
theorem JR.ext {T : Tb} {g g1 : Gm} {H H1 : Hp} {c : Src} {J : It} (h : JR T g H c J) (e : Ext T g H g1 H1) : JR T g1 H1 c J := fun i g2 H2 s e2 => h i g2 H2 s (e.trans e2)
/-- a walked thing is made -/
abbrev IM := Loc → M Src
def PoI (T : Tb) (Wx : WX) (σ : L2.St) (g : Gm) (H : Hp) (R : It → Hp → Prop) : Out Src → Prop
  | .ok c st => ∀ g' H' J, Ext T g H g' H' → SR T g' H' st → JR T g' H' c J → R J H'
  | .ex c fs st => ∀ g' H' cls d, Ext T g H g' H' → SR T g' H' st → cls = Value.ref (T.ca c) → Wx cls d σ H'
def rdI (T : Tb) (Wx : WX) (m : IM) : TI := fun σ H R => ∃ g l st, LR T g H l σ ∧ SR T g H st ∧ (m l st).All (PoI T Wx σ g H R)
abbrev SI (T : Tb) (X : Cx) (Wx : WX) (tg e : Expr) (m : IM) : Prop := PI X tg e (rdI T Wx m)
section
variable {T : Tb} {X : Cx} {Wx : WX} {pos : Pos} {tg : Expr}
theorem weakI {e : Expr} {t t' : TI} (h : PI X tg e t) (w : ∀ σ H R, t' σ H R → t σ H R) : PI X tg e t' := ⟨fun pins s σ H R I q => h.run pins s σ H R I (w σ H R q)⟩
theorem PoI.ext {σ : L2.St} {g g1 : Gm} {H H1 : Hp} {R : It → Hp → Prop} {o : Out Src} (e : Ext T g H g1 H1) (h : PoI T Wx σ g H R o) : PoI T Wx σ g1 H1 R o := by
  cases o with
  | ok c st => exact fun g' H' J e' => h g' H' J (e.trans e')
  | ex c fs st => exact fun g' H' cls d e' => h g' H' cls d (e.trans e')
theorem rdE_thenI {m : EM} {k : W → M Src} {g : Gm} {H : Hp} {l : MM.Loc} {st : Sto} {σ : L2.St} {R : It → Hp → Prop} {Q : V → Hp → Prop} (hl : LR T g H l σ) (hs : SR T g H st)
    (h : (then_ (m l st) k).All (PoI T Wx σ g H R))
    (n : ∀ w st1 g1 H1 v, Ext T g H g1 H1 → SR T g1 H1 st1 → RW T g1 H1 w v → LR T g1 H1 l σ → (k w st1).All (PoI T Wx σ g1 H1 R) → Q v H1) : rdE T Wx m σ H Q := by
  refine ⟨g, l, st, hl, hs, (all_then h).mono fun o q => ?_⟩
  cases o with
  | ok w st1 => exact fun g1 H1 v e s r => n w st1 g1 H1 v e s r (hl.ext e) (Tr.All.mono q fun o q => q.ext e)
  | ex c fs st1 => exact q
theorem rdA_thenI {m : AM} {k : List W → M Src} {g : Gm} {H : Hp} {l : MM.Loc} {st : Sto} {σ : L2.St} {R : It → Hp → Prop} {Q : List V → Hp → Prop} (hl : LR T g H l σ) (hs : SR T g H st)
    (h : (then_ (m l st) k).All (PoI T Wx σ g H R))
    (n : ∀ w st1 g1 H1 v, Ext T g H g1 H1 → SR T g1 H1 st1 → RWs T g1 H1 w v → LR T g1 H1 l σ → (k w st1).All (PoI T Wx σ g1 H1 R) → Q v H1) : rdA T Wx m σ H Q := by
  refine ⟨g, l, st, hl, hs, (all_then h).mono fun o q => ?_⟩
  cases o with
  | ok w st1 => exact fun g1 H1 v e s r => n w st1 g1 H1 v e s r (hl.ext e) (Tr.All.mono q fun o q => q.ext e)
  | ex c fs st1 => exact q

/-! ### lists and tuples -/
theorem pi_seq {l : Expr} {tl : TE} (hl : PE X l tl) : PI X tg l (fun σ H R => tl σ H fun x H1 => ∃ a, x = .ref a ∧ (((∃ xs, SqL X.K H1 a xs) ∧ R (Itl X.K a) H1) ∨ ((∃ xs, SqT X.K H1 a xs) ∧ R (Itt X.K a) H1))) := by
  refine ⟨fun pins s σ H R I h => ?_⟩
  refine thn (hl.run pins s σ H _ I h) fun v s1 ⟨x, H1, I1, r1, a, e, q1⟩ => ?_
  subst e
  cases r1
  have fp : ∀ b ∈ [s1.heap.objs.size], FpOk X pins H1 b := fun b hb => by
    have e : b = s1.heap.objs.size := by simpa using hb
    subst e
    exact I1.fpOk (Nat.le_refl _) (I1.hok.fresh (Nat.le_refl _))
  rcases q1 with ⟨⟨xs, hq⟩, q⟩ | ⟨⟨xs, hq⟩, q⟩
  · obtain ⟨its, rv, p, hz⟩ := I1.list hq
    refine wpAny_pyIter_list p.isList ⟨s1.heap.objs.size, [s1.heap.objs.size], _, _, H1, rfl, I1.kept (t' := s1.toks) (fun b o e => Heap.get?_push_of_some _ e), turn_list a _, ?_, fp, q⟩
    exact ⟨_, Heap.get?_push_size _ rfl, rfl, rfl⟩
  · obtain ⟨its, rv, p, hz⟩ := I1.tuple hq
    refine wpAny_pyIter_tuple (show s1.heap.IsTuple a its.toArray from p) ⟨s1.heap.objs.size, [s1.heap.objs.size], _, _, H1, rfl, I1.kept (t' := s1.toks) (fun b o e => Heap.get?_push_of_some _ e), turn_tuple a _, ?_, fp, q⟩
    exact ⟨_, Heap.get?_push_size _ rfl, rfl, rfl⟩
theorem lstAt_some {o : Option Ob} {i : Nat} {r : Option W} (h : lstAt o i = some r) : ∃ xs, o = some (.lst xs) ∧ xs[i]? = r := by
  unfold lstAt at h
  split at h
  · exact ⟨_, rfl, by rw [← getN_eq]; exact Option.some.inj h⟩
  · cases h
theorem jr_lst {g : Gm} {H : Hp} {n : Nat} (hn : n < g.N) : JR T g H (.sq (.lst n)) (Itl T.K (g.ρ n)) := by
  intro i g1 H1 s e hs
  have e1 : g1.ρ n = g.ρ n := e.ρ n hn
  constructor
  · intro h
    obtain ⟨xs, e0, h⟩ := lstAt_some h
    obtain ⟨_, vs, h0, hz, ra⟩ := hs.lst e0
    rw [e1] at h0
    exact ⟨vs, SqL.of h0, by rw [← ra.length]; exact List.getElem?_eq_none_iff.mp h⟩
  · intro w h
    obtain ⟨xs, e0, h⟩ := lstAt_some h
    obtain ⟨_, vs, h0, hz, ra⟩ := hs.lst e0
    rw [e1] at h0
    obtain ⟨v, hv, rv⟩ := ra.get h
    refine ⟨⟨vs, v, SqL.of h0, hv⟩, fun x H' ⟨y1, y2⟩ => ?_⟩
    subst y1
    have := y2 vs (SqL.of h0)
    rw [hv] at this
    cases this
    exact ⟨Ext.refl, hs, rv⟩
theorem jr_tup {g : Gm} {H : Hp} {a : Addr} {xs : List W} {vs : List V} (ha : SqT T.K H a vs) (r : RWs T g H xs vs) : JR T g H (.sq (.tup xs)) (Itt T.K a) := by
  intro i g1 H1 s e hs
  have r1 := RWs.ext e _ _ r
  have h1 := e.t _ _ ha
  constructor
  · intro h
    have h : getN xs i = none := Option.some.inj h
    rw [getN_eq] at h
    exact ⟨vs, h1, by rw [← r1.length]; exact List.getElem?_eq_none_iff.mp h⟩
  · intro w h
    have h : getN xs i = some w := Option.some.inj h
    rw [getN_eq] at h
    obtain ⟨v, hv, rv⟩ := r1.get h
    refine ⟨⟨vs, v, h1, hv⟩, fun x H' ⟨y1, y2⟩ => ?_⟩
    subst y1
    have := y2 vs h1
    rw [hv] at this
    cases this
    exact ⟨Ext.refl, hs, rv⟩
noncomputable def mSeqI (m : EM) : IM := fun l st => then_ (m l st) fun w st => match w with
  | .tup xs => .lf (.ok (.sq (.tup xs)) st)
  | .obj n => match st.get n with
    | some (.lst _) => .lf (.ok (.sq (.lst n)) st)
    | _ => .bad
  | _ => .bad
theorem s_seqI {e : Expr} {m : EM} (F : Fast T X) (h : SE T X Wx e m) : SI T X Wx tg e (mSeqI m) := by
  refine weakI (pi_seq h) fun σ H R ⟨g, l, st, hl, hs, h⟩ => ?_
  refine rdE_thenI hl hs h fun w st1 g1 H1 v1 e1 s1 r1 l1 h => ?_
  rw [F.k]
  cases w with
  | tup xs =>
    obtain ⟨a, vs, rfl, ha, hz, ra⟩ := rw_tup r1
    exact ⟨a, rfl, .inr ⟨⟨vs, ha⟩, h g1 H1 _ Ext.refl s1 (jr_tup ha ra)⟩⟩
  | obj n =>
    cases e0 : st1.get n with
    | none => simp only [e0] at h; exact h.elim
    | some ob =>
      cases ob with
      | lst xs =>
        simp only [e0] at h
        obtain ⟨hn, rfl⟩ := rw_obj r1
        obtain ⟨_, vs, h0, hz, ra⟩ := s1.lst e0
        exact ⟨_, rfl, .inl ⟨⟨vs, SqL.of h0⟩, h g1 H1 _ Ext.refl s1 (jr_lst hn)⟩⟩
      | _ => simp only [e0] at h; exact h.elim
  | _ => exact h.elim

/-! ### ranges -/
theorem jr_rng {g : Gm} {H : Hp} {lo : Int} {n : Nat} : JR T g H (.rng lo n) (Itr lo n) := by
  intro i g1 H1 s e hs
  constructor
  · intro h
    have h : (bif Nat.blt i n then some (W.int (lo + i)) else none) = none := Option.some.inj h
    cases hb : Nat.blt i n with
    | true => rw [hb] at h; cases h
    | false =>
      show n ≤ i
      exact Nat.not_lt.mp fun z => by rw [blt_t z] at hb; cases hb
  · intro w h
    have h : (bif Nat.blt i n then some (W.int (lo + i)) else none) = some w := Option.some.inj h
    cases hb : Nat.blt i n with
    | false => rw [hb] at h; cases h
    | true =>
      rw [hb] at h
      cases h
      refine ⟨ltB hb, fun x H' ⟨y1, y2⟩ => ?_⟩
      subst y1 y2
      exact ⟨Ext.refl, hs, RW.int _⟩
def smallI (j : Int) : Bool := Nat.blt j.natAbs (2 ^ 62)
theorem smallI_t {j : Int} (h : smallI j = true) : -(2 ^ 62) ≤ j ∧ j < 2 ^ 62 := by
  have := ltB h
  omega
noncomputable def mRng1 (m : AM) : IM := fun l st => then_ (m l st) fun ws st => match ws with
  | [.int j] => bif smallI j then .lf (.ok (.rng 0 j.toNat) st) else .bad
  | _ => .bad
noncomputable def mRng2 (m : AM) : IM := fun l st => then_ (m l st) fun ws st => match ws with
  | [.int i, .int j] => bif smallI i && smallI j then .lf (.ok (.rng i (j - i).toNat) st) else .bad
  | _ => .bad
theorem s_rng1 {a : Expr} {m : AM} {p pos : Pos} (hg : Gl X "range") (hm : X.mg "range" = none) (ha : SA T X Wx [a] m) (hs : starEach [a] X.env = [(false, eval a X.env)]) : SI T X Wx tg (.Call (.Name "range" p) [a] [] pos) (mRng1 m) := by
  refine weakI (pi_range1 hg hm ha hs) fun σ H R ⟨g, l, st, hl, hs, h⟩ => ?_
  refine rdA_thenI hl hs h fun ws st1 g1 H1 vs e1 s1 r1 l1 h => ?_
  split at h
  · rename_i j
    obtain ⟨v, rfl, r⟩ := rws1 r1
    cases hc : smallI j with
    | false => rw [hc] at h; exact h.elim
    | true =>
      rw [hc] at h
      exact ⟨j, by rw [rw_int r], (smallI_t hc).1, (smallI_t hc).2, h g1 H1 _ Ext.refl s1 jr_rng⟩
  · exact h.elim
theorem s_rng2 {a b : Expr} {m : AM} {p pos : Pos} (hg : Gl X "range") (hm : X.mg "range" = none) (ha : SA T X Wx [a, b] m) (hs : starEach [a, b] X.env = [(false, eval a X.env), (false, eval b X.env)]) (hs2 : starEach [b] X.env = [(false, eval b X.env)]) :
    SI T X Wx tg (.Call (.Name "range" p) [a, b] [] pos) (mRng2 m) := by
  refine weakI (pi_range2 hg hm ha hs hs2) fun σ H R ⟨g, l, st, hl, hs, h⟩ => ?_
  refine rdA_thenI hl hs h fun ws st1 g1 H1 vs e1 s1 r1 l1 h => ?_
  split at h
  · rename_i i j
    obtain ⟨v, u, rfl, r, r'⟩ := rws2 r1
    cases hc : smallI i && smallI j with
    | false => rw [hc] at h; exact h.elim
    | true =>
      rw [hc] at h
      obtain ⟨c1, c2⟩ := Bool.and_eq_true_iff.mp hc
      exact ⟨i, j, by rw [rw_int r, rw_int r'], ⟨(smallI_t c1).1, (smallI_t c1).2, (smallI_t c2).1, (smallI_t c2).2⟩, h g1 H1 _ Ext.refl s1 jr_rng⟩
  · exact h.elim

/-! ### for -/
def lotN : Nat := 1048576
/-- the turns from the i-th on, at most k of them -/
noncomputable def forM_ (c : Src) (t : GM) (b : SM) (k : Nat) : Nat → SM :=
  Nat.rec (motive := fun _ => Nat → SM) (fun _ _ _ => .bad)
    (fun _ ih i l st => Option.rec (motive := fun _ => Tr SOut) .bad
      (fun o => Option.rec (motive := fun _ => Tr SOut) (.lf (.nx l st))
        (fun w => thenS (t w l st) l fun l1 st1 => (b l1 st1).bind fun o =>
          SOut.rec (motive := fun _ => Tr SOut) (fun l s => ih (i + 1) l s) (fun w s => .lf (.rt w s)) (fun l s => .lf (.nx l s)) (fun l s => ih (i + 1) l s) (fun c fs l s => .lf (.ex c fs l s)) o) o) (c.next i st)) k
theorem forM_s (c : Src) (t : GM) (b : SM) (k i : Nat) (l : MM.Loc) (st : Sto) : forM_ c t b (k + 1) i l st = match c.next i st with
    | none => .bad
    | some none => .lf (.nx l st)
    | some (some w) => thenS (t w l st) l fun l1 st1 => (b l1 st1).bind fun o => match o with
      | .nx l s => forM_ c t b k (i + 1) l s
      | .rt w s => .lf (.rt w s)
      | .bk l s => .lf (.nx l s)
      | .ct l s => forM_ c t b k (i + 1) l s
      | .ex c fs l s => .lf (.ex c fs l s) := by
  show (Option.rec (motive := fun _ => Tr SOut) .bad _ (c.next i st) : Tr SOut) = _
  cases c.next i st with
  | none => rfl
  | some o =>
    cases o with
    | none => rfl
    | some w =>
      show thenS _ _ _ = thenS _ _ _
      congr 1
      funext l1 st1
      show (b l1 st1).bind _ = (b l1 st1).bind _
      congr 1
      funext o
      cases o <;> rfl
noncomputable def mFor (m : IM) (t : GM) (b : SM) : SM := fun l st => thenS (m l st) l fun c st => forM_ c t b lotN 0 l st
theorem rd_for {m : IM} {t : GM} {S : List Nat} {b : SM} {D : Ends} {σ : L2.St} {H : Hp} (h : rdS T Wx (mFor m t b) D σ H) : tFor (rdI T Wx m) (rdG T Wx S t) (rdS T Wx b) D σ H := by
  obtain ⟨g, l, st, hl, hs, h⟩ := h
  refine ⟨g, l, st, hl, hs, (all_thenS h).mono fun o q => ?_⟩
  cases o with
  | ex c fs st1 => exact fun g1 H1 cls d e s r => q g1 H1 σ cls d e s (hl.ext e) r
  | ok c st1 =>
    intro g1 H1 J e1 s1 j1
    refine ⟨fun i k σ' H' => ∃ g' l' st', Ext T g1 H1 g' H' ∧ LR T g' H' l' σ' ∧ SR T g' H' st' ∧ (forM_ c t b k i l' st').All (PoS T Wx D g' H'), ⟨lotN, g1, l, st1, Ext.refl, hl.ext e1, s1, Tr.All.mono q fun o q => q.ext e1⟩, ?_⟩
    rintro i k σ2 H2 ⟨g2, l2, st2, e2, l2', s2, a2⟩
    cases k with
    | zero => exact a2.elim
    | succ k =>
      rw [forM_s] at a2
      obtain ⟨j2, j3⟩ := j1 i g2 H2 st2 e2 s2
      cases hn : c.next i st2 with
      | none => rw [hn] at a2; exact a2.elim
      | some o =>
        rw [hn] at a2
        cases o with
        | none => exact .inl ⟨j2 hn, a2 g2 H2 σ2 Ext.refl s2 l2'⟩
        | some w =>
          obtain ⟨go, yl⟩ := j3 w hn
          refine .inr ⟨go, fun σ' H' => ∃ g' l' st', Ext T g1 H1 g' H' ∧ LR T g' H' l' σ' ∧ SR T g' H' st' ∧ (forM_ c t b k (i + 1) l' st').All (PoS T Wx D g' H'), fun σ' H' q' => ⟨k, Nat.lt_succ_self _, q'⟩, fun x H3 y => ?_⟩
          obtain ⟨e3, s3, r3⟩ := yl x H3 y
          refine ⟨g2, l2, st2, w, l2'.ext e3, s3, r3, (all_thenS a2).mono fun o q => ?_⟩
          cases o with
          | ex c fs st' => exact fun g4 H4 cls d e4 s4 r4 => q g4 H4 σ2 cls d (e3.trans e4) s4 ((l2'.ext e3).ext e4) r4
          | ok l4 st4 =>
            intro g4 H4 σ4 e4 s4 ⟨lr4, _, _⟩
            refine ⟨g4, l4, st4, lr4, s4, (Tr.all_bind.mp q).mono fun o q => ?_⟩
            have e14 : Ext T g1 H1 g4 H4 := e2.trans (e3.trans e4)
            have e24 : Ext T g2 H2 g4 H4 := e3.trans e4
            cases o with
            | nx l5 st5 => exact fun g' H' σ' e s r => ⟨g', l5, st5, e14.trans e, r, s, Tr.All.mono q fun o q => q.ext (e24.trans e)⟩
            | ct l5 st5 => exact fun g' H' σ' e s r => ⟨g', l5, st5, e14.trans e, r, s, Tr.All.mono q fun o q => q.ext (e24.trans e)⟩
            | bk l5 st5 => exact fun g' H' σ' e s r => q g' H' σ' (e24.trans e) s r
            | rt w5 st5 => exact fun g' H' v e s r => q g' H' v (e24.trans e) s r
            | ex c5 fs5 l5 st5 => exact fun g' H' σ' cls d e s r ec => q g' H' σ' cls d (e24.trans e) s r ec
theorem s_for {iter : Expr} {body : List Stmt} {m : IM} {t : GM} {S : List Nat} {b : SM} (F : Fast T X) (hp : PassesOwn (model X.prog X.w) X.A X.env X.xe) (hi : SI T X Wx tg iter m) (hg : SG T X Wx S tg t) (hb : SSs T X Wx body b)
    (hs : ∀ x, foldedSetIterable iter X.env x = pure x) : SS T X Wx (.For tg iter body [] pos) (mFor m t b) := weakS (ps_for hp F.calm hi hg hb hs) fun _ _ _ h => rd_for h

/-! ### while -/
noncomputable def whileM (c : TM) (b : SM) (k : Nat) : SM :=
  Nat.rec (motive := fun _ => SM) (fun _ _ => .bad)
    (fun _ ih l st => thenS (c l st) l fun k st => bif k then (b l st).bind fun o =>
      SOut.rec (motive := fun _ => Tr SOut) (fun l s => ih l s) (fun w s => .lf (.rt w s)) (fun l s => .lf (.nx l s)) (fun l s => ih l s) (fun c fs l s => .lf (.ex c fs l s)) o else .lf (.nx l st)) k
theorem whileM_s (c : TM) (b : SM) (k : Nat) (l : MM.Loc) (st : Sto) : whileM c b (k + 1) l st = thenS (c l st) l fun z st => bif z then (b l st).bind fun o => match o with
      | .nx l s => whileM c b k l s
      | .rt w s => .lf (.rt w s)
      | .bk l s => .lf (.nx l s)
      | .ct l s => whileM c b k l s
      | .ex c fs l s => .lf (.ex c fs l s) else .lf (.nx l st) := by
  show thenS _ _ _ = thenS _ _ _
  congr 1
  funext z st1
  cases z with
  | false => rfl
  | true =>
    show (b l st1).bind _ = (b l st1).bind _
    congr 1
    funext o
    cases o <;> rfl
noncomputable def mWhile (c : TM) (b : SM) : SM := whileM c b lotN
theorem rd_while {c : TM} {b : SM} {D : Ends} {σ : L2.St} {H : Hp} (h : rdS T Wx (mWhile c b) D σ H) : tWhile (rdT T Wx c) (rdS T Wx b) D σ H := by
  obtain ⟨g, l, st, hl, hs, h⟩ := h
  refine ⟨fun k σ' H' => ∃ g' l' st', Ext T g H g' H' ∧ LR T g' H' l' σ' ∧ SR T g' H' st' ∧ (whileM c b k l' st').All (PoS T Wx D g' H'), ⟨lotN, g, l, st, Ext.refl, hl, hs, h⟩, ?_⟩
  rintro k σ2 H2 ⟨g2, l2, st2, e2, l2', s2, a2⟩
  cases k with
  | zero => exact a2.elim
  | succ k =>
    rw [whileM_s] at a2
    refine rdT_thenS l2' s2 a2 fun z st3 g3 H3 e3 s3 l3 a3 => ?_
    cases z with
    | false =>
      rw [if_neg Bool.false_ne_true]
      exact a3 g3 H3 σ2 Ext.refl s3 l3
    | true =>
      rw [if_pos rfl]
      refine ⟨fun σ' H' => ∃ g' l' st', Ext T g H g' H' ∧ LR T g' H' l' σ' ∧ SR T g' H' st' ∧ (whileM c b k l' st').All (PoS T Wx D g' H'), fun σ' H' q' => ⟨k, Nat.lt_succ_self _, q'⟩, g3, l2, st3, l3, s3, (Tr.all_bind.mp a3).mono fun o q => ?_⟩
      have e13 : Ext T g H g3 H3 := e2.trans e3
      cases o with
      | nx l5 st5 => exact fun g' H' σ' e s r => ⟨g', l5, st5, e13.trans e, r, s, Tr.All.mono q fun o q => q.ext e⟩
      | ct l5 st5 => exact fun g' H' σ' e s r => ⟨g', l5, st5, e13.trans e, r, s, Tr.All.mono q fun o q => q.ext e⟩
      | bk l5 st5 => exact fun g' H' σ' e s r => q g' H' σ' e s r
      | rt w5 st5 => exact fun g' H' v e s r => q g' H' v e s r
      | ex c5 fs5 l5 st5 => exact fun g' H' σ' cls d e s r ec => q g' H' σ' cls d e s r ec
theorem s_while {c : Expr} {body : List Stmt} {mc : TM} {b : SM} (hp : PassesOwn (model X.prog X.w) X.A X.env X.xe) (hc : STt T X Wx c mc) (hb : SSs T X Wx body b) : SS T X Wx (.While c body [] pos) (mWhile mc b) := weakS (ps_while hp hc hb) fun _ _ _ h => rd_while h
end
end MM
end

section
set_option Elab.async false
set_option linter.all false
set_option autoImplicit false
set_option maxRecDepth 100000
set_option maxHeartbeats 4000000
/-! MMH: comprehensions, methods of lists, stores at an index, defs and their calls. -/
namespace MM
open PySem PySem.Spec PyProof.Rows L2

/-! ### comprehensions -/
noncomputable def offL (l : MM.Loc) (i : Nat) : MM.Loc := List.rec (motive := fun _ => Nat → MM.Loc) (fun _ => []) (fun x r ih n => Nat.casesOn (motive := fun _ => MM.Loc) n (none :: r) fun m => x :: ih m) l i
theorem offL_eq : ∀ (l : MM.Loc) (i : Nat), offL l i = l.set i none
  | [], _ => rfl
  | x :: r, 0 => rfl
  | x :: r, i + 1 => by
    show x :: offL r i = x :: r.set i none
    rw [offL_eq]
noncomputable def wipeL (l : MM.Loc) (vs : List Nat) : MM.Loc := List.rec (motive := fun _ => MM.Loc) l (fun v _ ih => offL ih v) vs
section
variable {T : Tb} {X : Cx} {Wx : WX} {pos : Pos}
theorem LR.wipe {g : Gm} {H : Hp} {l : MM.Loc} {σ : L2.St} (h : LR T g H l σ) : ∀ vs : List Nat, LR T g H (wipeL l vs) (L2.wipe σ vs)
  | [] => h
  | v :: vs => by
    have ih := LR.wipe h vs
    show LR T g H (offL (wipeL l vs) v) ((L2.wipe σ vs).set v none)
    rw [offL_eq]
    refine ⟨by rw [List.length_set, List.length_set]; exact ih.len, fun i w e => ?_⟩
    by_cases hv : v = i
    · subst hv
      by_cases hi : v < (wipeL l vs).length
      · rw [List.getElem?_set_self hi] at e; cases e
      · rw [List.getElem?_eq_none (by rw [List.length_set]; omega)] at e; cases e
    · rw [List.getElem?_set_ne hv] at e
      obtain ⟨v', h1, h2⟩ := ih.at_ i w e
      exact ⟨v', by rw [List.getElem?_set_ne hv]; exact h1, h2⟩
theorem wipe_off (σ : L2.St) : ∀ (vs : List Nat) (j : Nat), j ∉ vs → (L2.wipe σ vs)[j]? = σ[j]?
  | [], j, _ => rfl
  | v :: vs, j, h => by
    show ((L2.wipe σ vs).set v none)[j]? = _
    rw [List.getElem?_set_ne (fun z => h (by rw [z]; exact List.mem_cons_self)), wipe_off σ vs j fun z => h (List.mem_cons_of_mem _ z)]
theorem wipe_on (σ : L2.St) : ∀ (vs : List Nat) (j : Nat), j ∈ vs → j < σ.length → (L2.wipe σ vs)[j]? = some none
  | [], j, h, _ => nomatch h
  | v :: vs, j, h, hl => by
    show ((L2.wipe σ vs).set v none)[j]? = _
    by_cases e : v = j
    · rw [e, List.getElem?_set_self (by rw [wipe_length]; exact hl)]
    · rw [List.getElem?_set_ne e]
      exact wipe_on σ vs j ((List.mem_cons.mp h).resolve_left fun z => e z.symm) hl
theorem wipe_same {σ σ2 : L2.St} {vs : List Nat} (hl : σ2.length = σ.length) (h : ∀ j, j ∉ vs → σ2[j]? = σ[j]?) : L2.wipe σ2 vs = L2.wipe σ vs := by
  apply List.ext_getElem?
  intro j
  by_cases hj : j ∈ vs
  · by_cases hb : j < σ.length
    · rw [wipe_on σ vs j hj hb, wipe_on σ2 vs j hj (by omega)]
    · rw [List.getElem?_eq_none (by rw [wipe_length]; omega), List.getElem?_eq_none (by rw [wipe_length]; omega)]
  · rw [wipe_off σ vs j hj, wipe_off σ2 vs j hj, h j hj]
theorem relG_wipe {σ σ2 : L2.St} {vs S : List Nat} (hS : ∀ j ∈ S, j ∈ vs) (h : ∀ j, j ∉ S → σ2[j]? = (L2.wipe σ vs)[j]?) (hl : σ2.length = (L2.wipe σ vs).length) : L2.wipe σ2 vs = L2.wipe σ vs := by
  refine wipe_same (by rw [hl, wipe_length]) fun j hj => ?_
  rw [h j fun z => hj (hS j z), wipe_off σ vs j hj]
/-- tests of a clause -/
def rdTs (T : Tb) (Wx : WX) (m : TM) : TT := rdT T Wx m
def mYes : TM := fun _ st => .lf (.ok true st)
theorem weakTs {ifs : List Expr} {t t' : TT} (h : PTs X ifs t) (w : ∀ σ H Q, t' σ H Q → t σ H Q) : PTs X ifs t' := ⟨fun pins s σ H Q I q => h.run pins s σ H Q I (w σ H Q q)⟩
abbrev STs (T : Tb) (X : Cx) (Wx : WX) (ifs : List Expr) (m : TM) : Prop := PTs X ifs (rdT T Wx m)
theorem s_ifs0 : STs T X Wx [] mYes := weakTs pts_nil fun σ H Q ⟨g, l, st, hl, hs, h⟩ => h g H true Ext.refl hs rfl
theorem s_ifs1 {c : Expr} {m : TM} (h : STt T X Wx c m) : STs T X Wx [c] m := pts_one h

/-- an item behind the list at d -/
noncomputable def apd (d : Nat) (y : W) (s : Sto) : Option Sto := match s.get d with
  | some (.lst acc) => bif Nat.blt acc.length lineN then some (s.put d (.lst (acc ++ [y]))) else none
  | _ => none
noncomputable def lcM (c : Src) (l0 : MM.Loc) (t : GM) (tt : TM) (e : EM) (d : Nat) (k : Nat) : Nat → Sto → Tr (Out W) :=
  Nat.rec (motive := fun _ => Nat → Sto → Tr (Out W)) (fun _ _ => .bad)
    (fun _ ih i st => Option.rec (motive := fun _ => Tr (Out W)) .bad
      (fun o => Option.rec (motive := fun _ => Tr (Out W)) (.lf (.ok (.obj d) st))
        (fun w => then_ (t w l0 st) fun l1 st => then_ (tt l1 st) fun b st => bif b then then_ (e l1 st) fun y st => Option.rec (motive := fun _ => Tr (Out W)) .bad (fun st => ih (i + 1) st) (apd d y st) else ih (i + 1) st) o) (c.next i st)) k
theorem lcM_s (c : Src) (l0 : MM.Loc) (t : GM) (tt : TM) (e : EM) (d k i : Nat) (st : Sto) : lcM c l0 t tt e d (k + 1) i st = match c.next i st with
    | none => .bad
    | some none => .lf (.ok (.obj d) st)
    | some (some w) => then_ (t w l0 st) fun l1 st => then_ (tt l1 st) fun b st => bif b then then_ (e l1 st) fun y st => (match apd d y st with
      | some st => lcM c l0 t tt e d k (i + 1) st
      | none => .bad) else lcM c l0 t tt e d k (i + 1) st := by
  show (Option.rec (motive := fun _ => Tr (Out W)) .bad _ (c.next i st) : Tr (Out W)) = _
  cases c.next i st with
  | none => rfl
  | some o =>
    cases o with
    | none => rfl
    | some w =>
      show then_ _ _ = then_ _ _
      congr 1
      funext l1 st1
      show then_ _ _ = then_ _ _
      congr 1
      funext b st2
      cases b with
      | false => rfl
      | true =>
        show then_ _ _ = then_ _ _
        congr 1
        funext y st3
        cases apd d y st3 <;> rfl
noncomputable def mComp (vs : List Nat) (m : IM) (t : GM) (tt : TM) (e : EM) : EM := fun l st => then_ (m l st) fun c st => lcM c (wipeL l vs) t tt e st.n lotN 0 (st.new (.lst []))
theorem apd_some {d : Nat} {y : W} {s s' : Sto} (h : apd d y s = some s') : ∃ acc, s.get d = some (.lst acc) ∧ acc.length < sizeLine ∧ s' = s.put d (.lst (acc ++ [y])) := by
  unfold apd at h
  split at h
  · rename_i acc e
    obtain ⟨c, h⟩ := bif_t h
    have c := ltB c
    rw [lineN_eq] at c
    exact ⟨acc, e, c, h.symm⟩
  · cases h
/-- the appending of an item, where it lies -/
theorem apd_ok {g : Gm} {H : Hp} {d : Nat} {y : W} {v : V} {s s' : Sto} (hs : SR T g H s) (r : RW T g H y v) (h : apd d y s = some s') :
    ∃ acc, H (g.ρ d) = some (.lst acc) ∧ acc.length < sizeLine ∧ Ext T g H g (upd H (g.ρ d) (.lst (acc ++ [v]))) ∧ SR T g (upd H (g.ρ d) (.lst (acc ++ [v]))) s' := by
  obtain ⟨acc, e, hz, rfl⟩ := apd_some h
  obtain ⟨hd, vs, h0, h1, ra⟩ := hs.lst e
  have hz2 : vs.length < sizeLine := by rw [← ra.length]; exact hz
  obtain ⟨x1, x2⟩ := hs.putL hd (xs := acc ++ [y]) (vs := vs ++ [v]) (by rw [List.length_append]; exact hz2) (ra.append (RWs.cons r RWs.nil))
  exact ⟨vs, h0, hz2, x1, x2⟩
theorem rd_comp {m : IM} {t : GM} {tt : TM} {e : EM} {vs S : List Nat} {σ : L2.St} {H : Hp} {Q : VK} (hS : ∀ j ∈ S, j ∈ vs) (h : rdE T Wx (mComp vs m t tt e) σ H Q)
    (hx : ∀ g l st H, LR T g H l σ → SR T g H st → (mComp vs m t tt e l st).All (PoW T Wx σ g H Q) → (mComp vs m t tt e l st).All (PoW T W0 σ g H Q)) : tLc (rdI T W0 m) (rdG T W0 S t) (rdT T W0 tt) (rdE T W0 e) vs σ H Q := by
  obtain ⟨g, l, st, hl, hs, h⟩ := h
  have h := hx g l st H hl hs h
  refine ⟨g, l, st, hl, hs, (all_then h).mono fun o q => ?_⟩
  cases o with
  | ex c fs st1 => exact q
  | ok c st1 =>
    intro g1 H1 J e1 s1 j1 D hD
    obtain ⟨x1, x2, x3⟩ := s1.newL hD (xs := []) (vs := []) (Nat.zero_le _) RWs.nil
    refine ⟨fun i k H' => ∃ g' st', Ext T (g1.add D) (upd H1 D (.lst [])) g' H' ∧ SR T g' H' st' ∧ (lcM c (wipeL l vs) t tt e st1.n k i st').All (PoW T W0 σ g' H' Q), ⟨lotN, g1.add D, _, Ext.refl, x2, Tr.All.mono q fun o q => q.ext (e1.trans x1)⟩, ?_⟩
    have hdn : st1.n = g1.N := s1.n
    have hrD : ∀ g' H', Ext T (g1.add D) (upd H1 D (.lst [])) g' H' → st1.n < g'.N ∧ g'.ρ st1.n = D := fun g' H' e => by
      rw [hdn]
      refine ⟨Nat.lt_of_lt_of_le (Nat.lt_succ_self _) e.n, ?_⟩
      rw [e.ρ g1.N (Nat.lt_succ_self _), g1.add_at]
    rintro i k H2 ⟨g2, st2, e2, s2, a2⟩
    cases k with
    | zero => exact a2.elim
    | succ k =>
      rw [lcM_s] at a2
      obtain ⟨j2, j3⟩ := j1 i g2 H2 st2 (x1.trans e2) s2
      cases hn : c.next i st2 with
      | none => rw [hn] at a2; exact a2.elim
      | some o =>
        rw [hn] at a2
        cases o with
        | none =>
          obtain ⟨hd, hr⟩ := hrD g2 H2 e2
          have := RW.obj (T := T) (g := g2) (H := H2) hd
          rw [hr] at this
          exact .inl ⟨j2 hn, a2 g2 H2 _ Ext.refl s2 this⟩
        | some w =>
          obtain ⟨go, yl⟩ := j3 w hn
          refine .inr ⟨go, fun H' => ∃ g' st', Ext T (g1.add D) (upd H1 D (.lst [])) g' H' ∧ SR T g' H' st' ∧ (lcM c (wipeL l vs) t tt e st1.n k (i + 1) st').All (PoW T W0 σ g' H' Q), fun H' q' => ⟨k, Nat.lt_succ_self _, q'⟩, fun x H3 y => ?_⟩
          obtain ⟨e3, s3, r3⟩ := yl x H3 y
          have lw : LR T g2 H3 (wipeL l vs) (L2.wipe σ vs) := (hl.ext (e1.trans (x1.trans (e2.trans e3)))).wipe vs
          refine ⟨g2, wipeL l vs, st2, w, lw, s3, r3, (all_then a2).mono fun o q => ?_⟩
          cases o with
          | ex c fs st' => exact fun g4 H4 cls d e4 s4 r4 => q g4 H4 cls d (e3.trans e4) s4 r4
          | ok l4 st4 =>
            intro g4 H4 σ4 e4 s4 ⟨lr4, k4, k5⟩
            refine ⟨relG_wipe hS k4 k5, g4, l4, st4, lr4, s4, (all_then q).mono fun o q => ?_⟩
            cases o with
            | ex c fs st' => exact fun g5 H5 cls d e5 s5 r5 => q g5 H5 cls d (e3.trans (e4.trans e5)) s5 r5
            | ok b st5 =>
              intro g5 H5 b' e5 s5 eb
              subst eb
              have e25 : Ext T g2 H2 g5 H5 := e3.trans (e4.trans e5)
              cases b' with
              | false =>
                rw [if_neg Bool.false_ne_true]
                exact ⟨g5, st5, e2.trans e25, s5, Tr.All.mono q fun o q => q.ext e25⟩
              | true =>
                rw [if_pos rfl]
                refine ⟨g5, l4, st5, lr4.ext e5, s5, (all_then q).mono fun o q => ?_⟩
                cases o with
                | ex c fs st' => exact fun g6 H6 cls d e6 s6 r6 => q g6 H6 cls d (e25.trans e6) s6 r6
                | ok y6 st6 =>
                  intro g6 H6 v6 e6 s6 r6
                  have e26 : Ext T g2 H2 g6 H6 := e25.trans e6
                  dsimp only at q
                  cases ha : apd st1.n y6 st6 with
                  | none => rw [ha] at q; exact q.elim
                  | some st7 =>
                    rw [ha] at q
                    obtain ⟨acc, z1, z2, z3, z4⟩ := apd_ok s6 r6 ha
                    obtain ⟨hd, hr⟩ := hrD g6 H6 (e2.trans e26)
                    rw [hr] at z1 z3 z4
                    exact ⟨acc, z1, z2, g6, st7, e2.trans (e26.trans z3), z4, Tr.All.mono q fun o q => q.ext (e26.trans z3)⟩
/-- in a block: what is fast there -/
theorem Fast.blk {s : Shared} {H : Hp} {scope : Scope} {cenv : Env} {fp : List Addr} (F : Fast T X) : Fast T (X.blk s H scope cenv fp) := ⟨F.k, F.calm, F.nd, F.un, F.gd⟩
abbrev Blk (X : Cx) (scope : Scope) (s : Shared) (H : Hp) (C : Addr) (cl : List (Str × Addr)) (fp : List Addr) : Cx := X.blk s H scope (compEnvC scope cl C X.env) fp
theorem s_comp {elt tg iter : Expr} {ifs : List Expr} {scope : Scope} {own : List (Str × Nat)} {S : List Nat} {m : IM} {t : GM} {tt : TM} {e : EM} (F : Fast T X) (hi : SI T X W0 tg iter m) (ok : blkC X.N X.env.scope scope own = true) (hS : ∀ j ∈ S, j ∈ own.map (·.2))
    (hg : ∀ s H C cl fp, SG T (Blk X scope s H C cl fp) W0 S tg t) (ht : ∀ s H C cl fp, STs T (Blk X scope s H C cl fp) W0 ifs tt) (he : ∀ s H C cl fp, SE T (Blk X scope s H C cl fp) W0 elt e)
    (hs : ∀ x, foldedSetIterable iter X.env x = pure x) : SE T X W0 (.ListComp elt [⟨tg, iter, ifs, 0⟩] scope pos) (mComp (own.map (·.2)) m t tt e) :=
  weakE (pe_lc F.calm F.nd hi (blkOk_by ok) hg ht he hs) fun σ H Q h => rd_comp hS h fun _ _ _ _ _ _ q => q
theorem s_setComp {i : Nat} {y : Str} {py spos : Pos} {elt tg iter : Expr} {ifs : List Expr} {scope : Scope} {own : List (Str × Nat)} {S : List Nat} {m : IM} {t : GM} {tt : TM} {e : EM} (F : Fast T X) (hy : X.N[i]? = some y) (hyl : X.env.scope.names.lookup y = some .local)
    (hsw : swapsWith (.ListComp elt [⟨tg, iter, ifs, 0⟩] scope pos) (some (.Name y py)) spos.line X.env = pure true) (hi : SI T X W0 tg iter m) (ok : blkC X.N X.env.scope scope own = true) (hS : ∀ j ∈ S, j ∈ own.map (·.2))
    (hg : ∀ s H C cl fp, SG T (Blk X scope s H C cl fp) W0 S tg t) (ht : ∀ s H C cl fp, STs T (Blk X scope s H C cl fp) W0 ifs tt) (he : ∀ s H C cl fp, SE T (Blk X scope s H C cl fp) W0 elt e)
    (hs : ∀ x, foldedSetIterable iter X.env x = pure x) : SS T X W0 (.Assign [.Name y py] (.ListComp elt [⟨tg, iter, ifs, 0⟩] scope pos) spos) (mAsg (mComp (own.map (·.2)) m t tt e) (gVar i)) := by
  refine weakS (ps_setLc F.calm F.nd hy hyl hsw hi (blkOk_by ok) hg ht he hs) fun D σ H h => ?_
  obtain ⟨g, l, st, hl, hs, h⟩ := h
  refine rd_comp hS (rdE_thenS (Q := fun v H' => D.nx (σ.set i (some v)) H') hl hs h fun w st1 g1 H1 v1 e1 s1 r1 l1 h => ?_) fun _ _ _ _ _ _ q => q
  refine h g1 H1 _ Ext.refl s1 ?_
  rw [setL_eq]
  exact l1.set i r1

/-! ### methods of lists -/
def rdM (T : Tb) (op : W → List W → Sto → Option (W × Sto)) : V → List V → Hp → VK → Prop := fun x vs H Q => ∃ g st wx ws w st', SR T g H st ∧ RW T g H wx x ∧ RWs T g H ws vs ∧ op wx ws st = some (w, st') ∧ ∀ g' H' v, Ext T g H g' H' → SR T g' H' st' → RW T g' H' w v → Q v H'
abbrev OpM := W → List W → Sto → Option (W × Sto)
noncomputable def isLst (s : Sto) (w : W) : Bool := match w with
  | .obj n => match s.get n with
    | some (.lst _) => true
    | _ => false
  | _ => false
noncomputable def mMeth (op : OpM) (o : EM) (a : AM) : EM := fun l st => then_ (o l st) fun x st => bif isLst st x then then_ (a l st) fun ws st => lift (op x ws st) else .bad
theorem isLst_ok {g : Gm} {H : Hp} {s : Sto} {w : W} {v : V} (hs : SR T g H s) (r : RW T g H w v) (h : isLst s w = true) : tyV T.K "list" v H := by
  unfold isLst at h
  split at h
  · split at h
    · rename_i e0
      obtain ⟨hn, rfl⟩ := rw_obj r
      obtain ⟨_, vs, h0, hz, ra⟩ := hs.lst e0
      exact .inl ⟨rfl, _, SqL.of h0⟩
    · cases h
  · cases h
theorem s_meth {o e : Expr} {es : List Expr} {name : Str} {apos cpos : Pos} {id : String} {op : OpM} {mo : EM} {m : AM} (F : Fast T X) (slot : Slot "list" name id) (hty : typeOf (.builtin id) = pure (.type "method_descriptor")) (hm : MtR X id (rdM T op)) (ho : SE T X Wx o mo) (ha : SA T X Wx (e :: es) m)
    (hbase : attributeBase o name X.env (eval o X.env) = eval o X.env)
    (hfew : ((backTo cpos (starEach (e :: es) X.env)).all (fun x => !x.1) && (backToKw cpos (keywordEach [] X.env)).all (fun x => x.1.isSome)
      && decide ((e :: es).length + ([] : List Keyword).length + (if ([] : List Keyword).isEmpty then 0 else 1) < 30)) = true)
    (hline : (apos.endLine == cpos.line) = true) (hs : starEach (e :: es) X.env = (false, eval e X.env) :: starEach es X.env) (hplain : (backTo cpos (starEach es X.env)).any (·.1) = false) :
    SE T X Wx (.Call (.Attribute o name apos) (e :: es) [] cpos) (mMeth op mo m) := by
  refine weakE (pe_bm PySem.F.plainAttrs_list slot hty hm ho ha hbase hfew hline hs hplain) fun σ H Q ⟨g, l, st, hl, hs, h⟩ => ?_
  refine rdE_then hl hs h fun x st1 g1 H1 v1 e1 s1 r1 l1 h => ?_
  cases hb : isLst st1 x with
  | false => rw [hb] at h; exact h.elim
  | true =>
    rw [hb] at h
    refine ⟨F.k ▸ isLst_ok s1 r1 hb, ?_⟩
    refine rdA_then l1 s1 h fun ws st2 g2 H2 vs e2 s2 r2 l2 h => ?_
    obtain ⟨w, st', e, q⟩ := lift_all h
    exact ⟨g2, st2, x, ws, w, st', s2, RW.ext e2 _ _ r1, r2, e, q⟩
theorem s_meth0 {o : Expr} {name : Str} {apos cpos : Pos} {id : String} {op : OpM} {mo : EM} (F : Fast T X) (slot : Slot "list" name id) (hty : typeOf (.builtin id) = pure (.type "method_descriptor")) (hm : MtR X id (rdM T op)) (ho : SE T X Wx o mo)
    (hbase : attributeBase o name X.env (eval o X.env) = eval o X.env) (hline : (apos.endLine == cpos.line) = true) :
    SE T X Wx (.Call (.Attribute o name apos) [] [] cpos) (mMeth op mo mNil) := by
  refine weakE (pe_bm0 PySem.F.plainAttrs_list slot hty hm ho hbase hline) fun σ H Q ⟨g, l, st, hl, hs, h⟩ => ?_
  refine rdE_then hl hs h fun x st1 g1 H1 v1 e1 s1 r1 l1 h => ?_
  cases hb : isLst st1 x with
  | false => rw [hb] at h; exact h.elim
  | true =>
    rw [hb] at h
    refine ⟨F.k ▸ isLst_ok s1 r1 hb, ?_⟩
    obtain ⟨w, st', e, q⟩ := lift_all h
    exact ⟨g1, st1, x, [], w, st', s1, r1, RWs.nil, e, q⟩
noncomputable def opAppend : OpM := fun x ws s => match x with
  | .obj n => match ws with
    | [y] => match apd n y s with
      | some s' => some (.non, s')
      | none => none
    | _ => none
  | _ => none
theorem mt_app : MtR X "list.append" (rdM T opAppend) := by
  intro pins s σ H x xs v us Q I rx rv ⟨g, st, wx, ws, w, st', hs, hx, hxs, e, q⟩
  unfold opAppend at e
  split at e
  · split at e
    · split at e
      · rename_i e0
        cases e
        obtain ⟨hn, rfl⟩ := rw_obj hx
        obtain ⟨u, rfl, r⟩ := rws1 hxs
        obtain ⟨acc, z1, z2, z3, z4⟩ := apd_ok hs r e0
        exact mt_append pins s σ H _ _ v us Q I rx rv ⟨_, acc, u, rfl, rfl, z1, z2, q _ _ _ z3 z4 RW.non⟩
      · cases e
    · cases e
  · cases e
noncomputable def opExtend : OpM := fun x ws s => match x with
  | .obj n => match ws with
    | [.obj k] => match s.get n with
      | some (.lst xs) => match s.get k with
        | some (.lst ys) => bif Nat.ble (xs.length + ys.length) lineN then some (.non, s.put n (.lst (xs ++ ys))) else none
        | _ => none
      | _ => none
    | _ => none
  | _ => none
theorem mt_ext : MtR X "list.extend" (rdM T opExtend) := by
  intro pins s σ H x xs v us Q I rx rv ⟨g, st, wx, ws, w, st', hs, hx, hxs, e, q⟩
  unfold opExtend at e
  split at e
  · split at e
    · split at e
      · rename_i e1
        split at e
        · rename_i e2
          obtain ⟨c, e⟩ := bif_t e
          cases e
          have c := leB c
          rw [lineN_eq] at c
          obtain ⟨hn, rfl⟩ := rw_obj hx
          obtain ⟨u, rfl, r⟩ := rws1 hxs
          obtain ⟨hk, rfl⟩ := rw_obj r
          obtain ⟨_, vs, h0, hz, ra⟩ := hs.lst e1
          obtain ⟨_, zs, h1, hz1, rb⟩ := hs.lst e2
          rw [ra.length, rb.length] at c
          obtain ⟨x1, x2⟩ := hs.putL hn (vs := vs ++ zs) (by rw [List.length_append]; exact c) (ra.append rb)
          exact mt_extend pins s σ H _ _ v us Q I rx rv ⟨_, _, vs, zs, rfl, rfl, h0, h1, c, q _ _ _ x1 x2 RW.non⟩
        · cases e
      · cases e
    · cases e
  · cases e
noncomputable def opPop : OpM := fun x ws s => match x with
  | .obj n => match ws with
    | [] => match s.get n with
      | some (.lst xs) => match xs[xs.length - 1]? with
        | some y => some (y, s.put n (.lst xs.dropLast))
        | none => none
      | _ => none
    | [.int i] => match s.get n with
      | some (.lst xs) => bif nnI i then (match xs[i.toNat]? with
        | some y => some (y, s.put n (.lst (xs.eraseIdx i.toNat)))
        | none => none) else none
      | _ => none
    | _ => none
  | _ => none
theorem RWs.dropLast {g : Gm} {H : Hp} {xs : List W} {vs : List V} (r : RWs T g H xs vs) : RWs T g H xs.dropLast vs.dropLast := by
  rw [List.dropLast_eq_take, List.dropLast_eq_take, r.length]
  exact r.take _
theorem RWs.eraseIdx {g : Gm} {H : Hp} : ∀ {xs : List W} {vs : List V} (i : Nat), RWs T g H xs vs → RWs T g H (xs.eraseIdx i) (vs.eraseIdx i)
  | [], vs, _, h => by simp only [RWs] at h; rw [h]; exact RWs.nil
  | y :: xs, vs, 0, h => by
    simp only [RWs] at h
    obtain ⟨v', r', rfl, h2, h3⟩ := h
    exact h3
  | y :: xs, vs, i + 1, h => by
    simp only [RWs] at h
    obtain ⟨v', r', rfl, h2, h3⟩ := h
    exact RWs.cons h2 (RWs.eraseIdx i h3)
theorem mt_popR : MtR X "list.pop" (rdM T opPop) := by
  intro pins s σ H x xs v us Q I rx rv ⟨g, st, wx, ws, w, st', hs, hx, hxs, e, q⟩
  unfold opPop at e
  split at e
  · split at e
    · split at e
      · rename_i e1
        split at e
        · rename_i y e2
          cases e
          obtain ⟨hn, rfl⟩ := rw_obj hx
          have hxs : xs = [] := by simpa only [RWs] using hxs
          subst hxs
          obtain ⟨_, vs, h0, hz, ra⟩ := hs.lst e1
          obtain ⟨u, hu, ru⟩ := ra.get e2
          rw [ra.length] at hu
          obtain ⟨x1, x2⟩ := hs.putL hn (vs := vs.dropLast) (by rw [List.length_dropLast]; omega) ra.dropLast
          exact mt_pop pins s σ H _ _ v us Q I rx rv ⟨_, vs, u, rfl, rfl, h0, hu, q _ _ _ x1 x2 (RW.ext x1 _ _ ru)⟩
        · cases e
      · cases e
    · split at e
      · rename_i i _ xs' e1
        cases hc : nnI i with
        | false => rw [hc] at e; cases e
        | true =>
          rw [hc] at e
          simp only [cond_true] at e
          split at e
          · rename_i y e2
            cases e
            obtain ⟨hn, rfl⟩ := rw_obj hx
            obtain ⟨u, rfl, r⟩ := rws1 hxs
            obtain ⟨_, vs, h0, hz, ra⟩ := hs.lst e1
            obtain ⟨u', hu, ru⟩ := ra.get e2
            have hi := nnI_t hc
            have hlt : i.toNat < vs.length := by
              obtain ⟨h, _⟩ := List.getElem?_eq_some_iff.mp hu
              exact h
            have hsz : sizeLine = 16777216 := sizeLine_eq
            obtain ⟨x1, x2⟩ := hs.putL hn (vs := vs.eraseIdx i.toNat) (Nat.le_trans (len_erase _ _) hz) (RWs.eraseIdx i.toNat ra)
            refine mt_popAt pins s σ H _ _ v us Q I rx rv ⟨_, vs, i, i.toNat, u', rfl, by rw [rw_int r], h0, by omega, by omega, PySem.StrLaws.seqIndex_nonneg hi (by omega), hu, q _ _ _ x1 x2 (RW.ext x1 _ _ ru)⟩
          · cases e
      · cases e
    · cases e
  · cases e
end
end MM
end

section
set_option Elab.async false
set_option linter.all false
set_option autoImplicit false
set_option maxRecDepth 100000
set_option maxHeartbeats 4000000
/-! MMI: defs, their calls; stores at an index; x op= e. -/
namespace MM
open PySem PySem.Spec PyProof.Rows L2

/-- the names at the entry -/
def initL (n : Nat) (ws : List W) : MM.Loc := ws.map some ++ List.replicate (n - ws.length) none
/-- a def's mirror, by its body's -/
noncomputable def runDef (n : Nat) (body : SM) : List W → M W := fun ws st => (body (initL n ws) st).bind fun o =>
  SOut.rec (motive := fun _ => Tr (Out W)) (fun _ s => .lf (.ok .non s)) (fun w s => .lf (.ok w s)) (fun _ _ => .bad) (fun _ _ => .bad) (fun c fs _ s => .lf (.ex c fs s)) o
def PoF (T : Tb) (g : Gm) (H : Hp) (Q : VK) : Out W → Prop
  | .ok w st => ∀ g' H' v, Ext T g H g' H' → SR T g' H' st → RW T g' H' w v → Q v H'
  | .ex _ _ st => ∀ g' H', Ext T g H g' H' → SR T g' H' st → False
theorem Tr.All.both {α : Type} {P Q : α → Prop} : ∀ {t : Tr α}, t.All P → t.All Q → t.All fun a => P a ∧ Q a
  | .lf _, h, k => ⟨h, k⟩
  | .ch _ f, h, k => fun i hi => (h i hi).both (k i hi)
  | .bad, h, _ => h
/-- a def's promise by its mirror, where nothing is raised -/
def spOf (T : Tb) (n : Nat) (F : List W → M W) : Sp := fun vs H Q _ => vs.length = n ∧ ∃ g ws st, SR T g H st ∧ RWs T g H ws vs ∧ (F ws st).All (PoF T g H Q)
section
variable {T : Tb} {X : Cx} {Wx : WX} {pos : Pos} {P : Program} {w : World} {mg : Str → Option Value} {base : Heap}
theorem LR.start {g : Gm} {H : Hp} {N : List Str} {ws : List W} {vs : List V} (r : RWs T g H ws vs) : LR T g H (initL N.length ws) (L2.start N vs) := by
  unfold initL L2.start
  have hl := r.length
  refine ⟨by rw [List.length_append, List.length_append, List.length_map, List.length_map, List.length_replicate, List.length_replicate, hl], fun i u e => ?_⟩
  by_cases hi : i < ws.length
  · rw [List.getElem?_append_left (by rw [List.length_map]; exact hi), List.getElem?_map] at e
    cases h : ws[i]? with
    | none => rw [h] at e; cases e
    | some u' =>
      rw [h] at e
      cases e
      obtain ⟨v, hv, rv⟩ := r.get h
      refine ⟨v, ?_, rv⟩
      rw [List.getElem?_append_left (by rw [List.length_map]; omega), List.getElem?_map, hv]
      rfl
  · rw [List.getElem?_append_right (by rw [List.length_map]; omega), List.getElem?_replicate] at e
    split at e <;> cases e
/-- what a def does wherever no guard is held (so that repr may show what it is given) -/
structure FnG (P : Program) (w : World) (K : PySem.W.Frag) (mg : Str → Option Value) (base : Heap) (k : Nat) (f : Addr) (fd : FuncData) (ps : List Str) (sp : Sp) : Prop where
  len : ∀ vs H Q E, sp vs H Q E → vs.length = ps.length
  run : ∀ (A : Around) (out : List Env) (s : Shared) (H : Hp) (gv : Args) (us : List Value) (vs : List V) (Q : VK) (E : XK), Room k A → A.guards = some [] → Env0 P w K mg base A out s H →
    BindsTo s fd gv (ps.zip us) → Vals vs us → sp vs H Q E → codeAny (model P w) A (.call (.ref f) gv) (CR CX0 out P w H s Q E) s
theorem def_ok {x qual : Str} {st : Stmt} {f : Addr} {fd : FuncData} {N ps : List Str} {k n : Nat} {body : SM} (Fn : Fun T.K x qual st f fd) (S : FnScope N ps (defScope st)) (hn : ps.length = n)
    (hbody : ∀ (cdv : Value) (A : Around) (outer : List Env) (s : Shared) (H : Hp) (E : XK), Room k (A.deeper (envOfC qual (defScope st) s.heap.objs.size f cdv)) → Fast T (cxOf CX0 P w T.K mg base N qual (defScope st) f cdv A outer s H E).nox →
      SSs T (cxOf CX0 P w T.K mg base N qual (defScope st) f cdv A outer s H E).nox W0 (defBody st) body) : FnG P w T.K mg base (k + 1) f fd ps (spOf T n (runDef N.length body)) := by
  refine ⟨fun vs H Q E h => by rw [h.1, hn], fun A out s H gv us vs Q E hr hg e0 hb r h => ?_⟩
  obtain ⟨oc, od, kV, doc, pm, an, cdv, ct, osl, rfl, lk, hcd⟩ := Fn.ex
  refine LamX.run_ofS lk hcd S hr e0 hb r (by rw [h.1, hn]) fun hr' => ?_
  obtain ⟨_, g, ws, st', hs, r', h⟩ := h
  refine ⟨_, (hbody cdv A out s H E hr' ⟨rfl, rfl, S.nd, ?_, hg⟩).nox, g, _, st', LR.start r', hs, (Tr.all_bind.mp h).mono fun o q => ?_⟩
  · have := hr'.un
    show (A.deeper (envOfC qual (defScope st) s.heap.objs.size f cdv)).units + 64 + 100 < cLine
    omega
  · cases o with
    | nx l s => exact fun g' H' σ' e1 s1 _ => q g' H' _ e1 s1 RW.non
    | rt w s => exact q
    | bk l s => exact q.elim
    | ct l s => exact q.elim
    | ex c fs l s => exact fun g' H' σ' cls d e1 s1 _ _ => q g' H' e1 s1
/-- the def x, the i-th one, of n parameters, does what F does -/
structure FK (P : Program) (w : World) (mg : Str → Option Value) (base : Heap) (T : Tb) (k : Nat) (x : Str) (i n : Nat) (F : List W → M W) : Prop where
  ex : ∃ fd ps, FnG P w T.K mg base k (T.fa i) fd ps (spOf T n F) ∧ Binds T.K fd ps []
  kp : PySem.W.keepIn T.K (.ref (T.fa i)) = true
  at_ : mg x = some (.ref (T.fa i))
/-- the call of a def whose promise is known -/
theorem runG {pins : List (Addr × Obj)} {σ : L2.St} {H : Hp} {s : Shared} {Q : VK} {k : Nat} {f : Addr} {fd : FuncData} {ps : List Str} {sp : Sp} {us : List Value} {vs : List V} (G : FnG X.prog X.w X.K X.mg X.base k f fd ps sp) (hr : Room k X.A)
    (hg : X.A.guards = some []) (hb : Binds X.K fd ps []) (I : Inv X pins σ H s) (r : Vals vs us) (h : sp vs H Q L2.E0) : wpAny (model X.prog X.w) X.A (call (.ref f) us) (EP X pins σ Q) X.xe s := by
  have hl : (us ++ []).length = ps.length := by
    rw [List.append_nil, ← r.length]
    exact G.len _ _ _ _ h
  have hbt := hb s us I.kIn hl
  rw [List.append_nil] at hbt
  have c := G.run X.A X.stack s H ⟨us, []⟩ us vs Q L2.E0 hr hg I.env0 hbt r h
  refine wpAny_call (codeAny_mono c fun res s' hq => ?_)
  match res, hq with
  | .error _, hq => exact hq.elim
  | .ok (.ret _), hq => exact I.after hq
  | .ok .next, hq => exact hq.elim
  | .ok .brk, hq => exact hq.elim
  | .ok .cont, hq => exact hq.elim
/-- what stands of a def behind the top -/
structure Def (K : PySem.W.Frag) (mg : Str → Option Value) (x : Str) (st : Stmt) (f : Addr) : Prop where
  ex : ∃ fd, Fun K x x st f fd
  at_ : mg x = some (.ref f)
theorem Def.fk {x : Str} {st : Stmt} {i n k : Nat} {N ps : List Str} {body : SM} (D : Def T.K mg x st (T.fa i)) (S : FnScope N ps (defScope st)) (hn : ps.length = n)
    (hb : ∀ (kV doc pm : Value) (an : Option Addr) (cdv ct : Value) (us : List Value), us.length = ps.length → bindArgs (PySem.W.fnOf x x (defArgs st) (defBody st) (defScope st) .none kV doc pm an cdv ct) ⟨us, []⟩ = pure (ps.zip us))
    (hbody : ∀ (cdv : Value) (A : Around) (outer : List Env) (s : Shared) (H : Hp) (E : XK), Room k (A.deeper (envOfC x (defScope st) s.heap.objs.size (T.fa i) cdv)) → Fast T (cxOf CX0 P w T.K mg base N x (defScope st) (T.fa i) cdv A outer s H E).nox →
      SSs T (cxOf CX0 P w T.K mg base N x (defScope st) (T.fa i) cdv A outer s H E).nox W0 (defBody st) body) : FK P w mg base T (k + 1) x i n (runDef N.length body) := by
  obtain ⟨fd, Fn⟩ := D.ex
  exact ⟨⟨fd, ps, def_ok Fn S hn hbody, Fn.binds hb⟩, Fn.kp, D.at_⟩
noncomputable def mFn (n : Nat) (F : List W → M W) (a : AM) : EM := fun l st => then_ (a l st) fun ws st => bif Nat.beq ws.length n then F ws st else .bad
theorem rd_fn {F : List W → M W} {n : Nat} {m : AM} {σ : L2.St} {H : Hp} {Q : VK} (h : rdE T W0 (mFn n F m) σ H Q) : rdA T W0 m σ H fun vs H1 => spOf T n F vs H1 Q L2.E0 := by
  obtain ⟨g, l, st, hl, hs, h⟩ := h
  refine ⟨g, l, st, hl, hs, (all_then h).mono fun o q => ?_⟩
  cases o with
  | ex c fs s => exact q
  | ok ws s =>
    intro g1 H1 vs e1 s1 r1
    dsimp only at q
    cases hc : Nat.beq ws.length n with
    | false => rw [hc] at q; exact q.elim
    | true =>
      rw [hc] at q
      refine ⟨by rw [← r1.length]; exact Nat.eq_of_beq_eq_true hc, g1, ws, s, s1, r1, Tr.All.mono q fun o q => ?_⟩
      cases o with
      | ok w s => exact fun g' H' v e => q g' H' v (e1.trans e)
      | ex c fs s2 => exact fun g' H' e s => q g' H' _ none (e1.trans e) s rfl
/-- f(e, ..) -/
theorem s_call {k j i n : Nat} {x : Str} {p : Pos} {e : Expr} {es : List Expr} {F : List W → M W} {m : AM} (Fs : Fast T X) (hf : FK X.prog X.w X.mg X.base T k x i n F) (hr : Room j X.A) (hk : k ≤ j) (hg : Gl X x) (ha : SA T X W0 (e :: es) m)
    (hdb : (x == ("__debug__" : Str)) = false) (he : starEach (e :: es) X.env = (false, eval e X.env) :: starEach es X.env) (hpl : (backTo pos (starEach es X.env)).any (·.1) = false) :
    SE T X W0 (.Call (.Name x p) (e :: es) [] pos) (mFn n F m) := by
  obtain ⟨fd, ps, hF, hB⟩ := hf.ex
  have hkp := hf.kp
  rw [← Fs.k] at hF hB hkp
  refine ⟨fun pins s σ H Q I h => ?_⟩
  have h := rd_fn h
  refine wpAny_Call_Name_kw (ld_glob I hg hf.at_ ?_ hdb)
  refine PySem.W.callWith_K (h₀ := X.base) I.ok.mod.kin hkp ?_ he hpl
  refine thn (ha.run pos pins s σ H _ I h) ?_
  rintro us s1 ⟨vs, H1, I1, r, q⟩
  exact ⟨I1.kIn, runG hF (hr.mono hk) Fs.gd hB I1 r q⟩
theorem s_call0 {k j i : Nat} {x : Str} {p : Pos} {F : List W → M W} (Fs : Fast T X) (hf : FK X.prog X.w X.mg X.base T k x i 0 F) (hr : Room j X.A) (hk : k ≤ j) (hg : Gl X x)
    (hdb : (x == ("__debug__" : Str)) = false) : SE T X W0 (.Call (.Name x p) [] [] pos) (mFn 0 F mNil) := by
  obtain ⟨fd, ps, hF, hB⟩ := hf.ex
  have hkp := hf.kp
  rw [← Fs.k] at hF hB hkp
  refine ⟨fun pins s σ H Q I h => ?_⟩
  obtain ⟨g, l, st, hl, hs, h⟩ := rd_fn h
  refine wpAny_Call_Name_kw (ld_glob I hg hf.at_ ?_ hdb)
  exact PySem.W.callWith_K0 I.kIn hkp (runG hF (hr.mono hk) Fs.gd hB I .nil (h g H [] Ext.refl hs RWs.nil))

/-- a constant of the module -/
def GC (mg : Str → Option Value) (x : Str) (w : W) : Prop := ∃ u v, mg x = some u ∧ RelV v u ∧ ∀ T g H, RW T g H w v
theorem GC.int {x : Str} {i : Int} {t : Tok} (h : mg x = some (.int i t)) : GC mg x (.int i) := ⟨_, .int i, h, ⟨t, rfl⟩, fun _ _ _ => RW.int i⟩
theorem GC.str {x : Str} {i : Str} {t : Tok} (h : mg x = some (.str i t)) : GC mg x (.str i) := ⟨_, .str i, h, ⟨t, rfl⟩, fun _ _ _ => RW.str i⟩
theorem s_gc {x : Str} {w : W} (hg : Gl X x) (h : GC X.mg x w) (hd : (x == ("__debug__" : Str)) = false) : SE T X Wx (.Name x pos) (mC w) := by
  obtain ⟨u, v, hm, r, hr⟩ := h
  exact s_glob hg hm r (fun g H => hr T g H) hd
theorem s_tyname {x : Str} {n : Nat} (hg : Gl X x) (hm : X.mg x = none) (hv : bootBuiltins x = some (.type (tyName n))) (hn : x ≠ "__name__") (hd : (x == ("__debug__" : Str)) = false) : SE T X Wx (.Name x pos) (mC (.ty n)) :=
  s_const (v := .ty (tyName n)) (pe_bltn hg hm hv (show L2.RelV (.ty (tyName n)) (.type (tyName n)) from rfl) hn hd) fun _ _ => RW.ty n

/-! ### o[i] = e for a list; x op= e -/
noncomputable def opSet (o i v : W) (s : Sto) : Option Sto := match o with
  | .obj n => match i with
    | .int k => match s.get n with
      | some (.lst xs) => match ixN xs.length k with
        | some j => some (s.put n (.lst (xs.set j v)))
        | none => none
      | _ => none
    | _ => none
  | _ => none
noncomputable def gSub_ (o i : EM) : GM := fun w l st => then_ (o l st) fun x st => then_ (i l st) fun y st => match opSet x y w st with
  | some st => .lf (.ok l st)
  | none => .bad
def rdSet (T : Tb) : TSet := fun o i v H Q => ∃ g st wo wi wv st', SR T g H st ∧ RW T g H wo o ∧ RW T g H wi i ∧ RW T g H wv v ∧ opSet wo wi wv st = some st' ∧ ∀ g' H', Ext T g H g' H' → SR T g' H' st' → Q H'
theorem set_any : PSet X (rdSet T) := by
  intro pins s σ H o i v ov iv u Q I ro ri rv ⟨g, st, wo, wi, wv, st', hs, ho, hi, hv, e, q⟩
  unfold opSet at e
  split at e
  · split at e
    · split at e
      · rename_i e1
        split at e
        · rename_i j e2
          cases e
          obtain ⟨hn, rfl⟩ := rw_obj ho
          obtain ⟨_, vs, h0, hz, ra⟩ := hs.lst e1
          obtain ⟨x1, x2⟩ := hs.putL hn (vs := vs.set j v) (by rw [List.length_set]; exact hz) (ra.set hv j)
          exact set_list pins s σ H _ i v ov iv u Q I ro ri rv ⟨_, vs, _, j, rfl, rw_int hi, h0, by rw [← ra.length]; exact e2, q _ _ x1 x2⟩
        · cases e
      · cases e
    · cases e
  · cases e
theorem s_gsub {o i : Expr} {mo mi : EM} (ho : SE T X W0 o mo) (hi : SE T X W0 i mi)
    (ha : ∀ v, assign (.Subscript o i pos) X.env v = (do
      let ov ← holding [v] (eval o X.env)
      let iv ← holding [v, ov] (eval i X.env)
      standAt pos
      holding [v, ov, iv] (setItem ov iv v)
      release [v, ov, iv] [])) : SG T X W0 [] (.Subscript o i pos) (gSub_ mo mi) := by
  refine weakG (pg_sub ho hi (set_any (T := T)) ha) fun v σ H Q ⟨g, l, st, w, hl, hs, r, h⟩ => ?_
  refine rdE_then hl hs h fun x st1 g1 H1 v1 e1 s1 r1 l1 h => ?_
  refine rdE_then l1 s1 h fun y st2 g2 H2 v2 e2 s2 r2 l2 h => ?_
  cases e : opSet x y w st2 with
  | none => simp only [e] at h; exact h.elim
  | some st3 =>
    simp only [e] at h
    exact ⟨g2, st2, x, y, w, st3, s2, RW.ext e2 _ _ r1, r2, RW.ext (e1.trans e2) _ _ r, e, fun g' H' e' s' => h g' H' σ e' s' ⟨l2.ext e', fun _ _ => rfl, rfl⟩⟩
noncomputable def mAug (i : Nat) (op : Op2) (m : EM) : SM := fun l st => Option.rec (motive := fun _ => Tr SOut) .bad (fun x => thenS (m l st) l fun y st => thenS (lift (op x y st)) l fun z st => .lf (.nx (setL l i z) st)) (nth l i)
theorem s_aug {i : Nat} {x : Str} {e : Expr} {op : Operator} {f : Op2} {m : EM} {pos' : Pos} (Fs : Fast T X) (hi : X.N[i]? = some x) (hx : L2.Loc X.env.scope x) (he : SE T X Wx e m) (ho : PIp X op (rdO T f)) (hf : X.fn x = true ∨ X.env.scope.names.lookup x = some .local) :
    SS T X Wx (.AugAssign (.Name x pos') op e pos) (mAug i f m) := by
  refine weakS (ps_aug Fs.nd hi hx he ho hf) fun D σ H ⟨g, l, st, hl, hs, h⟩ => ?_
  unfold mAug at h
  cases e : nth l i with
  | none => rw [e] at h; exact h.elim
  | some wx =>
    rw [e] at h
    obtain ⟨v, h1, h2⟩ := hl.at_ i wx (nth_eq e)
    refine ⟨v, h1, rdE_thenS hl hs h fun w st1 g1 H1 v1 e1 s1 r1 l1 h => ?_⟩
    have h := all_thenS h
    obtain ⟨z, st3, e3, h⟩ := lift_all h
    refine ⟨g1, st1, wx, w, z, st3, s1, RW.ext e1 _ _ h2, r1, e3, fun g' H' v' e' s' r' => h g' H' _ e' s' ?_⟩
    rw [setL_eq]
    exact (l1.ext e').set i r'
end
end MM
end

section
set_option Elab.async false
set_option linter.all false
set_option autoImplicit false
set_option maxRecDepth 100000
set_option maxHeartbeats 4000000
/-! MMJ: the law's end. -/
namespace MM
open PySem PySem.Spec PyProof.Rows L2

theorem callerA_guards : callerA.guards = some [] := rfl
section
variable {P : Program} {w : World} {K : PySem.W.Frag} {mg mb : Str → Option Value} {s : Shared} {a : Addr} {vs : List Value} {ns : List Int}
/-- the abstract heap at the law's call: nothing but the script, if the text does not own it -/
noncomputable def scrH (K : PySem.W.Frag) (a : Addr) (vs : List Value) (ns : List Int) : Hp := fun b =>
  match K.lookup a with
  | some _ => none
  | none => if b = a then some (.frz { cls := .type "list", data := .seq vs.toArray } (.lst (ns.map V.int))) else none
theorem scrH_own (h : (K.lookup a).isSome = true) : scrH K a vs ns = fun _ => none := by
  funext b
  unfold scrH
  cases e : K.lookup a with
  | none => rw [e] at h; cases h
  | some o => rfl
theorem scrH_new (h : K.lookup a = none) : scrH K a vs ns = fun b => if b = a then some (.frz { cls := .type "list", data := .seq vs.toArray } (.lst (ns.map V.int))) else none := by
  funext b
  unfold scrH
  rw [h]
theorem scrH_only {b : Addr} {u : HO} (h : scrH K a vs ns b = some u) : b = a ∧ K.lookup a = none ∧ u = .frz { cls := .type "list", data := .seq vs.toArray } (.lst (ns.map V.int)) := by
  cases e : K.lookup a with
  | some o => rw [scrH_own (by rw [e]; rfl)] at h; cases h
  | none =>
    rw [scrH_new e] at h
    by_cases hb : b = a
    · refine ⟨hb, rfl, ?_⟩
      have h := (if_pos hb).symm.trans h
      exact (Option.some.inj h).symm
    · have h := (if_neg hb).symm.trans h
      cases h
theorem scrH_seq (KX : K.In s.heap) (ha : s.heap.get? a = some { cls := .type "list", data := .seq vs.toArray }) (hi : IntsAre vs ns) (hl : ns.length ≤ sizeLine) : SqF K (scrH K a vs ns) a (ns.map V.int) := by
  have lv := hi.length
  cases e : K.lookup a with
  | some o =>
    have e2 := KX a o e
    rw [ha] at e2
    cases e2
    exact .inr (.inr ⟨_, vs.toArray, _, e, rfl, rfl, rfl, by rw [List.size_toArray, lv]; exact hl, by simpa using vals_ints hi⟩)
  | none => exact .inl ⟨_, by rw [scrH_new e]; exact if_pos rfl⟩
theorem scrH_ok (ha : s.heap.get? a = some { cls := .type "list", data := .seq vs.toArray }) (hi : IntsAre vs ns) (hl : ns.length ≤ sizeLine) : HOk P w (scrH K a vs ns) s.heap := fun b u h => by
  obtain ⟨rfl, _, rfl⟩ := scrH_only h
  exact ⟨ha, by rw [List.length_map]; exact hl, vs, _, vals_ints hi, ha⟩
theorem scrH_none {b : Addr} {o : Obj} (ha : s.heap.get? a = some { cls := .type "list", data := .seq vs.toArray }) (e : s.heap.get? b = some o) (d : (∃ es ep, o.data = .dict es ep) ∨ (K.lookup b).isSome = true) : scrH K a vs ns b = none := by
  cases q : scrH K a vs ns b with
  | none => rfl
  | some u =>
    obtain ⟨rfl, hk, _⟩ := scrH_only q
    rcases d with ⟨es, ep, d⟩ | d
    · rw [ha] at e
      cases e
      cases d
    · rw [hk] at d
      cases d
theorem scrH_env (KX : K.In s.heap) (hns : s.heap.Ns mainGlobals mg) (hb : s.heap.Ns builtinsNs mb) (hbb : ∀ x : Str, x ≠ "__name__" → mb x = bootBuiltins x) (hlim : s.heap.NoLimit) (hg : s.gens = #[])
    (ha : s.heap.get? a = some { cls := .type "list", data := .seq vs.toArray }) (hi : IntsAre vs ns) (hl : ns.length ≤ sizeLine) :
    K.In (hidT s.heap (scrH K a vs ns)) ∧ (hidT s.heap (scrH K a vs ns)).Ns mainGlobals mg ∧ Env0 P w K mg (hidT s.heap (scrH K a vs ns)) callerA [] s (scrH K a vs ns) := by
  have kn : ∀ {b : Addr} {m : Str → Option Value}, s.heap.Ns b m → (hidT s.heap (scrH K a vs ns)).Ns b m := by
    rintro b m ⟨o, es, ep, e, d, r⟩
    exact ⟨o, es, ep, hidT_get e (scrH_none ha e (.inl ⟨es, ep, d⟩)), d, r⟩
  have kk : K.In (hidT s.heap (scrH K a vs ns)) := by
    intro b o e
    have e2 := KX b o e
    exact hidT_get e2 (scrH_none ha e2 (.inr (by rw [e]; rfl)))
  obtain ⟨mc, l1, l2⟩ := hlim
  refine ⟨kk, kn hns, ?_⟩
  constructor
  · rfl
  · exact ⟨kk, kn hns, ⟨mb, kn hb, hbb⟩, ⟨mc, kn l1, l2⟩⟩
  · exact fun b o e => of_hidT e
  · exact Nat.le_of_eq (hidT_size _ _)
  · trivial
  · exact fun b z => nomatch (show b ∈ ([] : List Addr) from z)
  · exact scrH_ok ha hi hl
  · exact .of_eq hg
end
def st0 : Sto := ⟨0, .lf⟩
theorem sr0 {T : Tb} {H : Hp} : SR T ⟨0, fun _ => 0⟩ H st0 := ⟨rfl, fun j k h => absurd h (Nat.not_lt_zero j), fun k h => absurd h (Nat.not_lt_zero k)⟩
/-- the law says True on every way -/
def Says (F : List W → M W) (n : Nat) : Prop := ∀ ns : List Int, ns.length ≤ n → (F [.scr ns] st0).All fun o => ∃ s, o = .ok (.bl true) s
theorem lawG {l : PySem.W.OpenLaw} {n k i : Nat} {q : Program} {loose : List Str} {XP : (Str → Option Value) → Heap → Prop} {YP : World → Heap → Prop} {d : DefRec} {K : Params → PySem.W.Frag} {F : List W → M W}
    (hn : l.most = some n) (hn2 : n ≤ sizeLine) (hdf : d.params.defaults = []) (hr : Room k callerA) (hY : ∀ (w : World) (h : Heap), YP w h → (K w.params).In h)
    (hF : ∀ (w : World) (mg : Str → Option Value) (fa : Addr) (h : Heap), (K w.params).In h → h.Ns mainGlobals mg → mg d.name = some (.ref fa) →
      ∃ T : Tb, T.K = K w.params ∧ T.fa i = fa ∧ ∀ base : Heap, (K w.params).In base → base.Ns mainGlobals mg → FK l.prog w mg base T k d.name i 1 F)
    (says : Says F n) : PySem.W.WalkO q loose XP YP l.row.toRowW d [] (fun f vs => PySem.call f vs) := by
  refine Att.attach_call hn hdf ?_
  intro w s₀ s₁ mg mb fa o pm cd doc a vs ns G Y ho hd hcd hmg hobj hints hlen hg
  have KX := hY w _ Y
  obtain ⟨T, hK, hfa, hF⟩ := hF w mg fa _ KX G.T.g hmg
  have hl : ns.length ≤ sizeLine := Nat.le_trans hlen hn2
  obtain ⟨b1, b2, e0⟩ := scrH_env (P := l.prog) (w := w) KX G.T.g G.T.b G.T.builtins G.T.nolimit hg hobj hints hl
  obtain ⟨fd, ps, hG, hB⟩ := (hF _ b1 b2).ex
  rw [hK, hfa] at hG
  rw [hK] at hB
  have hsq : RW T ⟨0, fun _ => 0⟩ (scrH (K w.params) a vs ns) (.scr ns) (.ref a) := by
    simp only [RW]
    exact ⟨a, rfl, by rw [hK]; exact scrH_seq KX hobj hints hl⟩
  have hsp : spOf T 1 F [.ref a] (scrH (K w.params) a vs ns) (fun v _ => v = .bl true) L2.E0 := by
    refine ⟨rfl, ⟨0, fun _ => 0⟩, [.scr ns], st0, sr0, RWs.cons hsq RWs.nil, (says ns hlen).mono fun o q => ?_⟩
    obtain ⟨s', rfl⟩ := q
    exact fun g' H' v _ _ r => rw_bl r
  have hps : ps.length = 1 := by have := hG.len _ _ _ _ hsp; simpa using this.symm
  have hbt := hB s₁ [.ref a] KX (by rw [hps]; rfl)
  rw [List.append_nil] at hbt
  refine codeAny_mono (hG.run callerA [] s₁ _ ⟨[.ref a], []⟩ [.ref a] [.ref a] _ _ hr callerA_guards e0 hbt (.cons rfl .nil) hsp) fun r s' hq => ?_
  match r, hq with
  | .error _, hq => exact hq.elim
  | .ok .next, hq => exact hq.elim
  | .ok .brk, hq => exact hq.elim
  | .ok .cont, hq => exact hq.elim
  | .ok (.ret u), hq =>
    obtain ⟨v, H', os, bare, un, hok', r', q⟩ := hq
    subst q
    cases (show u = Value.bool true from r')
    refine ⟨rfl, OldK.of_keep fun b o e => ?_, os, bare⟩
    cases qb : scrH (K w.params) a vs ns b with
    | none =>
      refine un.keep b o e qb ?_ ?_
      · exact fun z => nomatch (show b ∈ ([] : List Addr) from z)
      · exact fun z => nomatch z
    | some x =>
      obtain ⟨rfl, _, rfl⟩ := scrH_only qb
      have z2 := un.frzs b _ _ qb
      rw [hobj] at e
      cases e
      exact (hok' b _ z2).1
end MM
end

section
set_option Elab.async false
set_option linter.all false
set_option autoImplicit false
set_option maxRecDepth 100000
set_option maxHeartbeats 4000000
/-! MMK: int(), repr, displays of dicts, the dice. -/
namespace MM
open PySem PySem.Spec PyProof.Rows L2
section
variable {T : Tb} {X : Cx} {Wx : WX} {g : Gm} {H : Hp} {s : Sto} {pos : Pos}
noncomputable def opInt : OpL := one fun x s => match x with
  | .int i => some (.int i, s)
  | .bl k => some (.int (if k then 1 else 0), s)
  | .str z => bif Nat.ble z.length 640 then (match PySem.intText? z with
    | some n => some (.int n, s)
    | none => none) else none
  | _ => none
theorem sc_int : SC T X (.type "int") opInt := by
  intro pins s0 σ H vs us Q I rs h
  obtain ⟨g, st, ws, w, st', hs, hx, e, q⟩ := h
  replace e := one_some e
  obtain ⟨x, rfl, e⟩ := e
  obtain ⟨v, rfl, r⟩ := rws1 hx
  split at e
  · cases e
    exact call_int1 pins s0 σ H _ us Q I rs (.inl ⟨_, by rw [rw_int r], q g H _ Ext.refl hs (RW.int _)⟩)
  · cases e
    exact call_int1 pins s0 σ H _ us Q I rs (.inr ⟨_, by rw [rw_bl r], q g H _ Ext.refl hs (RW.int _)⟩)
  · rename_i z
    cases hc : Nat.ble z.length 640 with
    | false => rw [hc] at e; cases e
    | true =>
      rw [hc] at e
      simp only [cond_true] at e
      split at e
      · rename_i n hn
        cases e
        exact call_int_str pins s0 σ H _ us Q I rs ⟨_, n, by rw [rw_str r], hn, leB hc, q g H _ Ext.refl hs (RW.int _)⟩
      · cases e
  · cases e

/-! ### repr -/
mutual
theorem leaves_of : ∀ d : PyData, d.canLay0 = true → d.showable = true → d.leavesShort 1922 = true
  | .none, _, _ => rfl
  | .bool _, _, _ => rfl
  | .int i, _, h => by
    have h : i.natAbs.log2 < 1920 := by simpa only [PyData.showable, decide_eq_true_eq] using h
    have := int_text_length_le (k := 1920) (by omega) h
    simp only [PyData.leavesShort, PyData.shown, decide_eq_true_eq]
    have e2 : (Str.ofString (toString i)).length = (toString i).length := PySem.ofString_length _
    exact decide_eq_true (by omega)
  | .str x, h, _ => leavesShort_of_canLay0' (.str x) h rfl
  | .list xs, hc, h => by
    simp only [PyData.leavesShort]
    exact leavesAll_of xs (by simpa only [PyData.canLay0] using hc) (by simpa only [PyData.showable] using h)
  | .tuple xs, hc, h => by
    simp only [PyData.leavesShort]
    exact leavesAll_of xs (by simpa only [PyData.canLay0] using hc) (by simpa only [PyData.showable] using h)
  | .dict _, hc, _ => by simp only [PyData.canLay0] at hc; exact nomatch hc
theorem leavesAll_of : ∀ xs : List PyData, PyData.canLayAll0 xs = true → PyData.showableAll xs = true → PyData.leavesShortAll 1922 xs = true
  | [], _, _ => rfl
  | x :: xs, hc, h => by
    have hc' : x.canLay0 = true ∧ PyData.canLayAll0 xs = true := by simpa only [PyData.canLayAll0, Bool.and_eq_true] using hc
    have h' : x.showable = true ∧ PyData.showableAll xs = true := by simpa only [PyData.showableAll, Bool.and_eq_true] using h
    simp only [PyData.leavesShortAll, Bool.and_eq_true]
    exact ⟨leaves_of x hc'.1 h'.1, leavesAll_of xs hc'.2 h'.2⟩
theorem leavesShort_of_canLay0' : ∀ d : PyData, d.canLay0 = true → d.intsShort 1922 = true → d.leavesShort 1922 = true := fun d h h' => PyData.leavesShort_of_canLay0 1922 d h h'
end
theorem shown_fit {d : PyData} (h1 : d.canLay0 = true) (h2 : d.showable = true) (h3 : d.bulk ≤ 4000) : d.shown.length ≤ sizeLine := by
  have h := PyData.shown_le_bulk 1922 (by omega) d (leaves_of d h1 h2)
  rw [sizeLine_eq]
  have : (1922 + 2) * d.bulk ≤ 1924 * 4000 := Nat.mul_le_mul (by omega) h3
  omega
noncomputable def opRepr : OpL := one fun x s => match dat 40 s x with
  | some d => bif d.showable && Nat.ble d.bulk 4000 then some (.str d.shown, s) else none
  | none => none
theorem sc_repr (F : Fast T X) : SC T X (.builtin "repr") opRepr := by
  intro pins s0 σ H vs us Q I rs h
  obtain ⟨g, st, ws, w, st', hs, hx, e, q⟩ := h
  replace e := one_some e
  obtain ⟨x, rfl, e⟩ := e
  obtain ⟨v, rfl, r⟩ := rws1 hx
  split at e
  · rename_i d hd
    obtain ⟨c, e⟩ := bif_t e
    cases e
    obtain ⟨c1, c2⟩ := Bool.and_eq_true_iff.mp c
    obtain ⟨dp, lay, dep⟩ := dat_ok hs 40 x d v hd r
    obtain ⟨u, rfl, ru⟩ := vals1 rs
    have fit := shown_fit lay c1 (leB c2)
    have q' := q g H (.str d.shown) Ext.refl hs (RW.str _)
    have un := F.un
    rw [← F.k] at dp
    obtain ⟨as, rd⟩ := Dp.reads I d v u dp ru
    cases rd with
    | none => exact PySem.P.repr_of_none ⟨.str _, H, I.tok _, ⟨_, rfl⟩, q'⟩
    | bool b => exact PySem.P.repr_of_bool ⟨.str _, H, I.tok _, ⟨_, rfl⟩, q'⟩
    | int i t =>
      have c1 : i.natAbs.log2 < 1920 := by simpa only [PyData.showable, decide_eq_true_eq] using c1
      exact PySem.P.repr_of_int c1 ⟨.str _, H, I.tok _, ⟨_, rfl⟩, q'⟩
    | str y t => exact PySem.P.repr_of_str ⟨.str _, H, I.tok _, ⟨_, rfl⟩, q'⟩ fit
    | list a1 a2 a3 a4 =>
      exact repr_of_reads' (Reads.list a1 a2 a3 a4) c1 (PyData.noDict_hsm (PyData.hasDict_of_canLay _ lay)) F.gd (by omega) (fun _ _ e => e)
        (fun h' u' tk k => ⟨.str _, H, I.kept k, ⟨_, rfl⟩, q'⟩) fit
    | tuple a1 a2 a3 a4 =>
      exact repr_of_reads' (Reads.tuple a1 a2 a3 a4) c1 (PyData.noDict_hsm (PyData.hasDict_of_canLay _ lay)) F.gd (by omega) (fun _ _ e => e)
        (fun h' u' tk k => ⟨.str _, H, I.kept k, ⟨_, rfl⟩, q'⟩) fit
    | dict _ _ _ _ _ => simp only [PyData.canLay0] at lay; exact nomatch lay
  · cases e

/-! ### displays of dicts -/
abbrev DM := Loc → M (List (W × W))
def mPNil : DM := fun _ st => .lf (.ok [] st)
noncomputable def mPCons (k v : EM) (r : DM) : DM := fun l st => then_ (k l st) fun x st => then_ (v l st) fun y st => then_ (r l st) fun ps st => .lf (.ok ((x, y) :: ps) st)
noncomputable def keyOf : W → Option L2.Key
  | .int i => some (.inl i)
  | .str x => some (.inr x)
  | _ => none
noncomputable def keysOf : List (W × W) → Option (List L2.Key)
  | [] => some []
  | p :: r => match keyOf p.1 with
    | some k => match keysOf r with
      | some ks => some (k :: ks)
      | none => none
    | none => none
noncomputable def mDct (m : DM) : EM := fun l st => then_ (m l (st.new (.dct []))) fun kvs st2 => match st2.get st.n with
  | some (.dct []) => match keysOf kvs with
    | some ks => bif decide ks.Nodup && Nat.ble ks.length 15 then .lf (.ok (.obj st.n) (st2.put st.n (.dct kvs))) else .bad
    | none => .bad
  | _ => .bad
theorem mergeK_nodup : ∀ (more kvs : List (L2.Key × V)), ((kvs ++ more).map (·.1)).Nodup → mergeK kvs more = kvs ++ more
  | [], kvs, _ => by show kvs = _; rw [List.append_nil]
  | p :: r, kvs, h => by
    have hn : ∀ q ∈ kvs, q.1 ≠ p.1 := by
      rw [List.map_append, List.map_cons] at h
      have h2 := (List.nodup_append.mp h).2.2
      exact fun q hq => h2 q.1 (List.mem_map_of_mem hq) p.1 List.mem_cons_self
    have e : putK kvs p.1 p.2 = kvs ++ [p] := by
      unfold putK
      rw [if_neg]
      rw [List.any_eq_true]
      rintro ⟨q, hq, e⟩
      exact hn q hq (of_decide_eq_true e)
    show mergeK (putK kvs p.1 p.2) r = _
    rw [e, mergeK_nodup r (kvs ++ [p]) (by rw [List.append_assoc]; exact h), List.append_assoc]
    rfl
theorem keyOf_some {x : W} {k : L2.Key} {v : V} (h : keyOf x = some k) (r : RW T g H x v) : x = keyW k ∧ v = kV k := by
  unfold keyOf at h
  split at h
  · cases h; exact ⟨rfl, rw_int r⟩
  · cases h; exact ⟨rfl, rw_str r⟩
  · cases h
/-- pairs lie as they should -/
def RPs (T : Tb) (g : Gm) (H : Hp) (ws : List (W × W)) (vs : List (V × V)) : Prop := RWs T g H (ws.map (·.1)) (vs.map (·.1)) ∧ RWs T g H (ws.map (·.2)) (vs.map (·.2))
theorem keysOf_some : ∀ {ws : List (W × W)} {ks : List L2.Key} {vs : List (V × V)}, keysOf ws = some ks → RPs T g H ws vs →
    ∃ kvs : List (L2.Key × V), vs = kvs.map (fun kv => (kV kv.1, kv.2)) ∧ kvs.map (·.1) = ks ∧ ws.map (·.1) = kvs.map (fun p => keyW p.1) ∧ RWs T g H (ws.map (·.2)) (kvs.map (·.2))
  | [], ks, vs, e, r => by
    cases e
    obtain ⟨r1, _⟩ := r
    simp only [List.map_nil, RWs, List.map_eq_nil_iff] at r1
    subst r1
    exact ⟨[], rfl, rfl, rfl, RWs.nil⟩
  | p :: ws, ks, vs, e, r => by
    obtain ⟨r1, r2⟩ := r
    cases vs with
    | nil =>
      simp only [List.map_cons, List.map_nil, RWs] at r1
      obtain ⟨_, _, z, _⟩ := r1
      cases z
    | cons q vs =>
      simp only [List.map_cons, RWs] at r1 r2
      obtain ⟨v1, t1, z1, a1, b1⟩ := r1
      obtain ⟨v2, t2, z2, a2, b2⟩ := r2
      cases z1
      cases z2
      unfold keysOf at e
      split at e
      · rename_i k hk
        split at e
        · rename_i ks' hks
          cases e
          obtain ⟨e1, e2⟩ := keyOf_some hk a1
          obtain ⟨kvs, f1, f2, f3, f4⟩ := keysOf_some hks ⟨b1, b2⟩
          refine ⟨(k, q.2) :: kvs, ?_, ?_, ?_, ?_⟩
          · rw [f1, List.map_cons, ← e2]
          · rw [List.map_cons, f2]
          · rw [List.map_cons, List.map_cons, f3, e1]
          · rw [List.map_cons, List.map_cons]
            exact RWs.cons a2 f4
        · cases e
      · cases e
/-- the pairs' readings -/
def rdD (T : Tb) (Wx : WX) (m : DM) (trs : List (TE × TE)) : Prop := ∀ (σ : L2.St) (H : Hp) (Q : List (V × V) → Hp → Prop) (g : Gm) (l : MM.Loc) (st : Sto), LR T g H l σ → SR T g H st →
  (m l st).All (Po (α := List (W × W)) (β := List (V × V)) T Wx σ (fun g H w v => RPs T g H w v) g H Q) → tPairs trs σ H Q
theorem rd_pnil : rdD T Wx mPNil [] := fun σ H Q g l st hl hs h => h g H [] Ext.refl hs ⟨RWs.nil, RWs.nil⟩
theorem rd_pcons {k v : EM} {r : DM} {trs : List (TE × TE)} (h0 : rdD T Wx r trs) : rdD T Wx (mPCons k v r) ((rdE T Wx k, rdE T Wx v) :: trs) := fun σ H Q g l st hl hs h => by
  refine rdE_then hl hs h fun x st1 g1 H1 v1 e1 s1 r1 l1 h => ?_
  refine rdE_then l1 s1 h fun y st2 g2 H2 v2 e2 s2 r2 l2 h => ?_
  refine h0 σ H2 _ g2 l st2 l2 s2 ((all_then h).mono fun o q => ?_)
  cases o with
  | ex c fs st3 => exact q
  | ok ps st3 =>
    intro g3 H3 vs e3 s3 ⟨q1, q2⟩
    exact q g3 H3 _ e3 s3 ⟨RWs.cons (RW.ext (e2.trans e3) _ _ r1) q1, RWs.cons (RW.ext e3 _ _ r2) q2⟩
structure SD (T : Tb) (X : Cx) (Wx : WX) (pos : Pos) (keys : List (Option Expr)) (values : List Expr) (m : DM) : Prop where
  ex : ∃ trs, PPs X pos keys values trs ∧ rdD T Wx m trs
theorem s_pnil : SD T X Wx pos [] [] mPNil := ⟨⟨[], pps_nil, rd_pnil⟩⟩
theorem s_pcons {k v : Expr} {ks : List (Option Expr)} {vs : List Expr} {mk mv : EM} {r : DM} (hk : SE T X Wx k mk) (hv : SE T X Wx v mv) (hr : SD T X Wx pos ks vs r) : SD T X Wx pos (some k :: ks) (v :: vs) (mPCons mk mv r) := by
  obtain ⟨trs, h1, h2⟩ := hr.ex
  exact ⟨⟨_, pps_cons hk hv h1, rd_pcons h2⟩⟩
theorem s_dct {keys : List (Option Expr)} {values : List Expr} {m : DM} (h : SD T X Wx pos keys values m) (hall : keys.all (·.isSome) = true) (hl : keys.length = values.length) (h0 : keys ≠ []) (h15 : keys.length ≤ 15) :
    SE T X Wx (.Dict keys values pos) (mDct m) := by
  obtain ⟨trs, h1, h2⟩ := h.ex
  refine weakE (pe_disp h1 hall hl h0 h15) fun σ H Q ⟨g, l, st, hl, hs, h⟩ p hp => ?_
  have x1 : Ext T g H (g.add p) (upd H p (.dK [])) := Ext.add hp
  have x2 : SR T (g.add p) (upd H p (.dK [])) (st.new (.dct [])) := hs.add hp ⟨[], upd_same, rfl, RWs.nil⟩
  have hN : st.n = g.N := hs.n
  refine h2 σ _ _ (g.add p) l _ (hl.ext x1) x2 ((all_then h).mono fun o q => ?_)
  cases o with
  | ex c fs st3 => exact fun g' H' cls d e => q g' H' cls d (x1.trans e)
  | ok ps st2 =>
    intro g2 H2 vs e2 s2 r2
    dsimp only at q
    split at q
    · rename_i e0
      obtain ⟨hn, ks, k1, k2, _⟩ := s2.at_ e0
      have hp2 : g2.ρ st.n = p := by
        rw [hN, e2.ρ g.N (Nat.lt_succ_self _), g.add_at]
      rw [hp2] at k1
      have k3 : ks = [] := by simpa using k2.symm
      subst k3
      refine ⟨k1, ?_⟩
      split at q
      · rename_i kk hkk
        cases hc : (decide kk.Nodup && Nat.ble kk.length 15) with
        | false => rw [hc] at q; exact q.elim
        | true =>
          rw [hc] at q
          obtain ⟨c1, c2⟩ := Bool.and_eq_true_iff.mp hc
          obtain ⟨kvs, f1, f2, f3, f4⟩ := keysOf_some hkk r2
          have fl : kvs.length = kk.length := by rw [← f2, List.length_map]
          refine ⟨kvs, f1, by rw [fl]; exact leB c2, ?_⟩
          have em : mergeK [] kvs = kvs := mergeK_nodup kvs [] (by rw [List.nil_append, f2]; exact of_decide_eq_true c1)
          rw [em]
          have y1 : Ext T g2 H2 g2 (upd H2 (g2.ρ st.n) (.dK kvs)) := Ext.put s2 hn
          have y2 : SR T g2 (upd H2 (g2.ρ st.n) (.dK kvs)) (st2.put st.n (.dct ps)) := s2.put hn ⟨kvs, upd_same, f3, RWs.ext y1 _ _ f4⟩
          have q' := q g2 _ (.ref (g2.ρ st.n)) (x1.trans (e2.trans y1)) y2 (RW.obj hn)
          rw [hp2] at q'
          exact q'
      · exact q.elim
    · exact q.elim

/-! ### dice -/
theorem SR.congr {s' : Sto} (h : SR T g H s) (hn : s'.n = s.n) (ho : ∀ k, k < g.N → ∃ o, s'.get k = some o ∧ (s.get k = some o ∨ RO T g H o (g.ρ k))) : SR T g H s' := by
  refine ⟨hn.trans h.n, h.inj, fun k hk => ?_⟩
  obtain ⟨o, h1, h2⟩ := ho k hk
  refine ⟨o, h1, ?_⟩
  rcases h2 with h2 | h2
  · exact (h.at_ h2).2
  · exact h2
/-- what the dice become: dice -/
theorem SR.close {n : Nat} {s1 s2 : Sto} {d0 d1 d2 : Int} {c : Nat} (h : SR T g H s1) (hn : s2.n = s1.n) (e1 : s1.get n = some (.lst [.int d0, .int d1, .int d2])) (e2 : s2.get n = some (.dice c)) (h0 : 0 ≤ d0) (h1 : d0.natAbs < 2 ^ 1200) (h2 : 0 ≤ d2) (h3 : d2 ≤ c)
    (ho : ∀ k, k ≠ n → s2.get k = s1.get k) : SR T g H s2 := by
  refine h.congr hn fun k hk => ?_
  by_cases e : k = n
  · subst e
    refine ⟨_, e2, .inr ?_⟩
    obtain ⟨_, vs, f1, f2, f3⟩ := h.lst e1
    obtain ⟨v0, v1, v2, rfl, r0, r1, r2⟩ := rws3 f3
    rw [rw_int r0, rw_int r1, rw_int r2] at f1
    exact ⟨d0, d1, d2, f1, h0, h1, h2, h3⟩
  · obtain ⟨o, f1, f2⟩ := h.o k hk
    exact ⟨o, by rw [ho k e]; exact f1, .inl f1⟩
theorem SR.opened {n c : Nat} (h : SR T g H s) (e : s.get n = some (.dice c)) : ∃ d0 d1 d2 : Int, 0 ≤ d0 ∧ d0.natAbs < 2 ^ 1200 ∧ 0 ≤ d2 ∧ d2 ≤ c ∧ SR T g H (s.put n (.lst [.int d0, .int d1, .int d2])) := by
  obtain ⟨hn, d0, d1, d2, f1, f2, f3, f4, f5⟩ := h.at_ e
  refine ⟨d0, d1, d2, f2, f3, f4, f5, h.congr rfl fun k hk => ?_⟩
  have hn' : n < s.n := Sto.lt_of e
  rw [Sto.get_put _ _ _ _ hn']
  by_cases ek : k = n
  · subst ek
    refine ⟨_, if_pos rfl, .inr ⟨_, f1, by rw [sizeLine_eq]; show 3 ≤ 16777216; decide, RWs.cons (RW.int _) (RWs.cons (RW.int _) (RWs.cons (RW.int _) RWs.nil))⟩⟩
  · obtain ⟨o, f1, f2⟩ := h.o k hk
    exact ⟨o, by rw [if_neg ek]; exact f1, .inl f1⟩
def rollsN : Nat := 18446744073709551616
/-- new dice, of a script at a spot -/
noncomputable def diceM : List W → M W := fun ws st => match ws with
  | [.scr _, .int k] => bif nnI k && Nat.blt k.toNat rollsN then .lf (.ok (.obj st.n) (st.new (.dice 0))) else .bad
  | _ => .bad
/-- a roll: any number below the total -/
noncomputable def rollM : List W → M W := fun ws st => match ws with
  | [.obj n, .int t] => match st.get n with
    | some (.dice c) => bif posI t && Nat.blt (Nat.log2 t.natAbs) 4000 && Nat.blt c rollsN then .ch t.toNat fun i => .lf (.ok (.int i) (st.put n (.dice (c + 1)))) else .bad
    | _ => .bad
  | _ => .bad
/-- a def does what a coarser mirror promises -/
theorem FK.coarse {P : Program} {w : World} {mg : Str → Option Value} {base : Heap} {k i n : Nat} {x : Str} {F F' : List W → M W} (h : FK P w mg base T k x i n F) (c : ∀ vs H Q E, spOf T n F' vs H Q E → spOf T n F vs H Q E) : FK P w mg base T k x i n F' := by
  obtain ⟨⟨fd, ps, G, B⟩, kp, at_⟩ := h
  exact ⟨⟨fd, ps, ⟨fun vs H Q E q => G.len vs H Q E (c _ _ _ _ q), fun A out s H gv us vs Q E hr hg e0 hb r q => G.run A out s H gv us vs Q E hr hg e0 hb r (c _ _ _ _ q)⟩, B⟩, kp, at_⟩
end
end MM
end

section
set_option Elab.async false
set_option linter.all false
set_option autoImplicit false
set_option maxRecDepth 100000
set_option maxHeartbeats 4000000
/-! MML: reckoning with mirrors by hand: what must hold so that each leaf is as wished. -/
namespace MM
open PySem PySem.Spec PyProof.Rows L2

def Okp {α : Type} (Q : α → Sto → Prop) : Out α → Prop
  | .ok a s => Q a s
  | .ex _ _ _ => False
/-- no exception, and Q at each leaf -/
def Wp {α : Type} (t : Tr (Out α)) (Q : α → Sto → Prop) : Prop := t.All (Okp Q)
def Sop (N : Loc → Sto → Prop) (R : W → Sto → Prop) (B C : Loc → Sto → Prop) : SOut → Prop
  | .nx l s => N l s
  | .rt w s => R w s
  | .bk l s => B l s
  | .ct l s => C l s
  | .ex _ _ _ _ => False
def SWp (t : Tr SOut) (N : Loc → Sto → Prop) (R : W → Sto → Prop) (B C : Loc → Sto → Prop) : Prop := t.All (Sop N R B C)
/-- an operation's value -/
def Ret (o : Option (W × Sto)) (Q : W → Sto → Prop) : Prop := ∃ w s', o = some (w, s') ∧ Q w s'
section
variable {α β : Type} {Q : α → Sto → Prop} {N B C : Loc → Sto → Prop} {R : W → Sto → Prop} {l : Loc} {st s : Sto}
theorem Wp.mono {Q' : α → Sto → Prop} {t : Tr (Out α)} (h : Wp t Q) (k : ∀ a s, Q a s → Q' a s) : Wp t Q' := Tr.All.mono h fun o q => by
  cases o with
  | ok a s => exact k a s q
  | ex _ _ _ => exact q
@[simp] theorem wp_ok {a : α} : Wp (.lf (.ok a st)) Q ↔ Q a st := Iff.rfl
@[simp] theorem wp_ex {c : Nat} {fs : List W} : Wp (.lf (.ex c fs st) : Tr (Out α)) Q ↔ False := Iff.rfl
@[simp] theorem wp_bad : Wp (.bad : Tr (Out α)) Q ↔ False := Iff.rfl
@[simp] theorem wp_ch {n : Nat} {f : Nat → Tr (Out α)} : Wp (.ch n f) Q ↔ ∀ i, i < n → Wp (f i) Q := Iff.rfl
theorem all_congr {P P' : α → Prop} {t : Tr α} (h : ∀ a, P a ↔ P' a) : t.All P ↔ t.All P' := ⟨fun q => q.mono fun a => (h a).mp, fun q => q.mono fun a => (h a).mpr⟩
@[simp] theorem wp_then {t : Tr (Out α)} {k : α → M β} {Q : β → Sto → Prop} : Wp (then_ t k) Q ↔ Wp t fun a s => Wp (k a s) Q :=
  Tr.all_bind.trans (all_congr fun o => by cases o <;> exact Iff.rfl)
@[simp] theorem ret_some {w : W} {Q : W → Sto → Prop} : Ret (some (w, s)) Q ↔ Q w s := ⟨fun ⟨_, _, h, q⟩ => by cases h; exact q, fun q => ⟨w, s, rfl, q⟩⟩
@[simp] theorem ret_none {Q : W → Sto → Prop} : Ret none Q ↔ False := ⟨fun ⟨_, _, h, _⟩ => (nomatch h), fun h => h.elim⟩
theorem ret_of {o : Option (W × Sto)} {w : W} {Q : W → Sto → Prop} (h : o = some (w, s)) : Ret o Q ↔ Q w s := by rw [h]; exact ret_some
@[simp] theorem wp_lift {o : Option (W × Sto)} {Q : W → Sto → Prop} : Wp (lift o) Q ↔ Ret o Q := by
  cases o with
  | none => exact ⟨fun h => h.elim, fun ⟨_, _, h, _⟩ => nomatch h⟩
  | some p => exact ⟨fun h => ⟨p.1, p.2, rfl, h⟩, fun ⟨_, _, h, q⟩ => by cases h; exact q⟩
@[simp] theorem wp_liftB {o : Option Bool} {Q : Bool → Sto → Prop} : Wp (liftB o st) Q ↔ ∃ b, o = some b ∧ Q b st := by
  cases o with
  | none => exact ⟨fun h => h.elim, fun ⟨_, h, _⟩ => nomatch h⟩
  | some p => exact ⟨fun h => ⟨p, rfl, h⟩, fun ⟨_, h, q⟩ => by cases h; exact q⟩

/-! ### statements -/
@[simp] theorem sw_nx : SWp (.lf (.nx l st)) N R B C ↔ N l st := Iff.rfl
@[simp] theorem sw_rt {w : W} : SWp (.lf (.rt w st)) N R B C ↔ R w st := Iff.rfl
@[simp] theorem sw_bk : SWp (.lf (.bk l st)) N R B C ↔ B l st := Iff.rfl
@[simp] theorem sw_ct : SWp (.lf (.ct l st)) N R B C ↔ C l st := Iff.rfl
@[simp] theorem sw_bad : SWp .bad N R B C ↔ False := Iff.rfl
@[simp] theorem sw_ex {c : Nat} {fs : List W} : SWp (.lf (.ex c fs l st)) N R B C ↔ False := Iff.rfl
theorem SWp.mono {N' B' C' : Loc → Sto → Prop} {R' : W → Sto → Prop} {t : Tr SOut} (h : SWp t N R B C) (n : ∀ l s, N l s → N' l s) (r : ∀ w s, R w s → R' w s) (b : ∀ l s, B l s → B' l s) (c : ∀ l s, C l s → C' l s) : SWp t N' R' B' C' := Tr.All.mono h fun o q => by
  cases o with
  | nx l s => exact n l s q
  | rt l s => exact r l s q
  | bk l s => exact b l s q
  | ct l s => exact c l s q
  | ex _ _ _ _ => exact q
@[simp] theorem sw_thenS {t : Tr (Out α)} {k : α → Sto → Tr SOut} : SWp (thenS t l k) N R B C ↔ Wp t fun a s => SWp (k a s) N R B C :=
  Tr.all_bind.trans (all_congr fun o => by cases o <;> exact Iff.rfl)
@[simp] theorem wp_run {n : Nat} {b : SM} {ws : List W} {Q : W → Sto → Prop} : Wp (runDef n b ws st) Q ↔ SWp (b (initL n ws) st) (fun _ s => Q .non s) Q (fun _ _ => False) fun _ _ => False :=
  Tr.all_bind.trans (all_congr fun o => by cases o <;> exact Iff.rfl)
@[simp] theorem sw_seq {a b : SM} : SWp (mSeq a b l st) N R B C ↔ SWp (a l st) (fun l s => SWp (b l s) N R B C) R B C :=
  Tr.all_bind.trans (all_congr fun o => by cases o <;> exact Iff.rfl)
@[simp] theorem sw_skip : SWp (mSkip l st) N R B C ↔ N l st := Iff.rfl
@[simp] theorem sw_break : SWp (mBreak l st) N R B C ↔ B l st := Iff.rfl
@[simp] theorem sw_cont : SWp (mCont l st) N R B C ↔ C l st := Iff.rfl
@[simp] theorem sw_never : SWp (mNever l st) N R B C ↔ False := Iff.rfl
@[simp] theorem sw_retN : SWp (mRetN l st) N R B C ↔ R .non st := Iff.rfl
@[simp] theorem sw_ret {m : EM} : SWp (mRet m l st) N R B C ↔ Wp (m l st) R := sw_thenS
@[simp] theorem sw_exp {m : EM} : SWp (mExp m l st) N R B C ↔ Wp (m l st) fun _ s => N l s := sw_thenS
@[simp] theorem sw_if {c : TM} {a b : SM} : SWp (mIfS c a b l st) N R B C ↔ Wp (c l st) fun k s => if k = true then SWp (a l s) N R B C else SWp (b l s) N R B C :=
  sw_thenS.trans (all_congr fun o => by
    cases o with
    | ok k s => cases k <;> simp [Okp]
    | ex _ _ _ => exact Iff.rfl)
@[simp] theorem sw_asg {m : EM} {t : GM} : SWp (mAsg m t l st) N R B C ↔ Wp (m l st) fun w s => Wp (t w l s) N :=
  sw_thenS.trans (all_congr fun o => by
    cases o with
    | ok k s => exact sw_thenS
    | ex _ _ _ => exact Iff.rfl)
@[simp] theorem sw_par {i j : Nat} {m : AM} : SWp (mPar i j m l st) N R B C ↔ Wp (m l st) fun ws s => ∃ x y, ws = [x, y] ∧ N (setL (setL l i x) j y) s :=
  sw_thenS.trans (all_congr fun o => by
    cases o with
    | ok ws s =>
      match ws with
      | [] => exact ⟨fun h => h.elim, fun ⟨_, _, h, _⟩ => nomatch h⟩
      | [_] => exact ⟨fun h => h.elim, fun ⟨_, _, h, _⟩ => nomatch h⟩
      | [x, y] => exact ⟨fun h => ⟨x, y, rfl, h⟩, fun ⟨_, _, h, q⟩ => by cases h; exact q⟩
      | _ :: _ :: _ :: _ => exact ⟨fun h => h.elim, fun ⟨_, _, h, _⟩ => nomatch h⟩
    | ex _ _ _ => exact Iff.rfl)
@[simp] theorem sw_aug {i : Nat} {op : Op2} {m : EM} {w : W} (e : nth l i = some w) : SWp (mAug i op m l st) N R B C ↔ Wp (m l st) fun y s => Ret (op w y s) fun z s' => N (setL l i z) s' := by
  unfold mAug
  rw [e]
  simp
@[simp] theorem sw_for {m : IM} {t : GM} {b : SM} : SWp (mFor m t b l st) N R B C ↔ Wp (m l st) fun c s => SWp (forM_ c t b lotN 0 l s) N R B C := sw_thenS
theorem sw_forS {c : Src} {t : GM} {b : SM} {k i : Nat} {w : W} (e : c.next i st = some (some w)) (h : Wp (t w l st) fun l s => SWp (b l s) (fun l s => SWp (forM_ c t b k (i + 1) l s) N R B C) R N (fun l s => SWp (forM_ c t b k (i + 1) l s) N R B C)) :
    SWp (forM_ c t b (k + 1) i l st) N R B C := by
  rw [forM_s, e]
  refine sw_thenS.mpr (h.mono fun l s h => Tr.all_bind.mpr (Tr.All.mono h fun o q => ?_))
  cases o <;> exact q
theorem sw_forE {c : Src} {t : GM} {b : SM} {k i : Nat} (e : c.next i st = some none) (h : N l st) : SWp (forM_ c t b (k + 1) i l st) N R B C := by
  rw [forM_s, e]
  exact h
@[simp] theorem sw_while {c : TM} {b : SM} : SWp (mWhile c b l st) N R B C ↔ SWp (whileM c b lotN l st) N R B C := Iff.rfl
theorem sw_whileS {c : TM} {b : SM} {k : Nat} : SWp (whileM c b (k + 1) l st) N R B C ↔ Wp (c l st) fun z s => if z = true then SWp (b l s) (fun l s => SWp (whileM c b k l s) N R B C) R N (fun l s => SWp (whileM c b k l s) N R B C) else N l s := by
  rw [whileM_s]
  refine sw_thenS.trans (all_congr fun o => ?_)
  cases o with
  | ok z s =>
    cases z with
    | false => simp [Okp]
    | true =>
      simp only [Okp, cond_true, if_pos]
      exact Tr.all_bind.trans (all_congr fun o => by cases o <;> exact Iff.rfl)
  | ex _ _ _ => exact Iff.rfl

/-! ### expressions -/
section
variable {Q : W → Sto → Prop}
theorem wp_var {i : Nat} : Wp (mVar i l st) Q ↔ ∃ w, nth l i = some w ∧ Q w st := by
  unfold mVar
  cases nth l i with
  | none => exact ⟨fun h => h.elim, fun ⟨_, h, _⟩ => nomatch h⟩
  | some p => exact ⟨fun h => ⟨p, rfl, h⟩, fun ⟨_, h, q⟩ => by cases h; exact q⟩
@[simp] theorem wp_c {w : W} : Wp (mC w l st) Q ↔ Q w st := Iff.rfl
@[simp] theorem wp_gvar {i : Nat} {w : W} : Wp (gVar i w l st) N ↔ N (setL l i w) st := Iff.rfl
@[simp] theorem wp_op2 {op : Op2} {a b : EM} : Wp (mOp2 op a b l st) Q ↔ Wp (a l st) fun x s => Wp (b l s) fun y s => Ret (op x y s) fun w s' => Q w s' := by
  unfold mOp2
  simp
@[simp] theorem wp_op1 {op : Op1} {a : EM} : Wp (mOp1 op a l st) Q ↔ Wp (a l st) fun x s => Ret (op x s) fun w s' => Q w s' := by
  unfold mOp1
  simp
@[simp] theorem wp_bool {m : EM} {Q : Bool → Sto → Prop} : Wp (mBool m l st) Q ↔ Wp (m l st) fun w s => ∃ b, w = .bl b ∧ Q b s := by
  unfold mBool
  rw [wp_then]
  refine all_congr fun o => ?_
  cases o with
  | ok w s =>
    cases w with
    | bl b => exact ⟨fun h => ⟨b, rfl, h⟩, fun ⟨_, h, q⟩ => by cases h; exact q⟩
    | _ => exact ⟨fun h => h.elim, fun ⟨_, h, _⟩ => nomatch h⟩
  | ex _ _ _ => exact Iff.rfl
@[simp] theorem wp_tru {m : EM} {Q : Bool → Sto → Prop} : Wp (mTru m l st) Q ↔ Wp (m l st) fun w s => ∃ b, truW s w = some b ∧ Q b s := by
  unfold mTru
  simp
theorem bif_if {α : Type} {k : Bool} {P P' : α → Prop} : (bif k then P else P') = fun a => if k = true then P a else P' a := by cases k <;> simp
@[simp] theorem wp_and {a b : TM} {Q : Bool → Sto → Prop} : Wp (mAnd a b l st) Q ↔ Wp (a l st) fun k s => if k = true then Wp (b l s) Q else Q false s := by
  unfold mAnd
  rw [wp_then]
  refine all_congr fun o => ?_
  cases o with
  | ok k s => cases k <;> simp [Okp]
  | ex _ _ _ => exact Iff.rfl
@[simp] theorem wp_or {a b : TM} {Q : Bool → Sto → Prop} : Wp (mOr a b l st) Q ↔ Wp (a l st) fun k s => if k = true then Q true s else Wp (b l s) Q := by
  unfold mOr
  rw [wp_then]
  refine all_congr fun o => ?_
  cases o with
  | ok k s => cases k <;> simp [Okp]
  | ex _ _ _ => exact Iff.rfl
@[simp] theorem wp_notT {a : TM} {Q : Bool → Sto → Prop} : Wp (mNotT a l st) Q ↔ Wp (a l st) fun k s => Q (!k) s := wp_then
@[simp] theorem wp_if {c : TM} {a b : EM} : Wp (mIf c a b l st) Q ↔ Wp (c l st) fun k s => if k = true then Wp (a l s) Q else Wp (b l s) Q := by
  unfold mIf
  rw [wp_then]
  refine all_congr fun o => ?_
  cases o with
  | ok k s => cases k <;> simp [Okp]
  | ex _ _ _ => exact Iff.rfl
@[simp] theorem wp_andV {a b : EM} : Wp (mAndV a b l st) Q ↔ Wp (a l st) fun w s => ∃ k, truW s w = some k ∧ if k = true then Wp (b l s) Q else Q w s := by
  unfold mAndV
  rw [wp_then]
  refine all_congr fun o => ?_
  cases o with
  | ok w s =>
    show Wp _ Q ↔ (∃ k, truW s w = some k ∧ _)
    cases h : truW s w with
    | none => simp
    | some k => cases k <;> simp
  | ex _ _ _ => exact Iff.rfl
@[simp] theorem wp_orV {a b : EM} : Wp (mOrV a b l st) Q ↔ Wp (a l st) fun w s => ∃ k, truW s w = some k ∧ if k = true then Q w s else Wp (b l s) Q := by
  unfold mOrV
  rw [wp_then]
  refine all_congr fun o => ?_
  cases o with
  | ok w s =>
    show Wp _ Q ↔ (∃ k, truW s w = some k ∧ _)
    cases h : truW s w with
    | none => simp
    | some k => cases k <;> simp
  | ex _ _ _ => exact Iff.rfl
@[simp] theorem wp_not {a : EM} : Wp (mNot a l st) Q ↔ Wp (a l st) fun w s => ∃ k, truW s w = some k ∧ Q (.bl (!k)) s := by
  unfold mNot
  rw [wp_then]
  refine all_congr fun o => ?_
  cases o with
  | ok w s =>
    show Wp _ Q ↔ (∃ k, truW s w = some k ∧ _)
    cases h : truW s w with
    | none => simp
    | some k => cases k <;> simp
  | ex _ _ _ => exact Iff.rfl
@[simp] theorem wp_nil {Q : List W → Sto → Prop} : Wp (mNil l st) Q ↔ Q [] st := Iff.rfl
@[simp] theorem wp_cons {a : EM} {r : AM} {Q : List W → Sto → Prop} : Wp (mCons a r l st) Q ↔ Wp (a l st) fun x s => Wp (r l s) fun xs s => Q (x :: xs) s := by
  unfold mCons
  simp
@[simp] theorem wp_tup {a : AM} : Wp (mTup a l st) Q ↔ Wp (a l st) fun xs s => xs.length ≤ lineN ∧ Q (.tup xs) s := by
  unfold mTup
  rw [wp_then]
  refine all_congr fun o => ?_
  cases o with
  | ok xs s =>
    show Wp _ Q ↔ _
    cases h : Nat.ble xs.length lineN with
    | true => simp [Okp, leB h]
    | false => simp [Okp]; intro z; exact absurd (Nat.ble_eq.mpr z) (by rw [h]; simp)
  | ex _ _ _ => exact Iff.rfl
@[simp] theorem wp_lst {a : AM} : Wp (mLst a l st) Q ↔ Wp (a l st) fun xs s => xs.length ≤ lineN ∧ Q (.obj s.n) (s.new (.lst xs)) := by
  unfold mLst
  rw [wp_then]
  refine all_congr fun o => ?_
  cases o with
  | ok xs s =>
    show Wp _ Q ↔ _
    cases h : Nat.ble xs.length lineN with
    | true => simp [Okp, leB h]
    | false => simp [Okp]; intro z; exact absurd (Nat.ble_eq.mpr z) (by rw [h]; simp)
  | ex _ _ _ => exact Iff.rfl
@[simp] theorem wp_call {op : OpL} {a : AM} : Wp (mCall op a l st) Q ↔ Wp (a l st) fun ws s => Ret (op ws s) fun w s' => Q w s' := by
  unfold mCall
  simp
@[simp] theorem wp_fn {n : Nat} {F : List W → M W} {a : AM} : Wp (mFn n F a l st) Q ↔ Wp (a l st) fun ws s => ws.length = n ∧ Wp (F ws s) Q := by
  unfold mFn
  rw [wp_then]
  refine all_congr fun o => ?_
  cases o with
  | ok ws s =>
    show Wp _ Q ↔ _
    cases h : Nat.beq ws.length n with
    | true => simp [Okp, Nat.eq_of_beq_eq_true h]
    | false => simp [Okp]; intro z; exact absurd z (Nat.ne_of_beq_eq_false h)
  | ex _ _ _ => exact Iff.rfl
@[simp] theorem wp_gnil {Q : Loc → Sto → Prop} : Wp (gNil_ [] l st) Q ↔ Q l st := Iff.rfl
@[simp] theorem wp_gcons {a : GM} {b : GMs} {w : W} {r : List W} {Q : Loc → Sto → Prop} : Wp (gCons_ a b (w :: r) l st) Q ↔ Wp (a w l st) fun l s => Wp (b r l s) Q := wp_then
@[simp] theorem wp_gtup {n : Nat} {b : GMs} {xs : List W} {Q : Loc → Sto → Prop} : Wp (gTup_ n b (.tup xs) l st) Q ↔ xs.length = n ∧ Wp (b xs l st) Q := by
  unfold gTup_
  cases h : Nat.beq xs.length n with
  | true => simp [h, Nat.eq_of_beq_eq_true h]
  | false => simp [h]; intro z; exact absurd z (Nat.ne_of_beq_eq_false h)
@[simp] theorem wp_gsub {o i : EM} {w : W} {Q : Loc → Sto → Prop} : Wp (gSub_ o i w l st) Q ↔ Wp (o l st) fun x s => Wp (i l s) fun y s => ∃ s', opSet x y w s = some s' ∧ Q l s' := by
  unfold gSub_
  rw [wp_then]
  refine all_congr fun o => ?_
  cases o with
  | ok x s =>
    show Wp _ Q ↔ _
    rw [wp_then]
    refine all_congr fun o => ?_
    cases o with
    | ok y s =>
      show Wp _ Q ↔ (∃ s', opSet x y w s = some s' ∧ _)
      cases h : opSet x y w s with
      | none => simp
      | some s' => simp
    | ex _ _ _ => exact Iff.rfl
  | ex _ _ _ => exact Iff.rfl
@[simp] theorem wp_chain {f f' : Op2} {a b c : EM} : Wp (mChain f f' a b c l st) Q ↔ Wp (a l st) fun x s => Wp (b l s) fun y s => Ret (f x y s) fun z s' => ∃ k, z = .bl k ∧ if k = true then Wp (c l s') fun w s => Ret (f' y w s) Q else Q (.bl false) s' := by
  unfold mChain
  rw [wp_then]
  refine all_congr fun o => ?_
  cases o with
  | ok x s =>
    show Wp _ Q ↔ _
    rw [wp_then]
    refine all_congr fun o => ?_
    cases o with
    | ok y s =>
      show Wp _ Q ↔ _
      rw [wp_then, wp_lift]
      refine exists_congr fun z => exists_congr fun s' => and_congr_right fun _ => ?_
      cases z with
      | bl k => cases k <;> simp
      | _ => simp
    | ex _ _ _ => exact Iff.rfl
  | ex _ _ _ => exact Iff.rfl
end

/-! ### operations on ints -/
section
variable {i j : Int} {P : W → Sto → Prop}
@[simp] theorem opSub_i : opSub (.int i) (.int j) s = some (.int (i - j), s) := rfl
@[simp] theorem opAdd_i : opAdd (.int i) (.int j) s = some (.int (i + j), s) := rfl
@[simp] theorem opNeg_i : opNeg (.int i) s = some (.int (-i), s) := rfl
@[simp] theorem opLt_i : opLt (.int i) (.int j) s = some (.bl (decide (i < j)), s) := rfl
@[simp] theorem opLe_i : opLe (.int i) (.int j) s = some (.bl (decide (i ≤ j)), s) := rfl
@[simp] theorem opGt_i : opGt (.int i) (.int j) s = some (.bl (decide (j < i)), s) := rfl
@[simp] theorem opGe_i : opGe (.int i) (.int j) s = some (.bl (decide (j ≤ i)), s) := rfl
@[simp] theorem opMax_i : opMax [.int i, .int j] s = some (.int (maxI i j), s) := rfl
@[simp] theorem opMax_i3 {k : Int} : opMax [.int i, .int j, .int k] s = some (.int (maxI (maxI i j) k), s) := rfl
@[simp] theorem opMin_i : opMin [.int i, .int j] s = some (.int (minI i j), s) := rfl
@[simp] theorem opAbs_i : opAbs [.int i] s = some (.int (if i < 0 then -i else i), s) := rfl
@[simp] theorem opInt_i : opInt [.int i] s = some (.int i, s) := rfl
@[simp] theorem opInt_b {k : Bool} : opInt [.bl k] s = some (.int (if k then 1 else 0), s) := rfl
theorem ret_bif {c : Bool} {w : W} : Ret (bif c then some (w, s) else none) P ↔ c = true ∧ P w s := by cases c <;> simp
theorem posI_iff {j : Int} : posI j = true ↔ 0 < j := ⟨posI_t, posI_of⟩
theorem nnI_iff {j : Int} : nnI j = true ↔ 0 ≤ j := ⟨nnI_t, nnI_of⟩
theorem blt_iff {a b : Nat} : Nat.blt a b = true ↔ a < b := ⟨ltB, blt_t⟩
@[simp] theorem ret_mod : Ret (opMod (.int i) (.int j) s) P ↔ 0 < j ∧ P (.int (i % j)) s := ret_bif.trans (and_congr_left' posI_iff)
@[simp] theorem ret_fdiv : Ret (opFdiv (.int i) (.int j) s) P ↔ (0 < j ∧ Nat.log2 j.natAbs < 9000) ∧ P (.int (i / j)) s := ret_bif.trans (and_congr_left' (by rw [Bool.and_eq_true, posI_iff, blt_iff]))
@[simp] theorem ret_mul : Ret (opMul (.int i) (.int j) s) P ↔ Nat.log2 i.natAbs + Nat.log2 j.natAbs < 1000000 ∧ P (.int (i * j)) s := ret_bif.trans (and_congr_left' blt_iff)
@[simp] theorem ret_pow : Ret (opPow (.int i) (.int j) s) P ↔ (0 ≤ j ∧ (Nat.log2 i.natAbs + 1) * j.natAbs ≤ 67108864) ∧ P (.int (i ^ j.toNat)) s := ret_bif.trans (and_congr_left' (by rw [Bool.and_eq_true, nnI_iff, Nat.ble_eq]))
theorem opPow_i (h : 0 ≤ j) (h2 : (Nat.log2 i.natAbs + 1) * j.natAbs ≤ 67108864) : opPow (.int i) (.int j) s = some (.int (i ^ j.toNat), s) := by
  show (bif nnI j && Nat.ble _ 67108864 then _ else _) = _
  rw [nnI_of h, Nat.ble_eq.mpr h2]; rfl
@[simp] theorem truW_bl {b : Bool} : truW s (.bl b) = some b := rfl
@[simp] theorem truW_int : truW s (.int i) = some (i != 0) := rfl
end
@[simp] theorem nth_0 {x0 : Option W} {l : Loc} : nth (x0 :: l) 0 = x0 := rfl
@[simp] theorem nth_1 {x0 x1 : Option W} {l : Loc} : nth (x0 :: x1 :: l) 1 = x1 := rfl
@[simp] theorem nth_2 {x0 x1 x2 : Option W} {l : Loc} : nth (x0 :: x1 :: x2 :: l) 2 = x2 := rfl
@[simp] theorem nth_3 {x0 x1 x2 x3 : Option W} {l : Loc} : nth (x0 :: x1 :: x2 :: x3 :: l) 3 = x3 := rfl
@[simp] theorem nth_4 {x0 x1 x2 x3 x4 : Option W} {l : Loc} : nth (x0 :: x1 :: x2 :: x3 :: x4 :: l) 4 = x4 := rfl
@[simp] theorem nth_5 {x0 x1 x2 x3 x4 x5 : Option W} {l : Loc} : nth (x0 :: x1 :: x2 :: x3 :: x4 :: x5 :: l) 5 = x5 := rfl
@[simp] theorem nth_6 {x0 x1 x2 x3 x4 x5 x6 : Option W} {l : Loc} : nth (x0 :: x1 :: x2 :: x3 :: x4 :: x5 :: x6 :: l) 6 = x6 := rfl
@[simp] theorem nth_7 {x0 x1 x2 x3 x4 x5 x6 x7 : Option W} {l : Loc} : nth (x0 :: x1 :: x2 :: x3 :: x4 :: x5 :: x6 :: x7 :: l) 7 = x7 := rfl
@[simp] theorem nth_8 {x0 x1 x2 x3 x4 x5 x6 x7 x8 : Option W} {l : Loc} : nth (x0 :: x1 :: x2 :: x3 :: x4 :: x5 :: x6 :: x7 :: x8 :: l) 8 = x8 := rfl
@[simp] theorem nth_9 {x0 x1 x2 x3 x4 x5 x6 x7 x8 x9 : Option W} {l : Loc} : nth (x0 :: x1 :: x2 :: x3 :: x4 :: x5 :: x6 :: x7 :: x8 :: x9 :: l) 9 = x9 := rfl
@[simp] theorem nth_10 {x0 x1 x2 x3 x4 x5 x6 x7 x8 x9 x10 : Option W} {l : Loc} : nth (x0 :: x1 :: x2 :: x3 :: x4 :: x5 :: x6 :: x7 :: x8 :: x9 :: x10 :: l) 10 = x10 := rfl
@[simp] theorem nth_11 {x0 x1 x2 x3 x4 x5 x6 x7 x8 x9 x10 x11 : Option W} {l : Loc} : nth (x0 :: x1 :: x2 :: x3 :: x4 :: x5 :: x6 :: x7 :: x8 :: x9 :: x10 :: x11 :: l) 11 = x11 := rfl
@[simp] theorem nth_12 {x0 x1 x2 x3 x4 x5 x6 x7 x8 x9 x10 x11 x12 : Option W} {l : Loc} : nth (x0 :: x1 :: x2 :: x3 :: x4 :: x5 :: x6 :: x7 :: x8 :: x9 :: x10 :: x11 :: x12 :: l) 12 = x12 := rfl
@[simp] theorem nth_13 {x0 x1 x2 x3 x4 x5 x6 x7 x8 x9 x10 x11 x12 x13 : Option W} {l : Loc} : nth (x0 :: x1 :: x2 :: x3 :: x4 :: x5 :: x6 :: x7 :: x8 :: x9 :: x10 :: x11 :: x12 :: x13 :: l) 13 = x13 := rfl
@[simp] theorem nth_14 {x0 x1 x2 x3 x4 x5 x6 x7 x8 x9 x10 x11 x12 x13 x14 : Option W} {l : Loc} : nth (x0 :: x1 :: x2 :: x3 :: x4 :: x5 :: x6 :: x7 :: x8 :: x9 :: x10 :: x11 :: x12 :: x13 :: x14 :: l) 14 = x14 := rfl
@[simp] theorem nth_15 {x0 x1 x2 x3 x4 x5 x6 x7 x8 x9 x10 x11 x12 x13 x14 x15 : Option W} {l : Loc} : nth (x0 :: x1 :: x2 :: x3 :: x4 :: x5 :: x6 :: x7 :: x8 :: x9 :: x10 :: x11 :: x12 :: x13 :: x14 :: x15 :: l) 15 = x15 := rfl
@[simp] theorem nth_16 {x0 x1 x2 x3 x4 x5 x6 x7 x8 x9 x10 x11 x12 x13 x14 x15 x16 : Option W} {l : Loc} : nth (x0 :: x1 :: x2 :: x3 :: x4 :: x5 :: x6 :: x7 :: x8 :: x9 :: x10 :: x11 :: x12 :: x13 :: x14 :: x15 :: x16 :: l) 16 = x16 := rfl
@[simp] theorem nth_17 {x0 x1 x2 x3 x4 x5 x6 x7 x8 x9 x10 x11 x12 x13 x14 x15 x16 x17 : Option W} {l : Loc} : nth (x0 :: x1 :: x2 :: x3 :: x4 :: x5 :: x6 :: x7 :: x8 :: x9 :: x10 :: x11 :: x12 :: x13 :: x14 :: x15 :: x16 :: x17 :: l) 17 = x17 := rfl
@[simp] theorem nth_18 {x0 x1 x2 x3 x4 x5 x6 x7 x8 x9 x10 x11 x12 x13 x14 x15 x16 x17 x18 : Option W} {l : Loc} : nth (x0 :: x1 :: x2 :: x3 :: x4 :: x5 :: x6 :: x7 :: x8 :: x9 :: x10 :: x11 :: x12 :: x13 :: x14 :: x15 :: x16 :: x17 :: x18 :: l) 18 = x18 := rfl
@[simp] theorem nth_19 {x0 x1 x2 x3 x4 x5 x6 x7 x8 x9 x10 x11 x12 x13 x14 x15 x16 x17 x18 x19 : Option W} {l : Loc} : nth (x0 :: x1 :: x2 :: x3 :: x4 :: x5 :: x6 :: x7 :: x8 :: x9 :: x10 :: x11 :: x12 :: x13 :: x14 :: x15 :: x16 :: x17 :: x18 :: x19 :: l) 19 = x19 := rfl
@[simp] theorem setL_0 {x0 : Option W} {l : Loc} {w : W} : setL (x0 :: l) 0 w = some w :: l := rfl
@[simp] theorem setL_1 {x0 x1 : Option W} {l : Loc} {w : W} : setL (x0 :: x1 :: l) 1 w = x0 :: some w :: l := rfl
@[simp] theorem setL_2 {x0 x1 x2 : Option W} {l : Loc} {w : W} : setL (x0 :: x1 :: x2 :: l) 2 w = x0 :: x1 :: some w :: l := rfl
@[simp] theorem setL_3 {x0 x1 x2 x3 : Option W} {l : Loc} {w : W} : setL (x0 :: x1 :: x2 :: x3 :: l) 3 w = x0 :: x1 :: x2 :: some w :: l := rfl
@[simp] theorem setL_4 {x0 x1 x2 x3 x4 : Option W} {l : Loc} {w : W} : setL (x0 :: x1 :: x2 :: x3 :: x4 :: l) 4 w = x0 :: x1 :: x2 :: x3 :: some w :: l := rfl
@[simp] theorem setL_5 {x0 x1 x2 x3 x4 x5 : Option W} {l : Loc} {w : W} : setL (x0 :: x1 :: x2 :: x3 :: x4 :: x5 :: l) 5 w = x0 :: x1 :: x2 :: x3 :: x4 :: some w :: l := rfl
@[simp] theorem setL_6 {x0 x1 x2 x3 x4 x5 x6 : Option W} {l : Loc} {w : W} : setL (x0 :: x1 :: x2 :: x3 :: x4 :: x5 :: x6 :: l) 6 w = x0 :: x1 :: x2 :: x3 :: x4 :: x5 :: some w :: l := rfl
@[simp] theorem setL_7 {x0 x1 x2 x3 x4 x5 x6 x7 : Option W} {l : Loc} {w : W} : setL (x0 :: x1 :: x2 :: x3 :: x4 :: x5 :: x6 :: x7 :: l) 7 w = x0 :: x1 :: x2 :: x3 :: x4 :: x5 :: x6 :: some w :: l := rfl
@[simp] theorem setL_8 {x0 x1 x2 x3 x4 x5 x6 x7 x8 : Option W} {l : Loc} {w : W} : setL (x0 :: x1 :: x2 :: x3 :: x4 :: x5 :: x6 :: x7 :: x8 :: l) 8 w = x0 :: x1 :: x2 :: x3 :: x4 :: x5 :: x6 :: x7 :: some w :: l := rfl
@[simp] theorem setL_9 {x0 x1 x2 x3 x4 x5 x6 x7 x8 x9 : Option W} {l : Loc} {w : W} : setL (x0 :: x1 :: x2 :: x3 :: x4 :: x5 :: x6 :: x7 :: x8 :: x9 :: l) 9 w = x0 :: x1 :: x2 :: x3 :: x4 :: x5 :: x6 :: x7 :: x8 :: some w :: l := rfl
@[simp] theorem setL_10 {x0 x1 x2 x3 x4 x5 x6 x7 x8 x9 x10 : Option W} {l : Loc} {w : W} : setL (x0 :: x1 :: x2 :: x3 :: x4 :: x5 :: x6 :: x7 :: x8 :: x9 :: x10 :: l) 10 w = x0 :: x1 :: x2 :: x3 :: x4 :: x5 :: x6 :: x7 :: x8 :: x9 :: some w :: l := rfl
@[simp] theorem setL_11 {x0 x1 x2 x3 x4 x5 x6 x7 x8 x9 x10 x11 : Option W} {l : Loc} {w : W} : setL (x0 :: x1 :: x2 :: x3 :: x4 :: x5 :: x6 :: x7 :: x8 :: x9 :: x10 :: x11 :: l) 11 w = x0 :: x1 :: x2 :: x3 :: x4 :: x5 :: x6 :: x7 :: x8 :: x9 :: x10 :: some w :: l := rfl
@[simp] theorem setL_12 {x0 x1 x2 x3 x4 x5 x6 x7 x8 x9 x10 x11 x12 : Option W} {l : Loc} {w : W} : setL (x0 :: x1 :: x2 :: x3 :: x4 :: x5 :: x6 :: x7 :: x8 :: x9 :: x10 :: x11 :: x12 :: l) 12 w = x0 :: x1 :: x2 :: x3 :: x4 :: x5 :: x6 :: x7 :: x8 :: x9 :: x10 :: x11 :: some w :: l := rfl
@[simp] theorem setL_13 {x0 x1 x2 x3 x4 x5 x6 x7 x8 x9 x10 x11 x12 x13 : Option W} {l : Loc} {w : W} : setL (x0 :: x1 :: x2 :: x3 :: x4 :: x5 :: x6 :: x7 :: x8 :: x9 :: x10 :: x11 :: x12 :: x13 :: l) 13 w = x0 :: x1 :: x2 :: x3 :: x4 :: x5 :: x6 :: x7 :: x8 :: x9 :: x10 :: x11 :: x12 :: some w :: l := rfl
@[simp] theorem setL_14 {x0 x1 x2 x3 x4 x5 x6 x7 x8 x9 x10 x11 x12 x13 x14 : Option W} {l : Loc} {w : W} : setL (x0 :: x1 :: x2 :: x3 :: x4 :: x5 :: x6 :: x7 :: x8 :: x9 :: x10 :: x11 :: x12 :: x13 :: x14 :: l) 14 w = x0 :: x1 :: x2 :: x3 :: x4 :: x5 :: x6 :: x7 :: x8 :: x9 :: x10 :: x11 :: x12 :: x13 :: some w :: l := rfl
@[simp] theorem setL_15 {x0 x1 x2 x3 x4 x5 x6 x7 x8 x9 x10 x11 x12 x13 x14 x15 : Option W} {l : Loc} {w : W} : setL (x0 :: x1 :: x2 :: x3 :: x4 :: x5 :: x6 :: x7 :: x8 :: x9 :: x10 :: x11 :: x12 :: x13 :: x14 :: x15 :: l) 15 w = x0 :: x1 :: x2 :: x3 :: x4 :: x5 :: x6 :: x7 :: x8 :: x9 :: x10 :: x11 :: x12 :: x13 :: x14 :: some w :: l := rfl
@[simp] theorem setL_16 {x0 x1 x2 x3 x4 x5 x6 x7 x8 x9 x10 x11 x12 x13 x14 x15 x16 : Option W} {l : Loc} {w : W} : setL (x0 :: x1 :: x2 :: x3 :: x4 :: x5 :: x6 :: x7 :: x8 :: x9 :: x10 :: x11 :: x12 :: x13 :: x14 :: x15 :: x16 :: l) 16 w = x0 :: x1 :: x2 :: x3 :: x4 :: x5 :: x6 :: x7 :: x8 :: x9 :: x10 :: x11 :: x12 :: x13 :: x14 :: x15 :: some w :: l := rfl
@[simp] theorem setL_17 {x0 x1 x2 x3 x4 x5 x6 x7 x8 x9 x10 x11 x12 x13 x14 x15 x16 x17 : Option W} {l : Loc} {w : W} : setL (x0 :: x1 :: x2 :: x3 :: x4 :: x5 :: x6 :: x7 :: x8 :: x9 :: x10 :: x11 :: x12 :: x13 :: x14 :: x15 :: x16 :: x17 :: l) 17 w = x0 :: x1 :: x2 :: x3 :: x4 :: x5 :: x6 :: x7 :: x8 :: x9 :: x10 :: x11 :: x12 :: x13 :: x14 :: x15 :: x16 :: some w :: l := rfl
@[simp] theorem setL_18 {x0 x1 x2 x3 x4 x5 x6 x7 x8 x9 x10 x11 x12 x13 x14 x15 x16 x17 x18 : Option W} {l : Loc} {w : W} : setL (x0 :: x1 :: x2 :: x3 :: x4 :: x5 :: x6 :: x7 :: x8 :: x9 :: x10 :: x11 :: x12 :: x13 :: x14 :: x15 :: x16 :: x17 :: x18 :: l) 18 w = x0 :: x1 :: x2 :: x3 :: x4 :: x5 :: x6 :: x7 :: x8 :: x9 :: x10 :: x11 :: x12 :: x13 :: x14 :: x15 :: x16 :: x17 :: some w :: l := rfl
@[simp] theorem setL_19 {x0 x1 x2 x3 x4 x5 x6 x7 x8 x9 x10 x11 x12 x13 x14 x15 x16 x17 x18 x19 : Option W} {l : Loc} {w : W} : setL (x0 :: x1 :: x2 :: x3 :: x4 :: x5 :: x6 :: x7 :: x8 :: x9 :: x10 :: x11 :: x12 :: x13 :: x14 :: x15 :: x16 :: x17 :: x18 :: x19 :: l) 19 w = x0 :: x1 :: x2 :: x3 :: x4 :: x5 :: x6 :: x7 :: x8 :: x9 :: x10 :: x11 :: x12 :: x13 :: x14 :: x15 :: x16 :: x17 :: x18 :: some w :: l := rfl
end
/-! ### what stays -/
/-- what stood stands -/
def Old (s s' : Sto) : Prop := s.n ≤ s'.n ∧ ∀ k, k < s.n → s'.get k = s.get k
theorem Old.refl {s : Sto} : Old s s := ⟨Nat.le_refl _, fun _ _ => rfl⟩
theorem Old.trans {a b c : Sto} (h : Old a b) (k : Old b c) : Old a c := ⟨Nat.le_trans h.1 k.1, fun i hi => (k.2 i (Nat.lt_of_lt_of_le hi h.1)).trans (h.2 i hi)⟩
theorem Old.new {s : Sto} {o : Ob} : Old s (s.new o) := ⟨Nat.le_succ _, fun k hk => by rw [Sto.get_new, if_neg (by omega)]⟩
theorem Old.get {a b : Sto} {k : Nat} {o : Ob} (h : Old a b) (e : a.get k = some o) : b.get k = some o := by rw [h.2 k (Sto.lt_of e)]; exact e
theorem Old.newR {a b : Sto} {o : Ob} (h : Old a b) : Old a (b.new o) := h.trans Old.new
theorem Old.putR {a b : Sto} {k : Nat} {o : Ob} (h : Old a b) (hk : a.n ≤ k) (hb : k < b.n) : Old a (b.put k o) := ⟨h.1, fun i hi => by rw [Sto.get_put _ _ _ _ hb, if_neg (by omega)]; exact h.2 i hi⟩
/-! ### loops, comprehensions -/
theorem sw_forI {c : Src} {t : GM} {b : SM} {N B C : Loc → Sto → Prop} {R : W → Sto → Prop} (len : Nat) (Iv : Nat → Loc → Sto → Prop) (he : ∀ l s, Iv len l s → c.next len s = some none ∧ N l s)
    (hs : ∀ i l s, i < len → Iv i l s → ∃ w, c.next i s = some (some w) ∧ Wp (t w l s) fun l s => SWp (b l s) (fun l s => Iv (i + 1) l s) R N fun l s => Iv (i + 1) l s) :
    ∀ k i l s, Iv i l s → i ≤ len → len < i + k → SWp (forM_ c t b k i l s) N R B C
  | 0, i, l, s, h, h1, h2 => by omega
  | k + 1, i, l, s, h, h1, h2 => by
    by_cases e : i = len
    · subst e
      obtain ⟨h3, h4⟩ := he l s h
      exact sw_forE h3 h4
    · obtain ⟨w, h3, h4⟩ := hs i l s (by omega) h
      exact sw_forS h3 (h4.mono fun l s q => q.mono (fun l s q => sw_forI len Iv he hs k (i + 1) l s q (by omega) (by omega)) (fun _ _ q => q) (fun _ _ q => q) (fun l s q => sw_forI len Iv he hs k (i + 1) l s q (by omega) (by omega)))
@[simp] theorem wp_comp {vs : List Nat} {m : IM} {t : GM} {tt : TM} {e : EM} {l : Loc} {st : Sto} {Q : W → Sto → Prop} : Wp (mComp vs m t tt e l st) Q ↔ Wp (m l st) fun c s => Wp (lcM c (wipeL l vs) t tt e s.n lotN 0 (s.new (.lst []))) Q := wp_then
theorem wp_lcI {c : Src} {l0 : Loc} {t : GM} {tt : TM} {e : EM} {d : Nat} {Q : W → Sto → Prop} (len : Nat) (Iv : Nat → Sto → Prop) (he : ∀ s, Iv len s → c.next len s = some none ∧ Q (.obj d) s)
    (hs : ∀ i s, i < len → Iv i s → ∃ w, c.next i s = some (some w) ∧ Wp (t w l0 s) fun l1 s => Wp (tt l1 s) fun b s => if b = true then Wp (e l1 s) fun y s => ∃ s', apd d y s = some s' ∧ Iv (i + 1) s' else Iv (i + 1) s) :
    ∀ k i s, Iv i s → i ≤ len → len < i + k → Wp (lcM c l0 t tt e d k i s) Q
  | 0, i, s, h, h1, h2 => by omega
  | k + 1, i, s, h, h1, h2 => by
    rw [lcM_s]
    by_cases ei : i = len
    · subst ei
      obtain ⟨h3, h4⟩ := he s h
      rw [h3]
      exact h4
    · obtain ⟨w, h3, h4⟩ := hs i s (by omega) h
      rw [h3]
      refine wp_then.mpr (h4.mono fun l1 s h4 => wp_then.mpr (h4.mono fun b s h4 => ?_))
      cases b with
      | false =>
        rw [if_neg Bool.false_ne_true] at h4
        exact wp_lcI len Iv he hs k (i + 1) s h4 (by omega) (by omega)
      | true =>
        rw [if_pos rfl] at h4
        refine wp_then.mpr (h4.mono fun y s h4 => ?_)
        obtain ⟨s', e1, h5⟩ := h4
        rw [e1]
        exact wp_lcI len Iv he hs k (i + 1) s' h5 (by omega) (by omega)
@[simp] theorem wp_yes {l : Loc} {s : Sto} {Q : Bool → Sto → Prop} : Wp (mYes l s) Q ↔ Q true s := Iff.rfl
@[simp] theorem wp_seqI {m : EM} {l : Loc} {st : Sto} {Q : Src → Sto → Prop} : Wp (mSeqI m l st) Q ↔ Wp (m l st) fun w s => (∃ xs, w = .tup xs ∧ Q (.sq (.tup xs)) s) ∨ ∃ n xs, w = .obj n ∧ s.get n = some (.lst xs) ∧ Q (.sq (.lst n)) s := by
  unfold mSeqI
  rw [wp_then]
  refine all_congr fun o => ?_
  cases o with
  | ex _ _ _ => exact Iff.rfl
  | ok w s =>
    cases w with
    | tup xs => exact ⟨fun h => .inl ⟨xs, rfl, h⟩, fun h => by
        rcases h with ⟨_, h, q⟩ | ⟨_, _, h, _⟩
        · cases h; exact q
        · cases h⟩
    | obj n =>
      cases e : s.get n with
      | none =>
        simp only [Okp, e]
        exact ⟨fun h => h.elim, fun h => by
          rcases h with ⟨_, h, _⟩ | ⟨_, _, h, h2, _⟩
          · cases h
          · cases h; rw [e] at h2; cases h2⟩
      | some ob =>
        cases ob with
        | lst xs =>
          simp only [Okp, e]
          exact ⟨fun h => .inr ⟨n, xs, rfl, e, h⟩, fun h => by
            rcases h with ⟨_, h, _⟩ | ⟨_, _, h, h2, q⟩
            · cases h
            · cases h; exact q⟩
        | _ =>
          simp only [Okp, e]
          exact ⟨fun h => h.elim, fun h => by
            rcases h with ⟨_, h, _⟩ | ⟨_, _, h, h2, _⟩
            · cases h
            · cases h; rw [e] at h2; cases h2⟩
    | _ => exact ⟨fun h => h.elim, fun h => by
        rcases h with ⟨_, h, _⟩ | ⟨_, _, h, _⟩ <;> cases h⟩
@[simp] theorem wp_rng1 {m : AM} {l : Loc} {st : Sto} {Q : Src → Sto → Prop} : Wp (mRng1 m l st) Q ↔ Wp (m l st) fun ws s => ∃ j, ws = [.int j] ∧ j.natAbs < 2 ^ 62 ∧ Q (.rng 0 j.toNat) s := by
  unfold mRng1
  rw [wp_then]
  refine all_congr fun o => ?_
  cases o with
  | ex _ _ _ => exact Iff.rfl
  | ok ws s =>
    show Wp _ Q ↔ (∃ j, _ ∧ _ ∧ _)
    split
    · rename_i j
      cases hc : smallI j with
      | true =>
        exact ⟨fun h => ⟨j, rfl, ltB hc, h⟩, fun ⟨_, h, _, q⟩ => by cases h; exact q⟩
      | false =>
        exact ⟨fun h => h.elim, fun ⟨_, h, h2, q⟩ => by
          cases h
          unfold smallI at hc
          rw [blt_t h2] at hc
          cases hc⟩
    · rename_i hx
      exact ⟨fun h => h.elim, fun ⟨j, h, _⟩ => absurd h (hx j)⟩
theorem rng_next {lo : Int} {n i : Nat} {s : Sto} (h : i < n) : (Src.rng lo n).next i s = some (some (.int (lo + i))) := by
  show some (bif Nat.blt i n then some (W.int (lo + i)) else none) = _
  rw [blt_t h]; rfl
theorem rng_end {lo : Int} {n : Nat} {s : Sto} : (Src.rng lo n).next n s = some none := by
  show some (bif Nat.blt n n then some (W.int (lo + n)) else none) = _
  rw [blt_f (Nat.lt_irrefl n)]; rfl
theorem tup_next {xs : List W} {i : Nat} {s : Sto} {w : W} (h : xs[i]? = some w) : (Src.sq (.tup xs)).next i s = some (some w) := by
  show some (getN xs i) = _
  rw [getN_eq, h]
theorem tup_end {xs : List W} {s : Sto} : (Src.sq (.tup xs)).next xs.length s = some none := by
  show some (getN xs _) = _
  rw [getN_eq, List.getElem?_eq_none (Nat.le_refl _)]
theorem lst_next {xs : List W} {n i : Nat} {s : Sto} {w : W} (e : s.get n = some (.lst xs)) (h : xs[i]? = some w) : (Src.sq (.lst n)).next i s = some (some w) := by
  show lstAt (s.get n) i = _
  rw [e]
  show some (getN xs i) = _
  rw [getN_eq, h]
theorem lst_end {xs : List W} {n : Nat} {s : Sto} (e : s.get n = some (.lst xs)) : (Src.sq (.lst n)).next xs.length s = some none := by
  show lstAt (s.get n) _ = _
  rw [e]
  show some (getN xs _) = _
  rw [getN_eq, List.getElem?_eq_none (Nat.le_refl _)]
theorem apd_lst {d : Nat} {y : W} {s : Sto} {acc : List W} (e : s.get d = some (.lst acc)) (h : acc.length < lineN) : apd d y s = some (s.put d (.lst (acc ++ [y]))) := by
  unfold apd
  rw [e]
  show (bif Nat.blt acc.length lineN then _ else _) = _
  rw [blt_t h]; rfl

/-! ### slices, displays of dicts, methods -/
section
variable {l : Loc} {st : Sto} {Q : W → Sto → Prop}
@[simp] theorem wp_noPart {Q : Option Int → Sto → Prop} : Wp (mNoPart l st) Q ↔ Q none st := Iff.rfl
@[simp] theorem wp_part {m : EM} {Q : Option Int → Sto → Prop} : Wp (mPart m l st) Q ↔ Wp (m l st) fun w s => ∃ i, w = .int i ∧ Q (some i) s := by
  unfold mPart
  rw [wp_then]
  refine all_congr fun o => ?_
  cases o with
  | ex _ _ _ => exact Iff.rfl
  | ok w s =>
    cases w with
    | int i => exact ⟨fun h => ⟨i, rfl, h⟩, fun ⟨_, h, q⟩ => by cases h; exact q⟩
    | _ => exact ⟨fun h => h.elim, fun ⟨_, h, _⟩ => nomatch h⟩
@[simp] theorem wp_sl {m : EM} {lo hi : OM} : Wp (mSl m lo hi l st) Q ↔ Wp (m l st) fun x s => Wp (lo l s) fun a s => Wp (hi l s) fun b s => Ret (opSl a b x s) Q := by
  unfold mSl
  simp
@[simp] theorem wp_pnil {Q : List (W × W) → Sto → Prop} : Wp (mPNil l st) Q ↔ Q [] st := Iff.rfl
@[simp] theorem wp_pcons {k v : EM} {r : DM} {Q : List (W × W) → Sto → Prop} : Wp (mPCons k v r l st) Q ↔ Wp (k l st) fun x s => Wp (v l s) fun y s => Wp (r l s) fun ps s => Q ((x, y) :: ps) s := by
  unfold mPCons
  simp
theorem wp_dct {m : DM} (h : Wp (m l (st.new (.dct []))) fun kvs s => ∃ ks, s.get st.n = some (.dct []) ∧ keysOf kvs = some ks ∧ ks.Nodup ∧ ks.length ≤ 15 ∧ Q (.obj st.n) (s.put st.n (.dct kvs))) : Wp (mDct m l st) Q := by
  unfold mDct
  refine wp_then.mpr (h.mono fun kvs s h => ?_)
  obtain ⟨ks, h1, h2, h3, h4, h5⟩ := h
  simp only [h1, h2]
  rw [decide_eq_true h3, Nat.ble_eq.mpr h4]
  exact h5
theorem wp_meth {op : OpM} {o : EM} {a : AM} (h : Wp (o l st) fun x s => isLst s x = true ∧ Wp (a l s) fun ws s => Ret (op x ws s) Q) : Wp (mMeth op o a l st) Q := by
  unfold mMeth
  refine wp_then.mpr (h.mono fun x s h => ?_)
  rw [h.1]
  exact wp_then.mpr (h.2.mono fun ws s h => wp_lift.mpr h)
theorem isLst_of {s : Sto} {n : Nat} {xs : List W} (e : s.get n = some (.lst xs)) : isLst s (.obj n) = true := by
  unfold isLst
  simp only [e]
end
end MM
end

section
set_option Elab.async false
set_option linter.all false
set_option autoImplicit false
set_option maxRecDepth 100000
set_option maxHeartbeats 4000000
/-! MMM: the dice of all laws: any numbers. -/
namespace MM
open PySem PySem.Spec PyProof.Rows L2
noncomputable def bDice : SM := (mSeq (mAsg (mIf (mBool (mOp2 opLt (mVar 1) (mCall opLen (mCons (mVar 0) mNil)))) (mCall opInt (mCons (mOp2 opIx (mVar 0) (mVar 1)) mNil)) (mOp2 opAdd (mOp2 opMul (mC (.int 521)) (mVar 1)) (mC (.int 89)))) (gVar 2))
    (mSeq (mAsg (mOp2 opMod (mCall opInt (mCons (mCall opAbs (mCons (mVar 2) mNil)) mNil)) (mOp2 opPow (mOp2 opPow (mC (.int 10)) (mC (.int 56))) (mC (.int 6)))) (gVar 3))
    (mSeq (mAsg (mOp2 opAdd (mOp2 opAdd (mOp2 opAdd (mOp2 opMul (mOp2 opMod (mCall opInt (mCons (mVar 3) mNil)) (mC (.int 2305843009213693669))) (mC (.int 83))) (mOp2 opMul (mC (.int 1013)) (mVar 1))) (mOp2 opMul (mC (.int 59)) (mCall opInt (mCons (mOp2 opLt (mVar 2) (mC (.int 0))) mNil)))) (mC (.int 41))) (gVar 4))
    (mRet (mLst (mCons (mCall opMax (mCons (mC (.int 0)) (mCons (mOp2 opSub (mVar 3) (mOp2 opPow (mC (.int 10)) (mC (.int 16)))) mNil))) (mCons (mVar 4) (mCons (mC (.int 0)) mNil))))))))
noncomputable def bRoll : SM := (mSeq (mIfS (mBool (mOp2 opGt (mOp2 opIx (mVar 0) (mC (.int 0))) (mC (.int 0)))) (mSeq (mAsg (mOp2 opMod (mCall opInt (mCons (mOp2 opIx (mVar 0) (mC (.int 0))) mNil)) (mVar 1)) (gVar 2))
    (mSeq (mAsg (mOp2 opFdiv (mOp2 opIx (mVar 0) (mC (.int 0))) (mVar 1)) (gSub_ (mVar 0) (mC (.int 0))))
    (mRet (mVar 2)))) mSkip)
    (mSeq (mAsg (mOp2 opAdd (mOp2 opIx (mVar 0) (mC (.int 2))) (mC (.int 1))) (gSub_ (mVar 0) (mC (.int 2))))
    (mSeq (mAsg (mOp2 opMod (mCall opInt (mCons (mOp2 opAdd (mOp2 opIx (mVar 0) (mC (.int 1))) (mOp2 opMul (mC (.int 67867979)) (mOp2 opIx (mVar 0) (mC (.int 2))))) mNil)) (mC (.int 2305843009213693613))) (gVar 3))
    (mSeq (mAsg (mOp2 opAdd (mOp2 opMul (mOp2 opMod (mCall opInt (mCons (mOp2 opAdd (mOp2 opMul (mVar 3) (mVar 3)) (mOp2 opMul (mC (.int 131)) (mOp2 opIx (mVar 0) (mC (.int 2))))) mNil)) (mC (.int 2305843009213693583))) (mC (.int 49979687))) (mVar 3)) (gVar 4))
    (mRet (mOp2 opMod (mCall opInt (mCons (mOp2 opFdiv (mVar 4) (mC (.int 65579))) mNil)) (mVar 1)))))))

theorem log2_lt_of {n k : Nat} (h : n < 2 ^ k) (hk : 0 < k) : Nat.log2 n < k := by
  by_cases h0 : n = 0
  · subst h0; have : Nat.log2 0 = 0 := by decide
    omega
  · exact (Nat.log2_lt h0).mpr h
theorem log2_int {i : Int} {k : Nat} (h : i.natAbs < 2 ^ k) (hk : 0 < k) : Nat.log2 i.natAbs < k := log2_lt_of h hk
theorem len_scr {ns : List Int} {s : Sto} : opLen [.scr ns] s = some (.int ns.length, s) := rfl
theorem ix_scr {ns : List Int} {k : Int} {c : Int} {s : Sto} (h : L2.atI ns k = some c) : opIx (.scr ns) (.int k) s = some (.int c, s) := by
  show (match L2.atI ns k with
      | some k => some (W.int k, s)
      | none => none) = _
  rw [h]
theorem atI_some {α : Type} {xs : List α} {k : Int} (h0 : 0 ≤ k) (h : k < xs.length) : ∃ c, L2.atI xs k = some c := by
  unfold L2.atI
  have e : ixN xs.length k = some k.toNat := by
    unfold ixN
    rw [if_pos h0, if_pos h]
  rw [e]
  exact ⟨xs[k.toNat]'(by omega), by simp⟩
theorem dice_wp {ns : List Int} {k : Int} {st : Sto} (h0 : 0 ≤ k) (h1 : k.toNat < rollsN) : Wp (runDef 5 bDice [.scr ns, .int k] st) fun w s => ∃ d0 d1 : Int, 0 ≤ d0 ∧ d0.natAbs < 2 ^ 1200 ∧ w = .obj st.n ∧ s = st.new (.lst [.int d0, .int d1, .int 0]) := by
  have hk : k.natAbs < 2 ^ 64 := by
    have : rollsN = 2 ^ 64 := by decide
    omega
  have l1 := log2_int hk (by omega)
  have hrest : ∀ c : Int, SWp ((mSeq (mAsg (mOp2 opMod (mCall opInt (mCons (mCall opAbs (mCons (mVar 2) mNil)) mNil)) (mOp2 opPow (mOp2 opPow (mC (.int 10)) (mC (.int 56))) (mC (.int 6)))) (gVar 3))
    (mSeq (mAsg (mOp2 opAdd (mOp2 opAdd (mOp2 opAdd (mOp2 opMul (mOp2 opMod (mCall opInt (mCons (mVar 3) mNil)) (mC (.int 2305843009213693669))) (mC (.int 83))) (mOp2 opMul (mC (.int 1013)) (mVar 1))) (mOp2 opMul (mC (.int 59)) (mCall opInt (mCons (mOp2 opLt (mVar 2) (mC (.int 0))) mNil)))) (mC (.int 41))) (gVar 4))
    (mRet (mLst (mCons (mCall opMax (mCons (mC (.int 0)) (mCons (mOp2 opSub (mVar 3) (mOp2 opPow (mC (.int 10)) (mC (.int 16)))) mNil))) (mCons (mVar 4) (mCons (mC (.int 0)) mNil)))))))
      [some (.scr ns), some (.int k), some (.int c), none, none] st) (fun _ _ => False) (fun w s => ∃ d0 d1 : Int, 0 ≤ d0 ∧ d0.natAbs < 2 ^ 1200 ∧ w = .obj st.n ∧ s = st.new (.lst [.int d0, .int d1, .int 0])) (fun _ _ => False) fun _ _ => False := by
    intro c
    have p1 : opPow (.int 10) (.int 56) st = some (.int (10 ^ 56), st) := opPow_i (by decide) (by decide +kernel)
    have p2 : opPow (.int (10 ^ 56)) (.int 6) st = some (.int ((10 ^ 56) ^ 6), st) := opPow_i (by decide) (by decide +kernel)
    have p3 : opPow (.int 10) (.int 16) st = some (.int (10 ^ 16), st) := opPow_i (by decide) (by decide +kernel)
    have g0 : (0 : Int) < (10 ^ 56) ^ 6 := by decide +kernel
    have hm : ∀ x : Int, 0 ≤ x % ((10 : Int) ^ 56) ^ 6 ∧ x % ((10 : Int) ^ 56) ^ 6 < (10 ^ 56) ^ 6 := fun x => ⟨Int.emod_nonneg _ (by omega), Int.emod_lt_of_pos _ g0⟩
    have hp : ∀ x : Int, Nat.log2 (x % 2305843009213693669).natAbs < 64 := fun x => log2_int (by omega) (by omega)
    have l83 : Nat.log2 (83 : Int).natAbs < 7 := by decide +kernel
    have l1013 : Nat.log2 (1013 : Int).natAbs < 10 := by decide +kernel
    have l59 : Nat.log2 (59 : Int).natAbs < 6 := by decide +kernel
    have lb : ∀ b : Bool, Nat.log2 (if b = true then (1 : Int) else 0).natAbs < 1 := by decide +kernel
    simp only [sw_seq, sw_asg, wp_op2, wp_call, wp_cons, wp_nil, wp_var, wp_c, wp_gvar, sw_ret, wp_lst, nth_0, nth_1, nth_2, nth_3, nth_4, setL_2, setL_3, setL_4, Option.some.injEq, exists_eq_left', opAbs_i, opInt_i, ret_some, ret_of p1, ret_of p2, ret_of p3,
      ret_mod, opLt_i, opInt_b, opSub_i, opMax_i, opAdd_i, ret_mul]
    generalize hgr : (if c < 0 then -c else c) % ((10 : Int) ^ 56) ^ 6 = gr
    have hg := hm (if c < 0 then -c else c)
    rw [hgr] at hg
    have hlt : ((10 : Int) ^ 56) ^ 6 < 2 ^ 1200 := by decide +kernel
    have hmx : 0 ≤ maxI 0 (gr - 10 ^ 16) ∧ maxI 0 (gr - 10 ^ 16) < 2 ^ 1200 := by
      unfold maxI
      split <;> omega
    refine ⟨g0, by decide, by have := hp gr; omega, by omega, by have := lb (decide (c < 0)); omega, by show 3 ≤ lineN; decide, _, _, hmx.1, by omega, trivial, rfl⟩
  unfold bDice
  refine wp_run.mpr (sw_seq.mpr (sw_asg.mpr ?_))
  simp only [wp_if, wp_bool, wp_op2, wp_call, wp_cons, wp_nil, wp_var, wp_c, wp_gvar, show initL 5 [W.scr ns, W.int k] = [some (.scr ns), some (.int k), none, none, none] from rfl, nth_0, nth_1, Option.some.injEq, exists_eq_left',
    len_scr, ret_some, opLt_i, W.bl.injEq, decide_eq_true_eq]
  split
  · rename_i hl
    obtain ⟨c, hc⟩ := atI_some (xs := ns) h0 hl
    simp only [ret_of (ix_scr hc), opInt_i, ret_some, setL_2]
    exact (hrest c).mono (fun _ _ h => h.elim) (fun _ _ h => h) (fun _ _ h => h) fun _ _ h => h
  · simp only [ret_mul, opAdd_i, ret_some, setL_2]
    exact ⟨by have : Nat.log2 (521 : Int).natAbs < 10 := by decide +kernel
              omega, (hrest _).mono (fun _ _ h => h.elim) (fun _ _ h => h) (fun _ _ h => h) fun _ _ h => h⟩
theorem ix_lst {n : Nat} {xs : List W} {i : Int} {w : W} {s : Sto} (e : s.get n = some (.lst xs)) (h : L2.atI xs i = some w) : opIx (.obj n) (.int i) s = some (w, s) := by
  show (match s.get n with
      | some (.lst xs) => match L2.atI xs i with
        | some w => some (w, s)
        | none => none
      | _ => none) = _
  rw [e]
  show (match L2.atI xs i with
        | some w => some (w, s)
        | none => none) = _
  rw [h]
theorem set_lst {n j : Nat} {xs : List W} {i : Int} {v : W} {s : Sto} (e : s.get n = some (.lst xs)) (h : ixN xs.length i = some j) : opSet (.obj n) (.int i) v s = some (s.put n (.lst (xs.set j v))) := by
  show (match s.get n with
      | some (.lst xs) => match ixN xs.length i with
        | some j => some (s.put n (.lst (xs.set j v)))
        | none => none
      | _ => none) = _
  rw [e]
  show (match ixN xs.length i with
        | some j => some (s.put n (.lst (xs.set j v)))
        | none => none) = _
  rw [h]
theorem put_get {s : Sto} {n : Nat} {o u : Ob} (e : s.get n = some u) : (s.put n o).get n = some o := by rw [Sto.get_put _ _ _ _ (Sto.lt_of e), if_pos rfl]
theorem put_off {s : Sto} {n k : Nat} {o u : Ob} (e : s.get n = some u) (h : k ≠ n) : (s.put n o).get k = s.get k := by rw [Sto.get_put _ _ _ _ (Sto.lt_of e), if_neg h]
theorem roll_wp {n c : Nat} {t d0 d1 d2 : Int} {s : Sto} (e : s.get n = some (.lst [.int d0, .int d1, .int d2])) (h0 : 0 ≤ d0) (h1 : d0.natAbs < 2 ^ 1200) (h2 : 0 ≤ d2) (h3 : d2 ≤ c) (hc : c < rollsN) (ht : 0 < t) (hl : Nat.log2 t.natAbs < 4000) :
    Wp (runDef 5 bRoll [.obj n, .int t] s) fun w s' => ∃ v d0' d2' : Int, (0 ≤ v ∧ v < t) ∧ w = .int v ∧ s'.n = s.n ∧ s'.get n = some (.lst [.int d0', .int d1, .int d2']) ∧ (∀ k, k ≠ n → s'.get k = s.get k) ∧ 0 ≤ d0' ∧ d0'.natAbs < 2 ^ 1200 ∧ 0 ≤ d2' ∧ d2' ≤ ((c + 1 : Nat) : Int) := by
  have hr : rollsN = 2 ^ 64 := by decide
  have hv : ∀ x : Int, 0 ≤ x % t ∧ x % t < t := fun x => ⟨Int.emod_nonneg _ (by omega), Int.emod_lt_of_pos _ ht⟩
  have i0 : opIx (.obj n) (.int 0) s = some (.int d0, s) := ix_lst e rfl
  have i2 : opIx (.obj n) (.int 2) s = some (.int d2, s) := ix_lst e rfl
  unfold bRoll
  refine wp_run.mpr (sw_seq.mpr (sw_if.mpr ?_))
  simp only [wp_bool, wp_op2, wp_var, wp_c, show initL 5 [W.obj n, W.int t] = [some (.obj n), some (.int t), none, none, none] from rfl, nth_0, nth_1, Option.some.injEq, exists_eq_left', ret_some, ret_of i0, opGt_i, W.bl.injEq, decide_eq_true_eq, sw_skip]
  split
  · simp only [sw_seq, sw_asg, wp_op2, wp_call, wp_cons, wp_nil, wp_var, wp_c, wp_gvar, sw_ret, wp_gsub, nth_0, nth_1, nth_2, setL_2, Option.some.injEq, exists_eq_left', ret_some, ret_of i0, opInt_i, ret_mod, ret_fdiv, set_lst e (show ixN _ 0 = some 0 from rfl)]
    refine ⟨ht, ⟨ht, by omega⟩, d0 % t, d0 / t, d2, hv d0, rfl, rfl, put_get e, fun k hk => put_off e hk, Int.ediv_nonneg h0 (by omega), ?_, h2, by omega⟩
    have : d0 / t ≤ d0 := Int.ediv_le_self _ h0
    have : 0 ≤ d0 / t := Int.ediv_nonneg h0 (by omega)
    omega
  · have e2 : (s.put n (.lst [.int d0, .int d1, .int (d2 + 1)])).get n = some (.lst [.int d0, .int d1, .int (d2 + 1)]) := put_get e
    have j1 : opIx (.obj n) (.int 1) (s.put n (.lst [.int d0, .int d1, .int (d2 + 1)])) = some (.int d1, _) := ix_lst e2 rfl
    have j2 : opIx (.obj n) (.int 2) (s.put n (.lst [.int d0, .int d1, .int (d2 + 1)])) = some (.int (d2 + 1), _) := ix_lst e2 rfl
    have l2 : Nat.log2 (d2 + 1).natAbs < 65 := log2_int (by omega) (by omega)
    have l3 : Nat.log2 (67867979 : Int).natAbs < 30 := by decide +kernel
    have l4 : Nat.log2 (131 : Int).natAbs < 10 := by decide +kernel
    have l5 : Nat.log2 (49979687 : Int).natAbs < 30 := by decide +kernel
    have l6 : Nat.log2 (65579 : Int).natAbs < 30 := by decide +kernel
    have hp : ∀ x : Int, Nat.log2 (x % 2305843009213693613).natAbs < 64 := fun x => log2_int (by omega) (by omega)
    have hq : ∀ x : Int, Nat.log2 (x % 2305843009213693583).natAbs < 64 := fun x => log2_int (by omega) (by omega)
    simp only [sw_seq, sw_asg, wp_op2, wp_call, wp_cons, wp_nil, wp_var, wp_c, wp_gvar, sw_ret, wp_gsub, nth_0, nth_1, nth_2, nth_3, nth_4, setL_2, setL_3, setL_4, Option.some.injEq, exists_eq_left', ret_some, ret_of i2, opInt_i, ret_mod, ret_fdiv, opAdd_i,
      set_lst e (show ixN _ 2 = some 2 from rfl), List.set, ret_of j1, ret_of j2, ret_mul]
    refine ⟨by omega, by decide, ?_, by omega, by decide, ?_, ⟨by decide, by omega⟩, ht, _, d0, d2 + 1, hv _, rfl, rfl, e2, fun k hk => put_off e hk, h0, h1, by omega, by omega⟩
    · have := hp (d1 + 67867979 * (d2 + 1)); omega
    · have := fun x => hq x
      rename_i x1
      have := hq ((d1 + 67867979 * (d2 + 1)) % 2305843009213693613 * ((d1 + 67867979 * (d2 + 1)) % 2305843009213693613) + 131 * (d2 + 1))
      omega

/-- what the plain laws know of dice: so many rolls are left -/
theorem coarse_dice {T : Tb} : ∀ vs H Q E, spOf T 2 diceM vs H Q E → spOf T 2 (runDef 5 bDice) vs H Q E := by
  rintro vs H Q E ⟨hv, g, ws, st, hs, hw, h⟩
  refine ⟨hv, g, ws, st, hs, hw, ?_⟩
  match ws, h with
  | [.scr ns, .int k], h =>
    unfold diceM at h
    dsimp only at h
    cases hc : (nnI k && Nat.blt k.toNat rollsN) with
    | false => rw [hc] at h; exact h.elim
    | true =>
      rw [hc] at h
      obtain ⟨c1, c2⟩ := Bool.and_eq_true_iff.mp hc
      refine Tr.All.mono (dice_wp (st := st) (nnI_t c1) (ltB c2)) fun o q => ?_
      cases o with
      | ex _ _ _ => exact q.elim
      | ok w s =>
        obtain ⟨d0, d1, q0, q1, rfl, rfl⟩ := q
        intro g' H' v e' s' r
        refine h g' H' v e' ?_ r
        refine s'.close (n := st.n) (d0 := d0) (d1 := d1) (d2 := 0) (c := 0) rfl ?_ ?_ q0 q1 (by omega) (by omega) fun k hk => ?_
        · rw [Sto.get_new, if_pos rfl]
        · rw [Sto.get_new, if_pos rfl]
        · rw [Sto.get_new, Sto.get_new, if_neg hk, if_neg hk]
theorem coarse_roll {T : Tb} : ∀ vs H Q E, spOf T 2 rollM vs H Q E → spOf T 2 (runDef 5 bRoll) vs H Q E := by
  rintro vs H Q E ⟨hv, g, ws, st, hs, hw, h⟩
  unfold rollM at h
  split at h
  · rename_i n t
    split at h
    · rename_i c e
      cases hc : (posI t && Nat.blt (Nat.log2 t.natAbs) 4000 && Nat.blt c rollsN) with
      | false => rw [hc] at h; exact h.elim
      | true =>
        rw [hc] at h
        simp only [Bool.and_eq_true] at hc
        obtain ⟨⟨c1, c2⟩, c3⟩ := hc
        have c1 := posI_t c1
        obtain ⟨d0, d1, d2, q0, q1, q2, q3, sr⟩ := hs.opened e
        have c2 := ltB c2
        have c3 := ltB c3
        have R := roll_wp (n := n) (c := c) (t := t) (d0 := d0) (d1 := d1) (d2 := d2) (s := st.put n (.lst [.int d0, .int d1, .int d2])) (put_get e) q0 q1 q2 q3 c3 c1 c2
        refine ⟨hv, g, [.obj n, .int t], st.put n (.lst [.int d0, .int d1, .int d2]), sr, hw, ?_⟩
        refine Tr.All.mono R fun o q => ?_
        cases o with
        | ex _ _ _ => exact q.elim
        | ok w s =>
          obtain ⟨v, d0', d2', ⟨v0, v1⟩, rfl, hn, he, ho, p0, p1, p2, p3⟩ := q
          intro g' H' u e' s' r
          have hi := h v.toNat (by omega)
          have hvn : ((v.toNat : Nat) : Int) = v := by omega
          dsimp only at hi
          rw [hvn] at hi
          refine hi g' H' u e' ?_ r
          refine s'.close (n := n) (d0 := d0') (d1 := d1) (d2 := d2') (c := c + 1) hn.symm he (put_get e) p0 p1 p2 p3 fun k hk => ?_
          rw [put_off e hk, ho k hk, put_off e hk]
    · exact h.elim
  · exact h.elim

/-! ### rolls in plain laws -/
/-- B rolls of the dice at n are left -/
def Dz (s : Sto) (n B : Nat) : Prop := ∃ c, s.get n = some (.dice c) ∧ c + B ≤ rollsN
theorem Dz.mono {s : Sto} {n B B' : Nat} (h : Dz s n B) (hb : B' ≤ B) : Dz s n B' := let ⟨c, h1, h2⟩ := h; ⟨c, h1, by omega⟩
theorem Dz.old {s s' : Sto} {n B : Nat} (h : Dz s n B) (o : Old s s') : Dz s' n B := let ⟨c, h1, h2⟩ := h; ⟨c, o.get h1, h2⟩
/-- what stood stands, but for the dice at n -/
def OldX (n : Nat) (s s' : Sto) : Prop := s.n ≤ s'.n ∧ ∀ k, k < s.n → k ≠ n → s'.get k = s.get k
theorem OldX.refl {n : Nat} {s : Sto} : OldX n s s := ⟨Nat.le_refl _, fun _ _ _ => rfl⟩
theorem OldX.trans {n : Nat} {a b c : Sto} (h : OldX n a b) (k : OldX n b c) : OldX n a c := ⟨Nat.le_trans h.1 k.1, fun i hi hn => (k.2 i (Nat.lt_of_lt_of_le hi h.1) hn).trans (h.2 i hi hn)⟩
theorem Old.x {n : Nat} {s s' : Sto} (h : Old s s') : OldX n s s' := ⟨h.1, fun k hk _ => h.2 k hk⟩
theorem OldX.get {n : Nat} {a b : Sto} {k : Nat} {o : Ob} (h : OldX n a b) (hk : k ≠ n) (e : a.get k = some o) : b.get k = some o := by rw [h.2 k (Sto.lt_of e) hk]; exact e
theorem wp_roll {n B : Nat} {t : Int} {st : Sto} {Q : W → Sto → Prop} (hd : Dz st n (B + 1)) (ht : 0 < t) (hl : Nat.log2 t.natAbs < 4000) (h : ∀ (i : Nat) s, (i : Int) < t → Dz s n B → OldX n st s → Q (.int i) s) : Wp (rollM [.obj n, .int t] st) Q := by
  obtain ⟨c, h1, h2⟩ := hd
  have e : rollM [.obj n, .int t] st = .ch t.toNat fun i => .lf (.ok (.int i) (st.put n (.dice (c + 1)))) := by
    show (match st.get n with
      | some (.dice c) => bif posI t && Nat.blt (Nat.log2 t.natAbs) 4000 && Nat.blt c rollsN then (Tr.ch t.toNat fun i => Tr.lf (Out.ok (W.int i) (st.put n (Ob.dice (c + 1)))) : Tr (Out W)) else Tr.bad
      | _ => Tr.bad) = _
    rw [h1]
    show (bif posI t && Nat.blt (Nat.log2 t.natAbs) 4000 && Nat.blt c rollsN then (Tr.ch t.toNat fun i => Tr.lf (Out.ok (W.int i) (st.put n (Ob.dice (c + 1)))) : Tr (Out W)) else Tr.bad) = _
    rw [posI_of ht, blt_t hl, blt_t (show c < rollsN by omega)]
    rfl
  rw [e]
  exact fun i hi => h i _ (by omega) ⟨c + 1, put_get h1, by omega⟩ ⟨Nat.le_refl _, fun k _ hk => put_off h1 hk⟩
/-- an item of a list is picked by dice -/
theorem wp_dice {ns : List Int} {k : Nat} {st : Sto} {Q : W → Sto → Prop} (hk : k < rollsN) (h : ∀ s, Dz s st.n rollsN → Old st s → s.n = st.n + 1 → Q (.obj st.n) s) : Wp (diceM [.scr ns, .int k] st) Q := by
  show Wp (bif nnI (k : Int) && Nat.blt (k : Int).toNat rollsN then _ else _) Q
  rw [nnI_of (by omega), blt_t (show (k : Int).toNat < rollsN by rw [Int.toNat_natCast]; exact hk)]
  exact h _ ⟨0, by rw [Sto.get_new, if_pos rfl], by omega⟩ Old.new rfl
theorem ret_mul_str {z : Str} {k : Int} {s : Sto} {P : W → Sto → Prop} (h0 : 0 ≤ k) (h1 : k.toNat ≤ 1000) (h2 : 0 < z.length) (h3 : z.length ≤ 1000) : Ret (opMul (.str z) (.int k) s) P ↔ P (.str (repS z k.toNat)) s := by
  refine ret_of ?_
  show (bif nnI k && Nat.ble k.toNat 1000 && Nat.blt 0 z.length && Nat.ble z.length 1000 then _ else _) = _
  rw [nnI_of h0, Nat.ble_eq.mpr h1, blt_t h2, Nat.ble_eq.mpr h3]
  rfl
end MM
end

section
set_option Elab.async false
set_option linter.all false
set_option autoImplicit false
set_option maxRecDepth 100000
set_option maxHeartbeats 4000000
namespace Lw
open PySem PySem.Spec PyProof.Rows L2 MM
def topS (i : Nat) : Stmt := PySem.Challenge.pw_keytoall_k00_whole_fractions.main.body.getD i (.Pass ⟨0, 0, 0, 0⟩)
abbrev t_is_whole : Stmt := topS 5
theorem sc_is_whole : FnScope ["value"] ["value"] (defScope t_is_whole) := ⟨rfl, rfl, rfl, by decide +kernel, rfl, by decide +kernel, by decide +kernel⟩
noncomputable def b_is_whole : SM := (mRet (mAndV (mCall opIsi (mCons (mVar 0) (mCons (mC (.ty 0)) mNil))) (mNot (mCall opIsi (mCons (mVar 0) (mCons (mC (.ty 1)) mNil))))))
noncomputable def m_is_whole : List W → M W := runDef 1 b_is_whole
theorem ok_is_whole {P : Program} {w : World} {mg : Str → Option Value} {base : Heap} {T : Tb} (D : Def T.K mg "is_whole" t_is_whole (T.fa 0)) (b_isinstance : mg "isinstance" = none) (b_bool : mg "bool" = none) (b_int : mg "int" = none) : FK P w mg base T 1 "is_whole" 0 1 m_is_whole :=
  D.fk (k := 0) sc_is_whole rfl (fun _ _ _ _ _ _ us hl => match us, hl with | [_], _ => rfl) fun cdv A outer s H E hr F =>
    (s_last (s_ret (s_andV F (s_callB (sc_isi F) rfl b_isinstance (by decide +kernel) (s_cons (s_var rfl (.inl rfl) rfl rfl) (s_cons (s_tyname rfl b_int (by decide +kernel) (by decide) rfl) s_nil rfl) rfl) (by decide) rfl rfl rfl) (s_one (s_not F (s_callB (sc_isi F) rfl b_isinstance (by decide +kernel) (s_cons (s_var rfl (.inl rfl) rfl rfl) (s_cons (s_tyname rfl b_bool (by decide +kernel) (by decide) rfl) s_nil rfl) rfl) (by decide) rfl rfl rfl))))))
abbrev t_is_from : Stmt := topS 6
theorem sc_is_from : FnScope ["value", "least", "most"] ["value", "least", "most"] (defScope t_is_from) := ⟨rfl, rfl, rfl, by decide +kernel, rfl, by decide +kernel, by decide +kernel⟩
noncomputable def b_is_from : SM := (mRet (mAndV (mFn 1 m_is_whole (mCons (mVar 0) mNil)) (mChain opLe opLe (mVar 1) (mVar 0) (mVar 2))))
noncomputable def m_is_from : List W → M W := runDef 3 b_is_from
theorem ok_is_from {P : Program} {w : World} {mg : Str → Option Value} {base : Heap} {T : Tb} (D : Def T.K mg "is_from" t_is_from (T.fa 1)) (c_is_whole : FK P w mg base T 1 "is_whole" 0 1 m_is_whole) : FK P w mg base T 2 "is_from" 1 3 m_is_from :=
  D.fk (k := 1) sc_is_from rfl (fun _ _ _ _ _ _ us hl => match us, hl with | [_, _, _], _ => rfl) fun cdv A outer s H E hr F =>
    (s_last (s_ret (s_andV F (s_call F c_is_whole hr (by decide) rfl (s_cons (s_var rfl (.inl rfl) rfl rfl) s_nil rfl) rfl rfl rfl) (s_one (s_chain (so_le) (so_le) (s_var rfl (.inl rfl) rfl rfl) (s_var rfl (.inl rfl) rfl rfl) (s_var rfl (.inl rfl) rfl rfl) (by with_unfolding_all rfl))))))
abbrev t_divisor_of : Stmt := topS 11
theorem sc_divisor_of : FnScope ["one", "other"] ["one", "other"] (defScope t_divisor_of) := ⟨rfl, rfl, rfl, by decide +kernel, rfl, by decide +kernel, by decide +kernel⟩
noncomputable def b_divisor_of : SM := (mSeq (mPar 0 1 (mCons (mCall opMax (mCons (mVar 0) (mCons (mOp1 opNeg (mVar 0)) mNil))) (mCons (mCall opMax (mCons (mVar 1) (mCons (mOp1 opNeg (mVar 1)) mNil))) mNil)))
    (mSeq (mWhile (mBool (mOp2 opGt (mVar 1) (mC (.int 0)))) (mPar 0 1 (mCons (mVar 1) (mCons (mOp2 opMod (mVar 0) (mVar 1)) mNil))))
    (mRet (mVar 0))))
noncomputable def m_divisor_of : List W → M W := runDef 2 b_divisor_of
theorem ok_divisor_of {P : Program} {w : World} {mg : Str → Option Value} {base : Heap} {T : Tb} (D : Def T.K mg "divisor_of" t_divisor_of (T.fa 2)) (b_max : mg "max" = none) : FK P w mg base T 1 "divisor_of" 2 2 m_divisor_of :=
  D.fk (k := 0) sc_divisor_of rfl (fun _ _ _ _ _ _ us hl => match us, hl with | [_, _], _ => rfl) fun cdv A outer s H E hr F =>
    (s_seq (s_par F rfl rfl (by decide) rfl rfl (s_cons (s_callB (sc_max F) rfl b_max (by decide +kernel) (s_cons (s_var rfl (.inl rfl) rfl rfl) (s_cons (s_unop so_neg (s_var rfl (.inl rfl) rfl rfl)) s_nil rfl) rfl) (by decide) rfl rfl rfl) (s_cons (s_callB (sc_max F) rfl b_max (by decide +kernel) (s_cons (s_var rfl (.inl rfl) rfl rfl) (s_cons (s_unop so_neg (s_var rfl (.inl rfl) rfl rfl)) s_nil rfl) rfl) (by decide) rfl rfl rfl) s_nil rfl) rfl) (by rfl) rfl)
    (s_seq (s_while PassesOwn.never (s_tcmp (so_gt) (s_var rfl (.inl rfl) rfl rfl) s_int rfl) (s_last (s_par F rfl rfl (by decide) rfl rfl (s_cons (s_var rfl (.inl rfl) rfl rfl) (s_cons (s_binop (so_mod) (s_var rfl (.inl rfl) rfl rfl) (s_var rfl (.inl rfl) rfl rfl)) s_nil rfl) rfl) (by rfl) rfl)))
    (s_last (s_ret (s_var rfl (.inl rfl) rfl rfl)))))
abbrev t_is_fraction : Stmt := topS 12
theorem sc_is_fraction : FnScope ["value", "one"] ["value"] (defScope t_is_fraction) := ⟨rfl, rfl, rfl, by decide +kernel, rfl, by decide +kernel, by decide +kernel⟩
noncomputable def b_is_fraction : SM := (mSeq (mIfS (mOr (mNotT (mTru (mCall opIsi (mCons (mVar 0) (mCons (mC (.ty 2)) mNil))))) (mOr (mBool (mOp2 opNe (mCall opLen (mCons (mVar 0) mNil)) (mC (.int 2)))) (mNotT (mTru (mCall opAll (mCons (mComp [1] (mSeqI (mVar 0)) (gVar 1) mYes (mFn 1 m_is_whole (mCons (mVar 1) mNil))) mNil)))))) (mRet (mC (.bl false))) mSkip)
    (mRet (mAndV (mOp2 opGt (mOp2 opIx (mVar 0) (mC (.int 1))) (mC (.int 0))) (mOp2 opEq (mFn 2 m_divisor_of (mCons (mOp2 opIx (mVar 0) (mC (.int 0))) (mCons (mOp2 opIx (mVar 0) (mC (.int 1))) mNil))) (mC (.int 1))))))
noncomputable def m_is_fraction : List W → M W := runDef 2 b_is_fraction
theorem ok_is_fraction {P : Program} {w : World} {mg : Str → Option Value} {base : Heap} {T : Tb} (D : Def T.K mg "is_fraction" t_is_fraction (T.fa 3)) (b_all : mg "all" = none) (b_len : mg "len" = none) (b_isinstance : mg "isinstance" = none) (b_tuple : mg "tuple" = none) (g_PAIR : GC mg "PAIR" (.int 2)) (c_is_whole : FK P w mg base T 1 "is_whole" 0 1 m_is_whole) (c_divisor_of : FK P w mg base T 1 "divisor_of" 2 2 m_divisor_of) : FK P w mg base T 2 "is_fraction" 3 1 m_is_fraction :=
  D.fk (k := 1) sc_is_fraction rfl (fun _ _ _ _ _ _ us hl => match us, hl with | [_], _ => rfl) fun cdv A outer s H E hr F =>
    (s_seq (s_if (s_whole (s_or (s_notT (s_truth F (s_callB (sc_isi F) rfl b_isinstance (by decide +kernel) (s_cons (s_var rfl (.inl rfl) rfl rfl) (s_cons (s_tyname rfl b_tuple (by decide +kernel) (by decide) rfl) s_nil rfl) rfl) (by decide) rfl rfl rfl) (fun _ => rfl))) (s_or (s_tcmp (so_ne F) (s_callB (sc_len F) rfl b_len (by decide +kernel) (s_cons (s_var rfl (.inl rfl) rfl rfl) s_nil rfl) (by decide) rfl rfl rfl) (s_gc rfl g_PAIR rfl) rfl) (s_or1 (s_notT (s_truth F (s_callB (sc_all F) rfl b_all (by decide +kernel) (s_cons (s_comp (own := [("one", 1)]) F (s_seqI F (s_var rfl (.inl rfl) rfl rfl)) (by with_unfolding_all rfl) (by decide) (fun _ _ _ _ _ => (s_gname F.blk.nd rfl (.inl rfl) (.inr rfl))) (fun _ _ _ _ _ => s_ifs0) (fun _ _ _ _ _ => (s_call F.blk c_is_whole hr (by decide) rfl (s_cons (s_var rfl (.inl rfl) rfl rfl) s_nil rfl) rfl rfl rfl)) (fun _ => rfl)) s_nil rfl) (by decide) rfl rfl rfl) (fun _ => rfl))))))) (s_last (s_ret s_bl)) s_skip)
    (s_last (s_ret (s_andV F (s_cmp (so_gt) (s_sub F (s_var rfl (.inl rfl) rfl rfl) s_int (fun _ _ => rfl)) s_int rfl) (s_one (s_cmp (so_eq F) (s_call F c_divisor_of hr (by decide) rfl (s_cons (s_sub F (s_var rfl (.inl rfl) rfl rfl) s_int (fun _ _ => rfl)) (s_cons (s_sub F (s_var rfl (.inl rfl) rfl rfl) s_int (fun _ _ => rfl)) s_nil rfl) rfl) rfl rfl rfl) s_int rfl))))))
abbrev t_fraction_in : Stmt := topS 13
theorem sc_fraction_in : FnScope ["top", "bottom", "common"] ["top", "bottom"] (defScope t_fraction_in) := ⟨rfl, rfl, rfl, by decide +kernel, rfl, by decide +kernel, by decide +kernel⟩
noncomputable def b_fraction_in : SM := (mSeq (mAsg (mFn 2 m_divisor_of (mCons (mVar 0) (mCons (mVar 1) mNil))) (gVar 2))
    (mRet (mTup (mCons (mOp2 opFdiv (mVar 0) (mVar 2)) (mCons (mOp2 opFdiv (mVar 1) (mVar 2)) mNil)))))
noncomputable def m_fraction_in : List W → M W := runDef 3 b_fraction_in
theorem ok_fraction_in {P : Program} {w : World} {mg : Str → Option Value} {base : Heap} {T : Tb} (D : Def T.K mg "fraction_in" t_fraction_in (T.fa 4)) (c_divisor_of : FK P w mg base T 1 "divisor_of" 2 2 m_divisor_of) : FK P w mg base T 2 "fraction_in" 4 2 m_fraction_in :=
  D.fk (k := 1) sc_fraction_in rfl (fun _ _ _ _ _ _ us hl => match us, hl with | [_, _], _ => rfl) fun cdv A outer s H E hr F =>
    (s_seq (s_set F.nd rfl (.inl rfl) (s_call F c_divisor_of hr (by decide) rfl (s_cons (s_var rfl (.inl rfl) rfl rfl) (s_cons (s_var rfl (.inl rfl) rfl rfl) s_nil rfl) rfl) rfl rfl rfl) rfl (.inl rfl))
    (s_last (s_ret (s_tup (s_cons (s_binop (so_fdiv) (s_var rfl (.inl rfl) rfl rfl) (s_var rfl (.inl rfl) rfl rfl)) (s_cons (s_binop (so_fdiv) (s_var rfl (.inl rfl) rfl rfl) (s_var rfl (.inl rfl) rfl rfl)) s_nil rfl) rfl)))))
abbrev t_power_in : Stmt := topS 14
theorem sc_power_in : FnScope ["one", "times", "top", "bottom", "turn"] ["one", "times"] (defScope t_power_in) := ⟨rfl, rfl, rfl, by decide +kernel, rfl, by decide +kernel, by decide +kernel⟩
noncomputable def b_power_in : SM := (mSeq (mAsg (mTup (mCons (mC (.int 1)) (mCons (mC (.int 1)) mNil))) (gTup_ 2 (gCons_ (gVar 2) (gCons_ (gVar 3) gNil_))))
    (mSeq (mFor (mRng1 (mCons (mVar 1) mNil)) (gVar 4) (mPar 2 3 (mCons (mOp2 opMul (mVar 2) (mOp2 opIx (mVar 0) (mC (.int 0)))) (mCons (mOp2 opMul (mVar 3) (mOp2 opIx (mVar 0) (mC (.int 1)))) mNil))))
    (mRet (mTup (mCons (mVar 2) (mCons (mVar 3) mNil))))))
noncomputable def m_power_in : List W → M W := runDef 5 b_power_in
theorem ok_power_in {P : Program} {w : World} {mg : Str → Option Value} {base : Heap} {T : Tb} (D : Def T.K mg "power_in" t_power_in (T.fa 5)) (b_range : mg "range" = none) : FK P w mg base T 1 "power_in" 5 2 m_power_in :=
  D.fk (k := 0) sc_power_in rfl (fun _ _ _ _ _ _ us hl => match us, hl with | [_, _], _ => rfl) fun cdv A outer s H E hr F =>
    (s_seq (s_asg (s_tup (s_cons s_int (s_cons s_int s_nil rfl) rfl)) (s_gtup F (s_gcons (s_gname F.nd rfl (.inl rfl) (.inl rfl)) (s_gcons (s_gname F.nd rfl (.inl rfl) (.inl rfl)) s_gnil rfl) rfl) rfl rfl) rfl rfl rfl)
    (s_seq (s_for F PassesOwn.never (s_rng1 rfl b_range (s_cons (s_var rfl (.inl rfl) rfl rfl) s_nil rfl) rfl) (s_gname F.nd rfl (.inl rfl) (.inl rfl)) (s_last (s_par F rfl rfl (by decide) rfl rfl (s_cons (s_binop (so_mul F) (s_var rfl (.inl rfl) rfl rfl) (s_sub F (s_var rfl (.inl rfl) rfl rfl) s_int (fun _ _ => rfl))) (s_cons (s_binop (so_mul F) (s_var rfl (.inl rfl) rfl rfl) (s_sub F (s_var rfl (.inl rfl) rfl rfl) s_int (fun _ _ => rfl))) s_nil rfl) rfl) (by rfl) rfl)) (fun _ => rfl))
    (s_last (s_ret (s_tup (s_cons (s_var rfl (.inl rfl) rfl rfl) (s_cons (s_var rfl (.inl rfl) rfl rfl) s_nil rfl) rfl))))))
abbrev t_rest_in : Stmt := topS 15
theorem sc_rest_in : FnScope ["one"] ["one"] (defScope t_rest_in) := ⟨rfl, rfl, rfl, by decide +kernel, rfl, by decide +kernel, by decide +kernel⟩
noncomputable def b_rest_in : SM := (mRet (mFn 2 m_fraction_in (mCons (mOp2 opSub (mOp2 opIx (mVar 0) (mC (.int 1))) (mOp2 opIx (mVar 0) (mC (.int 0)))) (mCons (mOp2 opIx (mVar 0) (mC (.int 1))) mNil))))
noncomputable def m_rest_in : List W → M W := runDef 1 b_rest_in
theorem ok_rest_in {P : Program} {w : World} {mg : Str → Option Value} {base : Heap} {T : Tb} (D : Def T.K mg "rest_in" t_rest_in (T.fa 6)) (c_fraction_in : FK P w mg base T 2 "fraction_in" 4 2 m_fraction_in) : FK P w mg base T 3 "rest_in" 6 1 m_rest_in :=
  D.fk (k := 2) sc_rest_in rfl (fun _ _ _ _ _ _ us hl => match us, hl with | [_], _ => rfl) fun cdv A outer s H E hr F =>
    (s_last (s_ret (s_call F c_fraction_in hr (by decide) rfl (s_cons (s_binop (so_sub) (s_sub F (s_var rfl (.inl rfl) rfl rfl) s_int (fun _ _ => rfl)) (s_sub F (s_var rfl (.inl rfl) rfl rfl) s_int (fun _ _ => rfl))) (s_cons (s_sub F (s_var rfl (.inl rfl) rfl rfl) s_int (fun _ _ => rfl)) s_nil rfl) rfl) rfl rfl rfl)))
abbrev t_require_fraction : Stmt := topS 16
theorem sc_require_fraction : FnScope ["value", "one"] ["value"] (defScope t_require_fraction) := ⟨rfl, rfl, rfl, by decide +kernel, rfl, by decide +kernel, by decide +kernel⟩
noncomputable def b_require_fraction : SM := (mIfS (mOr (mNotT (mTru (mFn 1 m_is_fraction (mCons (mVar 0) mNil)))) (mNotT (mTru (mCall opAll (mCons (mComp [1] (mSeqI (mVar 0)) (gVar 1) mYes (mChain opLt opLt (mOp1 opNeg (mC (.int 10000000000000000000000000000000000000000000000000000000000000000000000000000000000000000000000000000))) (mVar 1) (mC (.int 10000000000000000000000000000000000000000000000000000000000000000000000000000000000000000000000000000)))) mNil))))) mNever mSkip)
noncomputable def m_require_fraction : List W → M W := runDef 2 b_require_fraction
theorem ok_require_fraction {P : Program} {w : World} {mg : Str → Option Value} {base : Heap} {T : Tb} (D : Def T.K mg "require_fraction" t_require_fraction (T.fa 7)) (b_all : mg "all" = none) (g_GREAT : GC mg "GREAT" (.int 10000000000000000000000000000000000000000000000000000000000000000000000000000000000000000000000000000)) (c_is_fraction : FK P w mg base T 2 "is_fraction" 3 1 m_is_fraction) : FK P w mg base T 3 "require_fraction" 7 1 m_require_fraction :=
  D.fk (k := 2) sc_require_fraction rfl (fun _ _ _ _ _ _ us hl => match us, hl with | [_], _ => rfl) fun cdv A outer s H E hr F =>
    (s_last (s_if (s_whole (s_or (s_notT (s_truth F (s_call F c_is_fraction hr (by decide) rfl (s_cons (s_var rfl (.inl rfl) rfl rfl) s_nil rfl) rfl rfl rfl) (fun _ => rfl))) (s_or1 (s_notT (s_truth F (s_callB (sc_all F) rfl b_all (by decide +kernel) (s_cons (s_comp (own := [("one", 1)]) F (s_seqI F (s_var rfl (.inl rfl) rfl rfl)) (by with_unfolding_all rfl) (by decide) (fun _ _ _ _ _ => (s_gname F.blk.nd rfl (.inl rfl) (.inr rfl))) (fun _ _ _ _ _ => s_ifs0) (fun _ _ _ _ _ => (s_chain (so_lt) (so_lt) (s_unop so_neg (s_gc rfl g_GREAT rfl)) (s_var rfl (.inl rfl) rfl rfl) (s_gc rfl g_GREAT rfl) (by with_unfolding_all rfl))) (fun _ => rfl)) s_nil rfl) (by decide) rfl rfl rfl) (fun _ => rfl)))))) (s_last s_never) s_skip))
abbrev t_fraction : Stmt := topS 17
theorem sc_fraction : FnScope ["top", "bottom"] ["top", "bottom"] (defScope t_fraction) := ⟨rfl, rfl, rfl, by decide +kernel, rfl, by decide +kernel, by decide +kernel⟩
noncomputable def b_fraction : SM := (mSeq (mIfS (mNotT (mTru (mFn 3 m_is_from (mCons (mVar 0) (mCons (mOp2 opSub (mC (.int 1)) (mC (.int 10000000000000000000000000000000000000000000000000000000000000000000000000000000000000000000000000000))) (mCons (mOp2 opSub (mC (.int 10000000000000000000000000000000000000000000000000000000000000000000000000000000000000000000000000000)) (mC (.int 1))) mNil)))))) mNever mSkip)
    (mSeq (mIfS (mNotT (mTru (mFn 3 m_is_from (mCons (mVar 1) (mCons (mC (.int 1)) (mCons (mOp2 opSub (mC (.int 10000000000000000000000000000000000000000000000000000000000000000000000000000000000000000000000000000)) (mC (.int 1))) mNil)))))) mNever mSkip)
    (mRet (mFn 2 m_fraction_in (mCons (mVar 0) (mCons (mVar 1) mNil))))))
noncomputable def m_fraction : List W → M W := runDef 2 b_fraction
theorem ok_fraction {P : Program} {w : World} {mg : Str → Option Value} {base : Heap} {T : Tb} (D : Def T.K mg "fraction" t_fraction (T.fa 8)) (g_GREAT : GC mg "GREAT" (.int 10000000000000000000000000000000000000000000000000000000000000000000000000000000000000000000000000000)) (c_is_from : FK P w mg base T 2 "is_from" 1 3 m_is_from) (c_fraction_in : FK P w mg base T 2 "fraction_in" 4 2 m_fraction_in) : FK P w mg base T 3 "fraction" 8 2 m_fraction :=
  D.fk (k := 2) sc_fraction rfl (fun _ _ _ _ _ _ us hl => match us, hl with | [_, _], _ => rfl) fun cdv A outer s H E hr F =>
    (s_seq (s_if (s_notT (s_truth F (s_call F c_is_from hr (by decide) rfl (s_cons (s_var rfl (.inl rfl) rfl rfl) (s_cons (s_binop (so_sub) s_int (s_gc rfl g_GREAT rfl)) (s_cons (s_binop (so_sub) (s_gc rfl g_GREAT rfl) s_int) s_nil rfl) rfl) rfl) rfl rfl rfl) (fun _ => rfl))) (s_last s_never) s_skip)
    (s_seq (s_if (s_notT (s_truth F (s_call F c_is_from hr (by decide) rfl (s_cons (s_var rfl (.inl rfl) rfl rfl) (s_cons s_int (s_cons (s_binop (so_sub) (s_gc rfl g_GREAT rfl) s_int) s_nil rfl) rfl) rfl) rfl rfl rfl) (fun _ => rfl))) (s_last s_never) s_skip)
    (s_last (s_ret (s_call F c_fraction_in hr (by decide) rfl (s_cons (s_var rfl (.inl rfl) rfl rfl) (s_cons (s_var rfl (.inl rfl) rfl rfl) s_nil rfl) rfl) rfl rfl rfl)))))
abbrev t_added : Stmt := topS 18
theorem sc_added : FnScope ["one", "other"] ["one", "other"] (defScope t_added) := ⟨rfl, rfl, rfl, by decide +kernel, rfl, by decide +kernel, by decide +kernel⟩
noncomputable def b_added : SM := (mSeq (mExp (mFn 1 m_require_fraction (mCons (mVar 0) mNil)))
    (mSeq (mExp (mFn 1 m_require_fraction (mCons (mVar 1) mNil)))
    (mRet (mFn 2 m_fraction_in (mCons (mOp2 opAdd (mOp2 opMul (mOp2 opIx (mVar 0) (mC (.int 0))) (mOp2 opIx (mVar 1) (mC (.int 1)))) (mOp2 opMul (mOp2 opIx (mVar 1) (mC (.int 0))) (mOp2 opIx (mVar 0) (mC (.int 1))))) (mCons (mOp2 opMul (mOp2 opIx (mVar 0) (mC (.int 1))) (mOp2 opIx (mVar 1) (mC (.int 1)))) mNil))))))
noncomputable def m_added : List W → M W := runDef 2 b_added
theorem ok_added {P : Program} {w : World} {mg : Str → Option Value} {base : Heap} {T : Tb} (D : Def T.K mg "added" t_added (T.fa 9)) (c_require_fraction : FK P w mg base T 3 "require_fraction" 7 1 m_require_fraction) (c_fraction_in : FK P w mg base T 2 "fraction_in" 4 2 m_fraction_in) : FK P w mg base T 4 "added" 9 2 m_added :=
  D.fk (k := 3) sc_added rfl (fun _ _ _ _ _ _ us hl => match us, hl with | [_, _], _ => rfl) fun cdv A outer s H E hr F =>
    (s_seq (s_expr (s_call F c_require_fraction hr (by decide) rfl (s_cons (s_var rfl (.inl rfl) rfl rfl) s_nil rfl) rfl rfl rfl) rfl)
    (s_seq (s_expr (s_call F c_require_fraction hr (by decide) rfl (s_cons (s_var rfl (.inl rfl) rfl rfl) s_nil rfl) rfl rfl rfl) rfl)
    (s_last (s_ret (s_call F c_fraction_in hr (by decide) rfl (s_cons (s_binop (so_add F) (s_binop (so_mul F) (s_sub F (s_var rfl (.inl rfl) rfl rfl) s_int (fun _ _ => rfl)) (s_sub F (s_var rfl (.inl rfl) rfl rfl) s_int (fun _ _ => rfl))) (s_binop (so_mul F) (s_sub F (s_var rfl (.inl rfl) rfl rfl) s_int (fun _ _ => rfl)) (s_sub F (s_var rfl (.inl rfl) rfl rfl) s_int (fun _ _ => rfl)))) (s_cons (s_binop (so_mul F) (s_sub F (s_var rfl (.inl rfl) rfl rfl) s_int (fun _ _ => rfl)) (s_sub F (s_var rfl (.inl rfl) rfl rfl) s_int (fun _ _ => rfl))) s_nil rfl) rfl) rfl rfl rfl)))))
abbrev t_multiplied : Stmt := topS 19
theorem sc_multiplied : FnScope ["one", "other"] ["one", "other"] (defScope t_multiplied) := ⟨rfl, rfl, rfl, by decide +kernel, rfl, by decide +kernel, by decide +kernel⟩
noncomputable def b_multiplied : SM := (mSeq (mExp (mFn 1 m_require_fraction (mCons (mVar 0) mNil)))
    (mSeq (mExp (mFn 1 m_require_fraction (mCons (mVar 1) mNil)))
    (mRet (mFn 2 m_fraction_in (mCons (mOp2 opMul (mOp2 opIx (mVar 0) (mC (.int 0))) (mOp2 opIx (mVar 1) (mC (.int 0)))) (mCons (mOp2 opMul (mOp2 opIx (mVar 0) (mC (.int 1))) (mOp2 opIx (mVar 1) (mC (.int 1)))) mNil))))))
noncomputable def m_multiplied : List W → M W := runDef 2 b_multiplied
theorem ok_multiplied {P : Program} {w : World} {mg : Str → Option Value} {base : Heap} {T : Tb} (D : Def T.K mg "multiplied" t_multiplied (T.fa 10)) (c_require_fraction : FK P w mg base T 3 "require_fraction" 7 1 m_require_fraction) (c_fraction_in : FK P w mg base T 2 "fraction_in" 4 2 m_fraction_in) : FK P w mg base T 4 "multiplied" 10 2 m_multiplied :=
  D.fk (k := 3) sc_multiplied rfl (fun _ _ _ _ _ _ us hl => match us, hl with | [_, _], _ => rfl) fun cdv A outer s H E hr F =>
    (s_seq (s_expr (s_call F c_require_fraction hr (by decide) rfl (s_cons (s_var rfl (.inl rfl) rfl rfl) s_nil rfl) rfl rfl rfl) rfl)
    (s_seq (s_expr (s_call F c_require_fraction hr (by decide) rfl (s_cons (s_var rfl (.inl rfl) rfl rfl) s_nil rfl) rfl rfl rfl) rfl)
    (s_last (s_ret (s_call F c_fraction_in hr (by decide) rfl (s_cons (s_binop (so_mul F) (s_sub F (s_var rfl (.inl rfl) rfl rfl) s_int (fun _ _ => rfl)) (s_sub F (s_var rfl (.inl rfl) rfl rfl) s_int (fun _ _ => rfl))) (s_cons (s_binop (so_mul F) (s_sub F (s_var rfl (.inl rfl) rfl rfl) s_int (fun _ _ => rfl)) (s_sub F (s_var rfl (.inl rfl) rfl rfl) s_int (fun _ _ => rfl))) s_nil rfl) rfl) rfl rfl rfl)))))
abbrev t_power : Stmt := topS 20
theorem sc_power : FnScope ["one", "times"] ["one", "times"] (defScope t_power) := ⟨rfl, rfl, rfl, by decide +kernel, rfl, by decide +kernel, by decide +kernel⟩
noncomputable def b_power : SM := (mSeq (mExp (mFn 1 m_require_fraction (mCons (mVar 0) mNil)))
    (mSeq (mIfS (mNotT (mTru (mFn 3 m_is_from (mCons (mVar 1) (mCons (mC (.int 0)) (mCons (mC (.int 1000)) mNil)))))) mNever mSkip)
    (mRet (mFn 2 m_power_in (mCons (mVar 0) (mCons (mVar 1) mNil))))))
noncomputable def m_power : List W → M W := runDef 2 b_power
theorem ok_power {P : Program} {w : World} {mg : Str → Option Value} {base : Heap} {T : Tb} (D : Def T.K mg "power" t_power (T.fa 11)) (g_MOST_POWER : GC mg "MOST_POWER" (.int 1000)) (c_require_fraction : FK P w mg base T 3 "require_fraction" 7 1 m_require_fraction) (c_is_from : FK P w mg base T 2 "is_from" 1 3 m_is_from) (c_power_in : FK P w mg base T 1 "power_in" 5 2 m_power_in) : FK P w mg base T 4 "power" 11 2 m_power :=
  D.fk (k := 3) sc_power rfl (fun _ _ _ _ _ _ us hl => match us, hl with | [_, _], _ => rfl) fun cdv A outer s H E hr F =>
    (s_seq (s_expr (s_call F c_require_fraction hr (by decide) rfl (s_cons (s_var rfl (.inl rfl) rfl rfl) s_nil rfl) rfl rfl rfl) rfl)
    (s_seq (s_if (s_notT (s_truth F (s_call F c_is_from hr (by decide) rfl (s_cons (s_var rfl (.inl rfl) rfl rfl) (s_cons s_int (s_cons (s_gc rfl g_MOST_POWER rfl) s_nil rfl) rfl) rfl) rfl rfl rfl) (fun _ => rfl))) (s_last s_never) s_skip)
    (s_last (s_ret (s_call F c_power_in hr (by decide) rfl (s_cons (s_var rfl (.inl rfl) rfl rfl) (s_cons (s_var rfl (.inl rfl) rfl rfl) s_nil rfl) rfl) rfl rfl rfl)))))
abbrev t_rest : Stmt := topS 21
theorem sc_rest : FnScope ["one"] ["one"] (defScope t_rest) := ⟨rfl, rfl, rfl, by decide +kernel, rfl, by decide +kernel, by decide +kernel⟩
noncomputable def b_rest : SM := (mSeq (mExp (mFn 1 m_require_fraction (mCons (mVar 0) mNil)))
    (mRet (mFn 1 m_rest_in (mCons (mVar 0) mNil))))
noncomputable def m_rest : List W → M W := runDef 1 b_rest
theorem ok_rest {P : Program} {w : World} {mg : Str → Option Value} {base : Heap} {T : Tb} (D : Def T.K mg "rest" t_rest (T.fa 12)) (c_require_fraction : FK P w mg base T 3 "require_fraction" 7 1 m_require_fraction) (c_rest_in : FK P w mg base T 3 "rest_in" 6 1 m_rest_in) : FK P w mg base T 4 "rest" 12 1 m_rest :=
  D.fk (k := 3) sc_rest rfl (fun _ _ _ _ _ _ us hl => match us, hl with | [_], _ => rfl) fun cdv A outer s H E hr F =>
    (s_seq (s_expr (s_call F c_require_fraction hr (by decide) rfl (s_cons (s_var rfl (.inl rfl) rfl rfl) s_nil rfl) rfl rfl rfl) rfl)
    (s_last (s_ret (s_call F c_rest_in hr (by decide) rfl (s_cons (s_var rfl (.inl rfl) rfl rfl) s_nil rfl) rfl rfl rfl))))
abbrev t__law_dice : Stmt := topS 23
theorem sc__law_dice : FnScope ["script", "spot", "cell", "great", "mixed"] ["script", "spot"] (defScope t__law_dice) := ⟨rfl, rfl, rfl, by decide +kernel, rfl, by decide +kernel, by decide +kernel⟩
noncomputable def b__law_dice : SM := (mSeq (mAsg (mIf (mBool (mOp2 opLt (mVar 1) (mCall opLen (mCons (mVar 0) mNil)))) (mCall opInt (mCons (mOp2 opIx (mVar 0) (mVar 1)) mNil)) (mOp2 opAdd (mOp2 opMul (mC (.int 521)) (mVar 1)) (mC (.int 89)))) (gVar 2))
    (mSeq (mAsg (mOp2 opMod (mCall opInt (mCons (mCall opAbs (mCons (mVar 2) mNil)) mNil)) (mOp2 opPow (mOp2 opPow (mC (.int 10)) (mC (.int 56))) (mC (.int 6)))) (gVar 3))
    (mSeq (mAsg (mOp2 opAdd (mOp2 opAdd (mOp2 opAdd (mOp2 opMul (mOp2 opMod (mCall opInt (mCons (mVar 3) mNil)) (mC (.int 2305843009213693669))) (mC (.int 83))) (mOp2 opMul (mC (.int 1013)) (mVar 1))) (mOp2 opMul (mC (.int 59)) (mCall opInt (mCons (mOp2 opLt (mVar 2) (mC (.int 0))) mNil)))) (mC (.int 41))) (gVar 4))
    (mRet (mLst (mCons (mCall opMax (mCons (mC (.int 0)) (mCons (mOp2 opSub (mVar 3) (mOp2 opPow (mC (.int 10)) (mC (.int 16)))) mNil))) (mCons (mVar 4) (mCons (mC (.int 0)) mNil))))))))
noncomputable abbrev m__law_dice : List W → M W := diceM
theorem ok__law_dice {P : Program} {w : World} {mg : Str → Option Value} {base : Heap} {T : Tb} (D : Def T.K mg "_law_dice" t__law_dice (T.fa 13)) (b_len : mg "len" = none) (b_int : mg "int" = none) (b_abs : mg "abs" = none) (b_max : mg "max" = none) : FK P w mg base T 1 "_law_dice" 13 2 m__law_dice :=
  FK.coarse (D.fk (k := 0) sc__law_dice rfl (fun _ _ _ _ _ _ us hl => match us, hl with | [_, _], _ => rfl) fun cdv A outer s H E hr F =>
    (s_seq (s_set F.nd rfl (.inl rfl) (s_ifExp (s_tcmp (so_lt) (s_var rfl (.inl rfl) rfl rfl) (s_callB (sc_len F) rfl b_len (by decide +kernel) (s_cons (s_var rfl (.inl rfl) rfl rfl) s_nil rfl) (by decide) rfl rfl rfl) rfl) (s_callTy (sc_int) rfl b_int (by decide +kernel) (s_cons (s_sub F (s_var rfl (.inl rfl) rfl rfl) (s_var rfl (.inl rfl) rfl rfl) (fun _ _ => rfl)) s_nil rfl) (by decide) rfl rfl rfl) (s_binop (so_add F) (s_binop (so_mul F) s_int (s_var rfl (.inl rfl) rfl rfl)) s_int)) rfl (.inl rfl))
    (s_seq (s_set F.nd rfl (.inl rfl) (s_binop (so_mod) (s_callTy (sc_int) rfl b_int (by decide +kernel) (s_cons (s_callB (sc_abs) rfl b_abs (by decide +kernel) (s_cons (s_var rfl (.inl rfl) rfl rfl) s_nil rfl) (by decide) rfl rfl rfl) s_nil rfl) (by decide) rfl rfl rfl) (s_binop (so_pow) (s_binop (so_pow) s_int s_int) s_int)) rfl (.inl rfl))
    (s_seq (s_set F.nd rfl (.inl rfl) (s_binop (so_add F) (s_binop (so_add F) (s_binop (so_add F) (s_binop (so_mul F) (s_binop (so_mod) (s_callTy (sc_int) rfl b_int (by decide +kernel) (s_cons (s_var rfl (.inl rfl) rfl rfl) s_nil rfl) (by decide) rfl rfl rfl) s_int) s_int) (s_binop (so_mul F) s_int (s_var rfl (.inl rfl) rfl rfl))) (s_binop (so_mul F) s_int (s_callTy (sc_int) rfl b_int (by decide +kernel) (s_cons (s_cmp (so_lt) (s_var rfl (.inl rfl) rfl rfl) s_int rfl) s_nil rfl) (by decide) rfl rfl rfl))) s_int) rfl (.inl rfl))
    (s_last (s_ret (s_lst (s_cons (s_callB (sc_max F) rfl b_max (by decide +kernel) (s_cons s_int (s_cons (s_binop (so_sub) (s_var rfl (.inl rfl) rfl rfl) (s_binop (so_pow) s_int s_int)) s_nil rfl) rfl) (by decide) rfl rfl rfl) (s_cons (s_var rfl (.inl rfl) rfl rfl) (s_cons s_int s_nil rfl) rfl) rfl)))))))) coarse_dice
abbrev t__law_roll : Stmt := topS 24
theorem sc__law_roll : FnScope ["dice", "total", "found", "one", "two"] ["dice", "total"] (defScope t__law_roll) := ⟨rfl, rfl, rfl, by decide +kernel, rfl, by decide +kernel, by decide +kernel⟩
noncomputable def b__law_roll : SM := (mSeq (mIfS (mBool (mOp2 opGt (mOp2 opIx (mVar 0) (mC (.int 0))) (mC (.int 0)))) (mSeq (mAsg (mOp2 opMod (mCall opInt (mCons (mOp2 opIx (mVar 0) (mC (.int 0))) mNil)) (mVar 1)) (gVar 2))
    (mSeq (mAsg (mOp2 opFdiv (mOp2 opIx (mVar 0) (mC (.int 0))) (mVar 1)) (gSub_ (mVar 0) (mC (.int 0))))
    (mRet (mVar 2)))) mSkip)
    (mSeq (mAsg (mOp2 opAdd (mOp2 opIx (mVar 0) (mC (.int 2))) (mC (.int 1))) (gSub_ (mVar 0) (mC (.int 2))))
    (mSeq (mAsg (mOp2 opMod (mCall opInt (mCons (mOp2 opAdd (mOp2 opIx (mVar 0) (mC (.int 1))) (mOp2 opMul (mC (.int 67867979)) (mOp2 opIx (mVar 0) (mC (.int 2))))) mNil)) (mC (.int 2305843009213693613))) (gVar 3))
    (mSeq (mAsg (mOp2 opAdd (mOp2 opMul (mOp2 opMod (mCall opInt (mCons (mOp2 opAdd (mOp2 opMul (mVar 3) (mVar 3)) (mOp2 opMul (mC (.int 131)) (mOp2 opIx (mVar 0) (mC (.int 2))))) mNil)) (mC (.int 2305843009213693583))) (mC (.int 49979687))) (mVar 3)) (gVar 4))
    (mRet (mOp2 opMod (mCall opInt (mCons (mOp2 opFdiv (mVar 4) (mC (.int 65579))) mNil)) (mVar 1)))))))
noncomputable abbrev m__law_roll : List W → M W := rollM
theorem ok__law_roll {P : Program} {w : World} {mg : Str → Option Value} {base : Heap} {T : Tb} (D : Def T.K mg "_law_roll" t__law_roll (T.fa 14)) (b_int : mg "int" = none) : FK P w mg base T 1 "_law_roll" 14 2 m__law_roll :=
  FK.coarse (D.fk (k := 0) sc__law_roll rfl (fun _ _ _ _ _ _ us hl => match us, hl with | [_, _], _ => rfl) fun cdv A outer s H E hr F =>
    (s_seq (s_if (s_tcmp (so_gt) (s_sub F (s_var rfl (.inl rfl) rfl rfl) s_int (fun _ _ => rfl)) s_int rfl) (s_seq (s_set F.nd rfl (.inl rfl) (s_binop (so_mod) (s_callTy (sc_int) rfl b_int (by decide +kernel) (s_cons (s_sub F (s_var rfl (.inl rfl) rfl rfl) s_int (fun _ _ => rfl)) s_nil rfl) (by decide) rfl rfl rfl) (s_var rfl (.inl rfl) rfl rfl)) rfl (.inl rfl))
    (s_seq (s_asg (s_binop (so_fdiv) (s_sub F (s_var rfl (.inl rfl) rfl rfl) s_int (fun _ _ => rfl)) (s_var rfl (.inl rfl) rfl rfl)) (s_gsub (s_var rfl (.inl rfl) rfl rfl) s_int (fun _ => rfl)) rfl rfl rfl)
    (s_last (s_ret (s_var rfl (.inl rfl) rfl rfl))))) s_skip)
    (s_seq (s_asg (s_binop (so_add F) (s_sub F (s_var rfl (.inl rfl) rfl rfl) s_int (fun _ _ => rfl)) s_int) (s_gsub (s_var rfl (.inl rfl) rfl rfl) s_int (fun _ => rfl)) rfl rfl rfl)
    (s_seq (s_set F.nd rfl (.inl rfl) (s_binop (so_mod) (s_callTy (sc_int) rfl b_int (by decide +kernel) (s_cons (s_binop (so_add F) (s_sub F (s_var rfl (.inl rfl) rfl rfl) s_int (fun _ _ => rfl)) (s_binop (so_mul F) s_int (s_sub F (s_var rfl (.inl rfl) rfl rfl) s_int (fun _ _ => rfl)))) s_nil rfl) (by decide) rfl rfl rfl) s_int) rfl (.inl rfl))
    (s_seq (s_set F.nd rfl (.inl rfl) (s_binop (so_add F) (s_binop (so_mul F) (s_binop (so_mod) (s_callTy (sc_int) rfl b_int (by decide +kernel) (s_cons (s_binop (so_add F) (s_binop (so_mul F) (s_var rfl (.inl rfl) rfl rfl) (s_var rfl (.inl rfl) rfl rfl)) (s_binop (so_mul F) s_int (s_sub F (s_var rfl (.inl rfl) rfl rfl) s_int (fun _ _ => rfl)))) s_nil rfl) (by decide) rfl rfl rfl) s_int) s_int) (s_var rfl (.inl rfl) rfl rfl)) rfl (.inl rfl))
    (s_last (s_ret (s_binop (so_mod) (s_callTy (sc_int) rfl b_int (by decide +kernel) (s_cons (s_binop (so_fdiv) (s_var rfl (.inl rfl) rfl rfl) s_int) s_nil rfl) (by decide) rfl rfl rfl) (s_var rfl (.inl rfl) rfl rfl))))))))) coarse_roll
abbrev t__law_pick : Stmt := topS 25
theorem sc__law_pick : FnScope ["dice", "items"] ["dice", "items"] (defScope t__law_pick) := ⟨rfl, rfl, rfl, by decide +kernel, rfl, by decide +kernel, by decide +kernel⟩
noncomputable def b__law_pick : SM := (mRet (mOp2 opIx (mVar 1) (mFn 2 m__law_roll (mCons (mVar 0) (mCons (mCall opLen (mCons (mVar 1) mNil)) mNil)))))
noncomputable def m__law_pick : List W → M W := runDef 2 b__law_pick
theorem ok__law_pick {P : Program} {w : World} {mg : Str → Option Value} {base : Heap} {T : Tb} (D : Def T.K mg "_law_pick" t__law_pick (T.fa 15)) (b_len : mg "len" = none) (c__law_roll : FK P w mg base T 1 "_law_roll" 14 2 m__law_roll) : FK P w mg base T 2 "_law_pick" 15 2 m__law_pick :=
  D.fk (k := 1) sc__law_pick rfl (fun _ _ _ _ _ _ us hl => match us, hl with | [_, _], _ => rfl) fun cdv A outer s H E hr F =>
    (s_last (s_ret (s_sub F (s_var rfl (.inl rfl) rfl rfl) (s_call F c__law_roll hr (by decide) rfl (s_cons (s_var rfl (.inl rfl) rfl rfl) (s_cons (s_callB (sc_len F) rfl b_len (by decide +kernel) (s_cons (s_var rfl (.inl rfl) rfl rfl) s_nil rfl) (by decide) rfl rfl rfl) s_nil rfl) rfl) rfl rfl rfl) (fun _ _ => rfl))))
abbrev t__law_fr_gcd : Stmt := topS 26
theorem sc__law_fr_gcd : FnScope ["one", "other"] ["one", "other"] (defScope t__law_fr_gcd) := ⟨rfl, rfl, rfl, by decide +kernel, rfl, by decide +kernel, by decide +kernel⟩
noncomputable def b__law_fr_gcd : SM := (mSeq (mPar 0 1 (mCons (mCall opMax (mCons (mVar 0) (mCons (mOp1 opNeg (mVar 0)) mNil))) (mCons (mCall opMax (mCons (mVar 1) (mCons (mOp1 opNeg (mVar 1)) mNil))) mNil)))
    (mSeq (mWhile (mBool (mOp2 opGt (mVar 1) (mC (.int 0)))) (mPar 0 1 (mCons (mVar 1) (mCons (mOp2 opMod (mCall opInt (mCons (mVar 0) mNil)) (mVar 1)) mNil))))
    (mRet (mVar 0))))
noncomputable def m__law_fr_gcd : List W → M W := runDef 2 b__law_fr_gcd
theorem ok__law_fr_gcd {P : Program} {w : World} {mg : Str → Option Value} {base : Heap} {T : Tb} (D : Def T.K mg "_law_fr_gcd" t__law_fr_gcd (T.fa 16)) (b_max : mg "max" = none) (b_int : mg "int" = none) : FK P w mg base T 1 "_law_fr_gcd" 16 2 m__law_fr_gcd :=
  D.fk (k := 0) sc__law_fr_gcd rfl (fun _ _ _ _ _ _ us hl => match us, hl with | [_, _], _ => rfl) fun cdv A outer s H E hr F =>
    (s_seq (s_par F rfl rfl (by decide) rfl rfl (s_cons (s_callB (sc_max F) rfl b_max (by decide +kernel) (s_cons (s_var rfl (.inl rfl) rfl rfl) (s_cons (s_unop so_neg (s_var rfl (.inl rfl) rfl rfl)) s_nil rfl) rfl) (by decide) rfl rfl rfl) (s_cons (s_callB (sc_max F) rfl b_max (by decide +kernel) (s_cons (s_var rfl (.inl rfl) rfl rfl) (s_cons (s_unop so_neg (s_var rfl (.inl rfl) rfl rfl)) s_nil rfl) rfl) (by decide) rfl rfl rfl) s_nil rfl) rfl) (by rfl) rfl)
    (s_seq (s_while PassesOwn.never (s_tcmp (so_gt) (s_var rfl (.inl rfl) rfl rfl) s_int rfl) (s_last (s_par F rfl rfl (by decide) rfl rfl (s_cons (s_var rfl (.inl rfl) rfl rfl) (s_cons (s_binop (so_mod) (s_callTy (sc_int) rfl b_int (by decide +kernel) (s_cons (s_var rfl (.inl rfl) rfl rfl) s_nil rfl) (by decide) rfl rfl rfl) (s_var rfl (.inl rfl) rfl rfl)) s_nil rfl) rfl) (by rfl) rfl)))
    (s_last (s_ret (s_var rfl (.inl rfl) rfl rfl)))))
abbrev t__law_fr_least : Stmt := topS 27
theorem sc__law_fr_least : FnScope ["top", "bottom", "least"] ["top", "bottom"] (defScope t__law_fr_least) := ⟨rfl, rfl, rfl, by decide +kernel, rfl, by decide +kernel, by decide +kernel⟩
noncomputable def b__law_fr_least : SM := (mSeq (mAsg (mCall opMax (mCons (mC (.int 1)) (mCons (mFn 2 m__law_fr_gcd (mCons (mVar 0) (mCons (mVar 1) mNil))) mNil))) (gVar 2))
    (mRet (mTup (mCons (mOp2 opFdiv (mVar 0) (mVar 2)) (mCons (mOp2 opFdiv (mVar 1) (mVar 2)) mNil)))))
noncomputable def m__law_fr_least : List W → M W := runDef 3 b__law_fr_least
theorem ok__law_fr_least {P : Program} {w : World} {mg : Str → Option Value} {base : Heap} {T : Tb} (D : Def T.K mg "_law_fr_least" t__law_fr_least (T.fa 17)) (b_max : mg "max" = none) (c__law_fr_gcd : FK P w mg base T 1 "_law_fr_gcd" 16 2 m__law_fr_gcd) : FK P w mg base T 2 "_law_fr_least" 17 2 m__law_fr_least :=
  D.fk (k := 1) sc__law_fr_least rfl (fun _ _ _ _ _ _ us hl => match us, hl with | [_, _], _ => rfl) fun cdv A outer s H E hr F =>
    (s_seq (s_set F.nd rfl (.inl rfl) (s_callB (sc_max F) rfl b_max (by decide +kernel) (s_cons s_int (s_cons (s_call F c__law_fr_gcd hr (by decide) rfl (s_cons (s_var rfl (.inl rfl) rfl rfl) (s_cons (s_var rfl (.inl rfl) rfl rfl) s_nil rfl) rfl) rfl rfl rfl) s_nil rfl) rfl) (by decide) rfl rfl rfl) rfl (.inl rfl))
    (s_last (s_ret (s_tup (s_cons (s_binop (so_fdiv) (s_var rfl (.inl rfl) rfl rfl) (s_var rfl (.inl rfl) rfl rfl)) (s_cons (s_binop (so_fdiv) (s_var rfl (.inl rfl) rfl rfl) (s_var rfl (.inl rfl) rfl rfl)) s_nil rfl) rfl)))))
abbrev t__law_fr_number : Stmt := topS 28
theorem sc__law_fr_number : FnScope ["dice", "most", "way", "found"] ["dice", "most"] (defScope t__law_fr_number) := ⟨rfl, rfl, rfl, by decide +kernel, rfl, by decide +kernel, by decide +kernel⟩
noncomputable def b__law_fr_number : SM := (mSeq (mAsg (mFn 2 m__law_roll (mCons (mVar 0) (mCons (mC (.int 5)) mNil))) (gVar 2))
    (mSeq (mIfS (mBool (mOp2 opLt (mVar 2) (mC (.int 2)))) (mAsg (mFn 2 m__law_pick (mCons (mVar 0) (mCons (mLst (mCons (mC (.int 0)) (mCons (mC (.int 1)) (mCons (mC (.int 2)) (mCons (mC (.int 3)) (mCons (mC (.int 6)) (mCons (mC (.int 10)) (mCons (mC (.int 35)) mNil)))))))) mNil))) (gVar 3)) (mIfS (mBool (mOp2 opEq (mVar 2) (mC (.int 2)))) (mAsg (mFn 2 m__law_roll (mCons (mVar 0) (mCons (mOp2 opPow (mC (.int 10)) (mC (.int 6))) mNil))) (gVar 3)) (mAsg (mOp2 opSub (mCall opInt (mCons (mOp2 opAdd (mC (.str (Str.ofString "1"))) (mOp2 opMul (mC (.str (Str.ofString "0"))) (mFn 2 m__law_roll (mCons (mVar 0) (mCons (mVar 1) mNil))))) mNil)) (mFn 2 m__law_pick (mCons (mVar 0) (mCons (mLst (mCons (mC (.int 0)) (mCons (mC (.int 1)) (mCons (mC (.int 7)) mNil)))) mNil)))) (gVar 3))))
    (mRet (mIf (mBool (mOp2 opGt (mFn 2 m__law_roll (mCons (mVar 0) (mCons (mC (.int 3)) mNil))) (mC (.int 0)))) (mVar 3) (mOp2 opSub (mC (.int 0)) (mVar 3))))))
noncomputable def m__law_fr_number : List W → M W := runDef 4 b__law_fr_number
theorem ok__law_fr_number {P : Program} {w : World} {mg : Str → Option Value} {base : Heap} {T : Tb} (D : Def T.K mg "_law_fr_number" t__law_fr_number (T.fa 18)) (b_int : mg "int" = none) (c__law_roll : FK P w mg base T 1 "_law_roll" 14 2 m__law_roll) (c__law_pick : FK P w mg base T 2 "_law_pick" 15 2 m__law_pick) : FK P w mg base T 3 "_law_fr_number" 18 2 m__law_fr_number :=
  D.fk (k := 2) sc__law_fr_number rfl (fun _ _ _ _ _ _ us hl => match us, hl with | [_, _], _ => rfl) fun cdv A outer s H E hr F =>
    (s_seq (s_set F.nd rfl (.inl rfl) (s_call F c__law_roll hr (by decide) rfl (s_cons (s_var rfl (.inl rfl) rfl rfl) (s_cons s_int s_nil rfl) rfl) rfl rfl rfl) rfl (.inl rfl))
    (s_seq (s_if (s_tcmp (so_lt) (s_var rfl (.inl rfl) rfl rfl) s_int rfl) (s_last (s_set F.nd rfl (.inl rfl) (s_call F c__law_pick hr (by decide) rfl (s_cons (s_var rfl (.inl rfl) rfl rfl) (s_cons (s_lst (s_cons s_int (s_cons s_int (s_cons s_int (s_cons s_int (s_cons s_int (s_cons s_int (s_cons s_int s_nil rfl) rfl) rfl) rfl) rfl) rfl) rfl)) s_nil rfl) rfl) rfl rfl rfl) rfl (.inl rfl))) (s_last (s_if (s_tcmp (so_eq F) (s_var rfl (.inl rfl) rfl rfl) s_int rfl) (s_last (s_set F.nd rfl (.inl rfl) (s_call F c__law_roll hr (by decide) rfl (s_cons (s_var rfl (.inl rfl) rfl rfl) (s_cons (s_binop (so_pow) s_int s_int) s_nil rfl) rfl) rfl rfl rfl) rfl (.inl rfl))) (s_last (s_set F.nd rfl (.inl rfl) (s_binop (so_sub) (s_callTy (sc_int) rfl b_int (by decide +kernel) (s_cons (s_binop (so_add F) s_str (s_binop (so_mul F) s_str (s_call F c__law_roll hr (by decide) rfl (s_cons (s_var rfl (.inl rfl) rfl rfl) (s_cons (s_var rfl (.inl rfl) rfl rfl) s_nil rfl) rfl) rfl rfl rfl))) s_nil rfl) (by decide) rfl rfl rfl) (s_call F c__law_pick hr (by decide) rfl (s_cons (s_var rfl (.inl rfl) rfl rfl) (s_cons (s_lst (s_cons s_int (s_cons s_int (s_cons s_int s_nil rfl) rfl) rfl)) s_nil rfl) rfl) rfl rfl rfl)) rfl (.inl rfl))))))
    (s_last (s_ret (s_ifExp (s_tcmp (so_gt) (s_call F c__law_roll hr (by decide) rfl (s_cons (s_var rfl (.inl rfl) rfl rfl) (s_cons s_int s_nil rfl) rfl) rfl rfl rfl) s_int rfl) (s_var rfl (.inl rfl) rfl rfl) (s_binop (so_sub) s_int (s_var rfl (.inl rfl) rfl rfl)))))))
abbrev t__law_fr_drawn : Stmt := topS 29
theorem sc__law_fr_drawn : FnScope ["dice", "most", "bottom"] ["dice", "most"] (defScope t__law_fr_drawn) := ⟨rfl, rfl, rfl, by decide +kernel, rfl, by decide +kernel, by decide +kernel⟩
noncomputable def b__law_fr_drawn : SM := (mSeq (mAsg (mFn 2 m__law_fr_number (mCons (mVar 0) (mCons (mVar 1) mNil))) (gVar 2))
    (mRet (mFn 2 m__law_fr_least (mCons (mFn 2 m__law_fr_number (mCons (mVar 0) (mCons (mVar 1) mNil))) (mCons (mCall opMax (mCons (mC (.int 1)) (mCons (mVar 2) (mCons (mOp1 opNeg (mVar 2)) mNil)))) mNil)))))
noncomputable def m__law_fr_drawn : List W → M W := runDef 3 b__law_fr_drawn
theorem ok__law_fr_drawn {P : Program} {w : World} {mg : Str → Option Value} {base : Heap} {T : Tb} (D : Def T.K mg "_law_fr_drawn" t__law_fr_drawn (T.fa 19)) (b_max : mg "max" = none) (c__law_fr_number : FK P w mg base T 3 "_law_fr_number" 18 2 m__law_fr_number) (c__law_fr_least : FK P w mg base T 2 "_law_fr_least" 17 2 m__law_fr_least) : FK P w mg base T 4 "_law_fr_drawn" 19 2 m__law_fr_drawn :=
  D.fk (k := 3) sc__law_fr_drawn rfl (fun _ _ _ _ _ _ us hl => match us, hl with | [_, _], _ => rfl) fun cdv A outer s H E hr F =>
    (s_seq (s_set F.nd rfl (.inl rfl) (s_call F c__law_fr_number hr (by decide) rfl (s_cons (s_var rfl (.inl rfl) rfl rfl) (s_cons (s_var rfl (.inl rfl) rfl rfl) s_nil rfl) rfl) rfl rfl rfl) rfl (.inl rfl))
    (s_last (s_ret (s_call F c__law_fr_least hr (by decide) rfl (s_cons (s_call F c__law_fr_number hr (by decide) rfl (s_cons (s_var rfl (.inl rfl) rfl rfl) (s_cons (s_var rfl (.inl rfl) rfl rfl) s_nil rfl) rfl) rfl rfl rfl) (s_cons (s_callB (sc_max F) rfl b_max (by decide +kernel) (s_cons s_int (s_cons (s_var rfl (.inl rfl) rfl rfl) (s_cons (s_unop so_neg (s_var rfl (.inl rfl) rfl rfl)) s_nil rfl) rfl) rfl) (by decide) rfl rfl rfl) s_nil rfl) rfl) rfl rfl rfl))))
abbrev t__law_is_right : Stmt := topS 30
theorem sc__law_is_right : FnScope ["dice", "top", "bottom", "one", "other", "due", "told", "times", "found", "turn", "near", "value", "is_due"] ["dice"] (defScope t__law_is_right) := ⟨rfl, rfl, rfl, by decide +kernel, rfl, by decide +kernel, by decide +kernel⟩
noncomputable def b__law_is_right : SM := (mSeq (mPar 1 2 (mCons (mFn 2 m__law_fr_number (mCons (mVar 0) (mCons (mC (.int 99)) mNil))) (mCons (mFn 2 m__law_fr_number (mCons (mVar 0) (mCons (mC (.int 99)) mNil))) mNil)))
    (mSeq (mAsg (mCall opMax (mCons (mC (.int 1)) (mCons (mVar 2) (mCons (mOp1 opNeg (mVar 2)) mNil)))) (gVar 2))
    (mSeq (mPar 3 4 (mCons (mFn 2 m__law_fr_drawn (mCons (mVar 0) (mCons (mC (.int 99)) mNil))) (mCons (mFn 2 m__law_fr_drawn (mCons (mVar 0) (mCons (mC (.int 99)) mNil))) mNil)))
    (mSeq (mAsg (mLst (mCons (mFn 2 m__law_fr_least (mCons (mVar 1) (mCons (mVar 2) mNil))) (mCons (mFn 2 m__law_fr_least (mCons (mOp2 opAdd (mOp2 opMul (mOp2 opIx (mVar 3) (mC (.int 0))) (mOp2 opIx (mVar 4) (mC (.int 1)))) (mOp2 opMul (mOp2 opIx (mVar 4) (mC (.int 0))) (mOp2 opIx (mVar 3) (mC (.int 1))))) (mCons (mOp2 opMul (mOp2 opIx (mVar 3) (mC (.int 1))) (mOp2 opIx (mVar 4) (mC (.int 1)))) mNil))) mNil))) (gVar 5))
    (mSeq (mAsg (mOp2 opAdd (mVar 5) (mLst (mCons (mFn 2 m__law_fr_least (mCons (mOp2 opMul (mOp2 opIx (mVar 3) (mC (.int 0))) (mOp2 opIx (mVar 4) (mC (.int 0)))) (mCons (mOp2 opMul (mOp2 opIx (mVar 3) (mC (.int 1))) (mOp2 opIx (mVar 4) (mC (.int 1)))) mNil))) (mCons (mFn 2 m__law_fr_least (mCons (mOp2 opSub (mOp2 opIx (mVar 3) (mC (.int 1))) (mOp2 opIx (mVar 3) (mC (.int 0)))) (mCons (mOp2 opIx (mVar 3) (mC (.int 1))) mNil))) mNil)))) (gVar 5))
    (mSeq (mAsg (mLst (mCons (mFn 2 m_fraction (mCons (mVar 1) (mCons (mVar 2) mNil))) (mCons (mFn 2 m_added (mCons (mVar 3) (mCons (mVar 4) mNil))) (mCons (mFn 2 m_multiplied (mCons (mVar 3) (mCons (mVar 4) mNil))) (mCons (mFn 1 m_rest (mCons (mVar 3) mNil)) mNil))))) (gVar 6))
    (mSeq (mIfS (mBool (mOp2 opNe (mCall opRepr (mCons (mVar 6) mNil)) (mCall opRepr (mCons (mVar 5) mNil)))) (mRet (mC (.bl false))) mSkip)
    (mSeq (mPar 7 8 (mCons (mFn 2 m__law_roll (mCons (mVar 0) (mCons (mC (.int 6)) mNil))) (mCons (mTup (mCons (mC (.int 1)) (mCons (mC (.int 1)) mNil))) mNil)))
    (mSeq (mFor (mRng1 (mCons (mVar 7) mNil)) (gVar 9) (mAsg (mFn 2 m__law_fr_least (mCons (mOp2 opMul (mOp2 opIx (mVar 8) (mC (.int 0))) (mOp2 opIx (mVar 4) (mC (.int 0)))) (mCons (mOp2 opMul (mOp2 opIx (mVar 8) (mC (.int 1))) (mOp2 opIx (mVar 4) (mC (.int 1)))) mNil))) (gVar 8)))
    (mSeq (mIfS (mBool (mOp2 opNe (mCall opRepr (mCons (mFn 2 m_power (mCons (mVar 4) (mCons (mVar 7) mNil))) mNil)) (mCall opRepr (mCons (mVar 8) mNil)))) (mRet (mC (.bl false))) mSkip)
    (mSeq (mAsg (mLst (mCons (mTup (mCons (mVar 3) (mCons (mC (.bl true)) mNil))) (mCons (mTup (mCons (mCall opList (mCons (mVar 3) mNil)) (mCons (mC (.bl false)) mNil))) (mCons (mTup (mCons (mOp2 opAdd (mVar 3) (mTup (mCons (mC (.int 1)) mNil))) (mCons (mC (.bl false)) mNil))) (mCons (mTup (mCons (mSl (mVar 3) mNoPart (mPart (mC (.int 1)))) (mCons (mC (.bl false)) mNil))) (mCons (mTup (mCons (mTup (mCons (mOp2 opMul (mOp2 opIx (mVar 3) (mC (.int 0))) (mC (.int 2))) (mCons (mOp2 opMul (mOp2 opIx (mVar 3) (mC (.int 1))) (mC (.int 2))) mNil))) (mCons (mC (.bl false)) mNil))) mNil)))))) (gVar 10))
    (mSeq (mAsg (mOp2 opAdd (mVar 10) (mLst (mCons (mTup (mCons (mTup (mCons (mOp2 opIx (mVar 3) (mC (.int 0))) (mCons (mOp2 opSub (mC (.int 0)) (mOp2 opIx (mVar 3) (mC (.int 1)))) mNil))) (mCons (mC (.bl false)) mNil))) (mCons (mTup (mCons (mTup (mCons (mOp2 opIx (mVar 3) (mC (.int 0))) (mCons (mC (.int 0)) mNil))) (mCons (mC (.bl false)) mNil))) (mCons (mTup (mCons (mTup (mCons (mC (.bl true)) (mCons (mC (.int 1)) mNil))) (mCons (mC (.bl false)) mNil))) (mCons (mTup (mCons (mTup (mCons (mC (.int 0)) (mCons (mC (.bl true)) mNil))) (mCons (mC (.bl false)) mNil))) mNil)))))) (gVar 10))
    (mSeq (mExp (mMeth opAppend (mVar 10) (mCons (mTup (mCons (mC .non) (mCons (mC (.bl false)) mNil))) mNil)))
    (mSeq (mAsg (mOp2 opAdd (mVar 10) (mLst (mCons (mTup (mCons (mTup (mCons (mC (.int 0)) (mCons (mC (.int 2)) mNil))) (mCons (mC (.bl false)) mNil))) (mCons (mTup (mCons (mTup (mCons (mC (.int 0)) (mCons (mC (.int 1)) mNil))) (mCons (mC (.bl true)) mNil))) (mCons (mTup (mCons (mTup (mCons (mOp2 opSub (mC (.int 0)) (mC (.int 1))) (mCons (mC (.int 1)) mNil))) (mCons (mC (.bl true)) mNil))) (mCons (mTup (mCons (mTup (mCons (mOp2 opMul (mOp2 opPow (mC (.int 10)) (mC (.int 60))) (mOp2 opPow (mC (.int 10)) (mC (.int 60)))) (mCons (mC (.int 1)) mNil))) (mCons (mC (.bl true)) mNil))) (mCons (mTup (mCons (mC (.int 0)) (mCons (mC (.bl false)) mNil))) mNil))))))) (gVar 10))
    (mSeq (mAsg (mOp2 opAdd (mVar 10) (mLst (mCons (mTup (mCons (mTup (mCons (mC (.str (Str.ofString "1"))) (mCons (mC (.int 2)) mNil))) (mCons (mC (.bl false)) mNil))) (mCons (mTup (mCons (mTup mNil) (mCons (mC (.bl false)) mNil))) (mCons (mTup (mCons (mDct (mPCons (mC (.int 1)) (mC (.int 2)) mPNil)) (mCons (mC (.bl false)) mNil))) (mCons (mTup (mCons (mTup (mCons (mC (.int 1)) (mCons (mOp2 opMul (mOp2 opMul (mOp2 opPow (mC (.int 10)) (mC (.int 60))) (mOp2 opPow (mC (.int 10)) (mC (.int 60)))) (mOp2 opPow (mC (.int 10)) (mC (.int 10)))) mNil))) (mCons (mC (.bl true)) mNil))) mNil)))))) (gVar 10))
    (mRet (mOp2 opEq (mComp [11, 12] (mSeqI (mVar 10)) (gTup_ 2 (gCons_ (gVar 11) (gCons_ (gVar 12) gNil_))) (mBool (mOp2 opNe (mCall opRepr (mCons (mFn 1 m_is_fraction (mCons (mVar 11) mNil)) mNil)) (mCall opRepr (mCons (mVar 12) mNil)))) (mC (.int 1))) (mLst mNil))))))))))))))))))
noncomputable def m__law_is_right : List W → M W := runDef 13 b__law_is_right
theorem ok__law_is_right {P : Program} {w : World} {mg : Str → Option Value} {base : Heap} {T : Tb} (D : Def T.K mg "_law_is_right" t__law_is_right (T.fa 20)) (b_max : mg "max" = none) (b_repr : mg "repr" = none) (b_range : mg "range" = none) (b_list : mg "list" = none) (c__law_fr_number : FK P w mg base T 3 "_law_fr_number" 18 2 m__law_fr_number) (c__law_fr_drawn : FK P w mg base T 4 "_law_fr_drawn" 19 2 m__law_fr_drawn) (c__law_fr_least : FK P w mg base T 2 "_law_fr_least" 17 2 m__law_fr_least) (c_rest : FK P w mg base T 4 "rest" 12 1 m_rest) (c_multiplied : FK P w mg base T 4 "multiplied" 10 2 m_multiplied) (c_added : FK P w mg base T 4 "added" 9 2 m_added) (c_fraction : FK P w mg base T 3 "fraction" 8 2 m_fraction) (c__law_roll : FK P w mg base T 1 "_law_roll" 14 2 m__law_roll) (c_power : FK P w mg base T 4 "power" 11 2 m_power) (c_is_fraction : FK P w mg base T 2 "is_fraction" 3 1 m_is_fraction) : FK P w mg base T 5 "_law_is_right" 20 1 m__law_is_right :=
  D.fk (k := 4) sc__law_is_right rfl (fun _ _ _ _ _ _ us hl => match us, hl with | [_], _ => rfl) fun cdv A outer s H E hr F =>
    (s_seq (s_par F rfl rfl (by decide) rfl rfl (s_cons (s_call F c__law_fr_number hr (by decide) rfl (s_cons (s_var rfl (.inl rfl) rfl rfl) (s_cons s_int s_nil rfl) rfl) rfl rfl rfl) (s_cons (s_call F c__law_fr_number hr (by decide) rfl (s_cons (s_var rfl (.inl rfl) rfl rfl) (s_cons s_int s_nil rfl) rfl) rfl rfl rfl) s_nil rfl) rfl) (by rfl) rfl)
    (s_seq (s_set F.nd rfl (.inl rfl) (s_callB (sc_max F) rfl b_max (by decide +kernel) (s_cons s_int (s_cons (s_var rfl (.inl rfl) rfl rfl) (s_cons (s_unop so_neg (s_var rfl (.inl rfl) rfl rfl)) s_nil rfl) rfl) rfl) (by decide) rfl rfl rfl) rfl (.inl rfl))
    (s_seq (s_par F rfl rfl (by decide) rfl rfl (s_cons (s_call F c__law_fr_drawn hr (by decide) rfl (s_cons (s_var rfl (.inl rfl) rfl rfl) (s_cons s_int s_nil rfl) rfl) rfl rfl rfl) (s_cons (s_call F c__law_fr_drawn hr (by decide) rfl (s_cons (s_var rfl (.inl rfl) rfl rfl) (s_cons s_int s_nil rfl) rfl) rfl rfl rfl) s_nil rfl) rfl) (by rfl) rfl)
    (s_seq (s_set F.nd rfl (.inl rfl) (s_lst (s_cons (s_call F c__law_fr_least hr (by decide) rfl (s_cons (s_var rfl (.inl rfl) rfl rfl) (s_cons (s_var rfl (.inl rfl) rfl rfl) s_nil rfl) rfl) rfl rfl rfl) (s_cons (s_call F c__law_fr_least hr (by decide) rfl (s_cons (s_binop (so_add F) (s_binop (so_mul F) (s_sub F (s_var rfl (.inl rfl) rfl rfl) s_int (fun _ _ => rfl)) (s_sub F (s_var rfl (.inl rfl) rfl rfl) s_int (fun _ _ => rfl))) (s_binop (so_mul F) (s_sub F (s_var rfl (.inl rfl) rfl rfl) s_int (fun _ _ => rfl)) (s_sub F (s_var rfl (.inl rfl) rfl rfl) s_int (fun _ _ => rfl)))) (s_cons (s_binop (so_mul F) (s_sub F (s_var rfl (.inl rfl) rfl rfl) s_int (fun _ _ => rfl)) (s_sub F (s_var rfl (.inl rfl) rfl rfl) s_int (fun _ _ => rfl))) s_nil rfl) rfl) rfl rfl rfl) s_nil rfl) rfl)) rfl (.inl rfl))
    (s_seq (s_set F.nd rfl (.inl rfl) (s_binop (so_add F) (s_var rfl (.inl rfl) rfl rfl) (s_lst (s_cons (s_call F c__law_fr_least hr (by decide) rfl (s_cons (s_binop (so_mul F) (s_sub F (s_var rfl (.inl rfl) rfl rfl) s_int (fun _ _ => rfl)) (s_sub F (s_var rfl (.inl rfl) rfl rfl) s_int (fun _ _ => rfl))) (s_cons (s_binop (so_mul F) (s_sub F (s_var rfl (.inl rfl) rfl rfl) s_int (fun _ _ => rfl)) (s_sub F (s_var rfl (.inl rfl) rfl rfl) s_int (fun _ _ => rfl))) s_nil rfl) rfl) rfl rfl rfl) (s_cons (s_call F c__law_fr_least hr (by decide) rfl (s_cons (s_binop (so_sub) (s_sub F (s_var rfl (.inl rfl) rfl rfl) s_int (fun _ _ => rfl)) (s_sub F (s_var rfl (.inl rfl) rfl rfl) s_int (fun _ _ => rfl))) (s_cons (s_sub F (s_var rfl (.inl rfl) rfl rfl) s_int (fun _ _ => rfl)) s_nil rfl) rfl) rfl rfl rfl) s_nil rfl) rfl))) rfl (.inl rfl))
    (s_seq (s_set F.nd rfl (.inl rfl) (s_lst (s_cons (s_call F c_fraction hr (by decide) rfl (s_cons (s_var rfl (.inl rfl) rfl rfl) (s_cons (s_var rfl (.inl rfl) rfl rfl) s_nil rfl) rfl) rfl rfl rfl) (s_cons (s_call F c_added hr (by decide) rfl (s_cons (s_var rfl (.inl rfl) rfl rfl) (s_cons (s_var rfl (.inl rfl) rfl rfl) s_nil rfl) rfl) rfl rfl rfl) (s_cons (s_call F c_multiplied hr (by decide) rfl (s_cons (s_var rfl (.inl rfl) rfl rfl) (s_cons (s_var rfl (.inl rfl) rfl rfl) s_nil rfl) rfl) rfl rfl rfl) (s_cons (s_call F c_rest hr (by decide) rfl (s_cons (s_var rfl (.inl rfl) rfl rfl) s_nil rfl) rfl rfl rfl) s_nil rfl) rfl) rfl) rfl)) rfl (.inl rfl))
    (s_seq (s_if (s_tcmp (so_ne F) (s_callB (sc_repr F) rfl b_repr (by decide +kernel) (s_cons (s_var rfl (.inl rfl) rfl rfl) s_nil rfl) (by decide) rfl rfl rfl) (s_callB (sc_repr F) rfl b_repr (by decide +kernel) (s_cons (s_var rfl (.inl rfl) rfl rfl) s_nil rfl) (by decide) rfl rfl rfl) rfl) (s_last (s_ret s_bl)) s_skip)
    (s_seq (s_par F rfl rfl (by decide) rfl rfl (s_cons (s_call F c__law_roll hr (by decide) rfl (s_cons (s_var rfl (.inl rfl) rfl rfl) (s_cons s_int s_nil rfl) rfl) rfl rfl rfl) (s_cons (s_tup (s_cons s_int (s_cons s_int s_nil rfl) rfl)) s_nil rfl) rfl) (by rfl) rfl)
    (s_seq (s_for F PassesOwn.never (s_rng1 rfl b_range (s_cons (s_var rfl (.inl rfl) rfl rfl) s_nil rfl) rfl) (s_gname F.nd rfl (.inl rfl) (.inl rfl)) (s_last (s_set F.nd rfl (.inl rfl) (s_call F c__law_fr_least hr (by decide) rfl (s_cons (s_binop (so_mul F) (s_sub F (s_var rfl (.inl rfl) rfl rfl) s_int (fun _ _ => rfl)) (s_sub F (s_var rfl (.inl rfl) rfl rfl) s_int (fun _ _ => rfl))) (s_cons (s_binop (so_mul F) (s_sub F (s_var rfl (.inl rfl) rfl rfl) s_int (fun _ _ => rfl)) (s_sub F (s_var rfl (.inl rfl) rfl rfl) s_int (fun _ _ => rfl))) s_nil rfl) rfl) rfl rfl rfl) rfl (.inl rfl))) (fun _ => rfl))
    (s_seq (s_if (s_tcmp (so_ne F) (s_callB (sc_repr F) rfl b_repr (by decide +kernel) (s_cons (s_call F c_power hr (by decide) rfl (s_cons (s_var rfl (.inl rfl) rfl rfl) (s_cons (s_var rfl (.inl rfl) rfl rfl) s_nil rfl) rfl) rfl rfl rfl) s_nil rfl) (by decide) rfl rfl rfl) (s_callB (sc_repr F) rfl b_repr (by decide +kernel) (s_cons (s_var rfl (.inl rfl) rfl rfl) s_nil rfl) (by decide) rfl rfl rfl) rfl) (s_last (s_ret s_bl)) s_skip)
    (s_seq (s_set F.nd rfl (.inl rfl) (s_lst (s_cons (s_tup (s_cons (s_var rfl (.inl rfl) rfl rfl) (s_cons s_bl s_nil rfl) rfl)) (s_cons (s_tup (s_cons (s_callTy (sc_list F) rfl b_list (by decide +kernel) (s_cons (s_var rfl (.inl rfl) rfl rfl) s_nil rfl) (by decide) rfl rfl rfl) (s_cons s_bl s_nil rfl) rfl)) (s_cons (s_tup (s_cons (s_binop (so_add F) (s_var rfl (.inl rfl) rfl rfl) (s_tup (s_cons s_int s_nil rfl))) (s_cons s_bl s_nil rfl) rfl)) (s_cons (s_tup (s_cons (s_slice F (s_var rfl (.inl rfl) rfl rfl) s_noPart (s_part s_int)) (s_cons s_bl s_nil rfl) rfl)) (s_cons (s_tup (s_cons (s_tup (s_cons (s_binop (so_mul F) (s_sub F (s_var rfl (.inl rfl) rfl rfl) s_int (fun _ _ => rfl)) s_int) (s_cons (s_binop (so_mul F) (s_sub F (s_var rfl (.inl rfl) rfl rfl) s_int (fun _ _ => rfl)) s_int) s_nil rfl) rfl)) (s_cons s_bl s_nil rfl) rfl)) s_nil rfl) rfl) rfl) rfl) rfl)) rfl (.inl rfl))
    (s_seq (s_set F.nd rfl (.inl rfl) (s_binop (so_add F) (s_var rfl (.inl rfl) rfl rfl) (s_lst (s_cons (s_tup (s_cons (s_tup (s_cons (s_sub F (s_var rfl (.inl rfl) rfl rfl) s_int (fun _ _ => rfl)) (s_cons (s_binop (so_sub) s_int (s_sub F (s_var rfl (.inl rfl) rfl rfl) s_int (fun _ _ => rfl))) s_nil rfl) rfl)) (s_cons s_bl s_nil rfl) rfl)) (s_cons (s_tup (s_cons (s_tup (s_cons (s_sub F (s_var rfl (.inl rfl) rfl rfl) s_int (fun _ _ => rfl)) (s_cons s_int s_nil rfl) rfl)) (s_cons s_bl s_nil rfl) rfl)) (s_cons (s_tup (s_cons (s_tup (s_cons s_bl (s_cons s_int s_nil rfl) rfl)) (s_cons s_bl s_nil rfl) rfl)) (s_cons (s_tup (s_cons (s_tup (s_cons s_int (s_cons s_bl s_nil rfl) rfl)) (s_cons s_bl s_nil rfl) rfl)) s_nil rfl) rfl) rfl) rfl))) rfl (.inl rfl))
    (s_seq (s_expr (s_meth F PySem.F.slot_list_append PySem.F.type_list_append mt_app (s_var rfl (.inl rfl) rfl rfl) (s_cons (s_tup (s_cons s_non (s_cons s_bl s_nil rfl) rfl)) s_nil rfl) rfl rfl rfl rfl rfl) rfl)
    (s_seq (s_set F.nd rfl (.inl rfl) (s_binop (so_add F) (s_var rfl (.inl rfl) rfl rfl) (s_lst (s_cons (s_tup (s_cons (s_tup (s_cons s_int (s_cons s_int s_nil rfl) rfl)) (s_cons s_bl s_nil rfl) rfl)) (s_cons (s_tup (s_cons (s_tup (s_cons s_int (s_cons s_int s_nil rfl) rfl)) (s_cons s_bl s_nil rfl) rfl)) (s_cons (s_tup (s_cons (s_tup (s_cons (s_binop (so_sub) s_int s_int) (s_cons s_int s_nil rfl) rfl)) (s_cons s_bl s_nil rfl) rfl)) (s_cons (s_tup (s_cons (s_tup (s_cons (s_binop (so_mul F) (s_binop (so_pow) s_int s_int) (s_binop (so_pow) s_int s_int)) (s_cons s_int s_nil rfl) rfl)) (s_cons s_bl s_nil rfl) rfl)) (s_cons (s_tup (s_cons s_int (s_cons s_bl s_nil rfl) rfl)) s_nil rfl) rfl) rfl) rfl) rfl))) rfl (.inl rfl))
    (s_seq (s_set F.nd rfl (.inl rfl) (s_binop (so_add F) (s_var rfl (.inl rfl) rfl rfl) (s_lst (s_cons (s_tup (s_cons (s_tup (s_cons s_str (s_cons s_int s_nil rfl) rfl)) (s_cons s_bl s_nil rfl) rfl)) (s_cons (s_tup (s_cons (s_tup s_nil) (s_cons s_bl s_nil rfl) rfl)) (s_cons (s_tup (s_cons (s_dct (s_pcons s_int s_int s_pnil) rfl rfl (by simp) (by decide)) (s_cons s_bl s_nil rfl) rfl)) (s_cons (s_tup (s_cons (s_tup (s_cons s_int (s_cons (s_binop (so_mul F) (s_binop (so_mul F) (s_binop (so_pow) s_int s_int) (s_binop (so_pow) s_int s_int)) (s_binop (so_pow) s_int s_int)) s_nil rfl) rfl)) (s_cons s_bl s_nil rfl) rfl)) s_nil rfl) rfl) rfl) rfl))) rfl (.inl rfl))
    (s_last (s_ret (s_cmp (so_eq F) (s_comp (own := [("value", 11), ("is_due", 12)]) F (s_seqI F (s_var rfl (.inl rfl) rfl rfl)) (by with_unfolding_all rfl) (by decide) (fun _ _ _ _ _ => (s_gtup F.blk (s_gcons (s_gname F.blk.nd rfl (.inl rfl) (.inr rfl)) (s_gcons (s_gname F.blk.nd rfl (.inl rfl) (.inr rfl)) s_gnil rfl) rfl) rfl rfl)) (fun _ _ _ _ _ => (s_ifs1 (s_tcmp (so_ne F.blk) (s_callB (sc_repr F.blk) rfl b_repr (by decide +kernel) (s_cons (s_call F.blk c_is_fraction hr (by decide) rfl (s_cons (s_var rfl (.inl rfl) rfl rfl) s_nil rfl) rfl rfl rfl) s_nil rfl) (by decide) rfl rfl rfl) (s_callB (sc_repr F.blk) rfl b_repr (by decide +kernel) (s_cons (s_var rfl (.inl rfl) rfl rfl) s_nil rfl) (by decide) rfl rfl rfl) rfl))) (fun _ _ _ _ _ => s_int) (fun _ => rfl)) (s_lst s_nil) rfl))))))))))))))))))
abbrev t_law : Stmt := topS 31
theorem sc_law : FnScope ["script", "spot", "dice", "turn", "times", "found", "small", "told"] ["script"] (defScope t_law) := ⟨rfl, rfl, rfl, by decide +kernel, rfl, by decide +kernel, by decide +kernel⟩
noncomputable def b_law : SM := (mSeq (mFor (mRng1 (mCons (mCall opMax (mCons (mC (.int 1)) (mCons (mCall opMin (mCons (mC (.int 4)) (mCons (mCall opLen (mCons (mVar 0) mNil)) mNil))) mNil))) mNil)) (gVar 1) (mSeq (mAsg (mFn 2 m__law_dice (mCons (mVar 0) (mCons (mVar 1) mNil))) (gVar 2))
    (mSeq (mFor (mRng1 (mCons (mC (.int 3)) mNil)) (gVar 3) (mIfS (mNotT (mTru (mFn 1 m__law_is_right (mCons (mVar 2) mNil)))) (mRet (mC (.bl false))) mSkip))
    (mSeq (mPar 4 5 (mCons (mOp2 opAdd (mC (.int 1)) (mFn 2 m__law_roll (mCons (mVar 2) (mCons (mC (.int 1000)) mNil)))) (mCons (mTup (mCons (mC (.int 1)) (mCons (mC (.int 1)) mNil))) mNil)))
    (mSeq (mAsg (mFn 2 m__law_fr_least (mCons (mOp2 opSub (mFn 2 m__law_roll (mCons (mVar 2) (mCons (mC (.int 9)) mNil))) (mC (.int 4))) (mCons (mOp2 opAdd (mC (.int 1)) (mFn 2 m__law_roll (mCons (mVar 2) (mCons (mC (.int 9)) mNil)))) mNil))) (gVar 6))
    (mSeq (mFor (mRng1 (mCons (mVar 4) mNil)) (gVar 3) (mAsg (mTup (mCons (mOp2 opMul (mOp2 opIx (mVar 5) (mC (.int 0))) (mOp2 opIx (mVar 6) (mC (.int 0)))) (mCons (mOp2 opMul (mOp2 opIx (mVar 5) (mC (.int 1))) (mOp2 opIx (mVar 6) (mC (.int 1)))) mNil))) (gVar 5)))
    (mIfS (mBool (mOp2 opNe (mFn 2 m_power (mCons (mVar 6) (mCons (mVar 4) mNil))) (mFn 2 m__law_fr_least (mCons (mOp2 opIx (mVar 5) (mC (.int 0))) (mCons (mOp2 opIx (mVar 5) (mC (.int 1))) mNil))))) (mRet (mC (.bl false))) mSkip)))))))
    (mSeq (mAsg (mLst (mCons (mFn 2 m_fraction (mCons (mC (.int 0)) (mCons (mC (.int 7)) mNil))) (mCons (mFn 2 m_fraction (mCons (mOp1 opNeg (mC (.int 6))) (mCons (mC (.int 4)) mNil))) (mCons (mFn 2 m_fraction (mCons (mC (.int 6)) (mCons (mC (.int 3)) mNil))) (mCons (mFn 1 m_rest (mCons (mTup (mCons (mC (.int 1)) (mCons (mC (.int 1)) mNil))) mNil)) (mCons (mFn 1 m_rest (mCons (mTup (mCons (mC (.int 0)) (mCons (mC (.int 1)) mNil))) mNil)) mNil)))))) (gVar 7))
    (mSeq (mAsg (mOp2 opAdd (mVar 7) (mLst (mCons (mFn 2 m_power (mCons (mTup (mCons (mC (.int 0)) (mCons (mC (.int 1)) mNil))) (mCons (mC (.int 0)) mNil))) (mCons (mFn 2 m_power (mCons (mTup (mCons (mOp1 opNeg (mC (.int 1))) (mCons (mC (.int 2)) mNil))) (mCons (mC (.int 3)) mNil))) mNil)))) (gVar 7))
    (mRet (mAndV (mOp2 opEq (mVar 7) (mLst (mCons (mTup (mCons (mC (.int 0)) (mCons (mC (.int 1)) mNil))) (mCons (mTup (mCons (mOp1 opNeg (mC (.int 3))) (mCons (mC (.int 2)) mNil))) (mCons (mTup (mCons (mC (.int 2)) (mCons (mC (.int 1)) mNil))) (mCons (mTup (mCons (mC (.int 0)) (mCons (mC (.int 1)) mNil))) (mCons (mTup (mCons (mC (.int 1)) (mCons (mC (.int 1)) mNil))) (mCons (mTup (mCons (mC (.int 1)) (mCons (mC (.int 1)) mNil))) (mCons (mTup (mCons (mOp1 opNeg (mC (.int 1))) (mCons (mC (.int 8)) mNil))) mNil))))))))) (mOp2 opEq (mFn 2 m_added (mCons (mTup (mCons (mC (.int 1)) (mCons (mC (.int 2)) mNil))) (mCons (mTup (mCons (mOp1 opNeg (mC (.int 1))) (mCons (mC (.int 2)) mNil))) mNil))) (mTup (mCons (mC (.int 0)) (mCons (mC (.int 1)) mNil)))))))))
noncomputable def m_law : List W → M W := runDef 8 b_law
theorem ok_law {P : Program} {w : World} {mg : Str → Option Value} {base : Heap} {T : Tb} (D : Def T.K mg "law" t_law (T.fa 21)) (b_range : mg "range" = none) (b_max : mg "max" = none) (b_min : mg "min" = none) (b_len : mg "len" = none) (c__law_dice : FK P w mg base T 1 "_law_dice" 13 2 m__law_dice) (c__law_is_right : FK P w mg base T 5 "_law_is_right" 20 1 m__law_is_right) (c__law_roll : FK P w mg base T 1 "_law_roll" 14 2 m__law_roll) (c__law_fr_least : FK P w mg base T 2 "_law_fr_least" 17 2 m__law_fr_least) (c_power : FK P w mg base T 4 "power" 11 2 m_power) (c_rest : FK P w mg base T 4 "rest" 12 1 m_rest) (c_fraction : FK P w mg base T 3 "fraction" 8 2 m_fraction) (c_added : FK P w mg base T 4 "added" 9 2 m_added) : FK P w mg base T 6 "law" 21 1 m_law :=
  D.fk (k := 5) sc_law rfl (fun _ _ _ _ _ _ us hl => match us, hl with | [_], _ => rfl) fun cdv A outer s H E hr F =>
    (s_seq (s_for F PassesOwn.never (s_rng1 rfl b_range (s_cons (s_callB (sc_max F) rfl b_max (by decide +kernel) (s_cons s_int (s_cons (s_callB (sc_min F) rfl b_min (by decide +kernel) (s_cons s_int (s_cons (s_callB (sc_len F) rfl b_len (by decide +kernel) (s_cons (s_var rfl (.inl rfl) rfl rfl) s_nil rfl) (by decide) rfl rfl rfl) s_nil rfl) rfl) (by decide) rfl rfl rfl) s_nil rfl) rfl) (by decide) rfl rfl rfl) s_nil rfl) rfl) (s_gname F.nd rfl (.inl rfl) (.inl rfl)) (s_seq (s_set F.nd rfl (.inl rfl) (s_call F c__law_dice hr (by decide) rfl (s_cons (s_var rfl (.inl rfl) rfl rfl) (s_cons (s_var rfl (.inl rfl) rfl rfl) s_nil rfl) rfl) rfl rfl rfl) rfl (.inl rfl))
    (s_seq (s_for F PassesOwn.never (s_rng1 rfl b_range (s_cons s_int s_nil rfl) rfl) (s_gname F.nd rfl (.inl rfl) (.inl rfl)) (s_last (s_if (s_notT (s_truth F (s_call F c__law_is_right hr (by decide) rfl (s_cons (s_var rfl (.inl rfl) rfl rfl) s_nil rfl) rfl rfl rfl) (fun _ => rfl))) (s_last (s_ret s_bl)) s_skip)) (fun _ => rfl))
    (s_seq (s_par F rfl rfl (by decide) rfl rfl (s_cons (s_binop (so_add F) s_int (s_call F c__law_roll hr (by decide) rfl (s_cons (s_var rfl (.inl rfl) rfl rfl) (s_cons s_int s_nil rfl) rfl) rfl rfl rfl)) (s_cons (s_tup (s_cons s_int (s_cons s_int s_nil rfl) rfl)) s_nil rfl) rfl) (by rfl) rfl)
    (s_seq (s_set F.nd rfl (.inl rfl) (s_call F c__law_fr_least hr (by decide) rfl (s_cons (s_binop (so_sub) (s_call F c__law_roll hr (by decide) rfl (s_cons (s_var rfl (.inl rfl) rfl rfl) (s_cons s_int s_nil rfl) rfl) rfl rfl rfl) s_int) (s_cons (s_binop (so_add F) s_int (s_call F c__law_roll hr (by decide) rfl (s_cons (s_var rfl (.inl rfl) rfl rfl) (s_cons s_int s_nil rfl) rfl) rfl rfl rfl)) s_nil rfl) rfl) rfl rfl rfl) rfl (.inl rfl))
    (s_seq (s_for F PassesOwn.never (s_rng1 rfl b_range (s_cons (s_var rfl (.inl rfl) rfl rfl) s_nil rfl) rfl) (s_gname F.nd rfl (.inl rfl) (.inl rfl)) (s_last (s_set F.nd rfl (.inl rfl) (s_tup (s_cons (s_binop (so_mul F) (s_sub F (s_var rfl (.inl rfl) rfl rfl) s_int (fun _ _ => rfl)) (s_sub F (s_var rfl (.inl rfl) rfl rfl) s_int (fun _ _ => rfl))) (s_cons (s_binop (so_mul F) (s_sub F (s_var rfl (.inl rfl) rfl rfl) s_int (fun _ _ => rfl)) (s_sub F (s_var rfl (.inl rfl) rfl rfl) s_int (fun _ _ => rfl))) s_nil rfl) rfl)) rfl (.inl rfl))) (fun _ => rfl))
    (s_last (s_if (s_tcmp (so_ne F) (s_call F c_power hr (by decide) rfl (s_cons (s_var rfl (.inl rfl) rfl rfl) (s_cons (s_var rfl (.inl rfl) rfl rfl) s_nil rfl) rfl) rfl rfl rfl) (s_call F c__law_fr_least hr (by decide) rfl (s_cons (s_sub F (s_var rfl (.inl rfl) rfl rfl) s_int (fun _ _ => rfl)) (s_cons (s_sub F (s_var rfl (.inl rfl) rfl rfl) s_int (fun _ _ => rfl)) s_nil rfl) rfl) rfl rfl rfl) rfl) (s_last (s_ret s_bl)) s_skip))))))) (fun _ => rfl))
    (s_seq (s_set F.nd rfl (.inl rfl) (s_lst (s_cons (s_call F c_fraction hr (by decide) rfl (s_cons s_int (s_cons s_int s_nil rfl) rfl) rfl rfl rfl) (s_cons (s_call F c_fraction hr (by decide) rfl (s_cons (s_unop so_neg s_int) (s_cons s_int s_nil rfl) rfl) rfl rfl rfl) (s_cons (s_call F c_fraction hr (by decide) rfl (s_cons s_int (s_cons s_int s_nil rfl) rfl) rfl rfl rfl) (s_cons (s_call F c_rest hr (by decide) rfl (s_cons (s_tup (s_cons s_int (s_cons s_int s_nil rfl) rfl)) s_nil rfl) rfl rfl rfl) (s_cons (s_call F c_rest hr (by decide) rfl (s_cons (s_tup (s_cons s_int (s_cons s_int s_nil rfl) rfl)) s_nil rfl) rfl rfl rfl) s_nil rfl) rfl) rfl) rfl) rfl)) rfl (.inl rfl))
    (s_seq (s_set F.nd rfl (.inl rfl) (s_binop (so_add F) (s_var rfl (.inl rfl) rfl rfl) (s_lst (s_cons (s_call F c_power hr (by decide) rfl (s_cons (s_tup (s_cons s_int (s_cons s_int s_nil rfl) rfl)) (s_cons s_int s_nil rfl) rfl) rfl rfl rfl) (s_cons (s_call F c_power hr (by decide) rfl (s_cons (s_tup (s_cons (s_unop so_neg s_int) (s_cons s_int s_nil rfl) rfl)) (s_cons s_int s_nil rfl) rfl) rfl rfl rfl) s_nil rfl) rfl))) rfl (.inl rfl))
    (s_last (s_ret (s_andV F (s_cmp (so_eq F) (s_var rfl (.inl rfl) rfl rfl) (s_lst (s_cons (s_tup (s_cons s_int (s_cons s_int s_nil rfl) rfl)) (s_cons (s_tup (s_cons (s_unop so_neg s_int) (s_cons s_int s_nil rfl) rfl)) (s_cons (s_tup (s_cons s_int (s_cons s_int s_nil rfl) rfl)) (s_cons (s_tup (s_cons s_int (s_cons s_int s_nil rfl) rfl)) (s_cons (s_tup (s_cons s_int (s_cons s_int s_nil rfl) rfl)) (s_cons (s_tup (s_cons s_int (s_cons s_int s_nil rfl) rfl)) (s_cons (s_tup (s_cons (s_unop so_neg s_int) (s_cons s_int s_nil rfl) rfl)) s_nil rfl) rfl) rfl) rfl) rfl) rfl) rfl)) rfl) (s_one (s_cmp (so_eq F) (s_call F c_added hr (by decide) rfl (s_cons (s_tup (s_cons s_int (s_cons s_int s_nil rfl) rfl)) (s_cons (s_tup (s_cons (s_unop so_neg s_int) (s_cons s_int s_nil rfl) rfl)) s_nil rfl) rfl) rfl rfl rfl) (s_tup (s_cons s_int (s_cons s_int s_nil rfl) rfl)) rfl))))))))
end Lw
end

section
set_option Elab.async false
set_option linter.all false
set_option autoImplicit false
set_option maxRecDepth 100000
set_option maxHeartbeats 1000000
namespace Lw
open PySem PySem.Spec PyProof.Rows L2 MM

theorem maxI_abs (a : Int) : maxI a (-a) = (a.natAbs : Int) := by
  unfold maxI
  split <;> omega
theorem maxI_one {a : Int} (h : 0 < a) : maxI 1 a = a := by
  unfold maxI
  split <;> omega
theorem gcd_step {x y : Int} (hx : 0 ≤ x) (hy : 0 < y) : Int.gcd y (x % y) = Int.gcd x y := by
  obtain ⟨m, rfl⟩ := Int.eq_ofNat_of_zero_le hx
  obtain ⟨n, rfl⟩ := Int.eq_ofNat_of_zero_le (Int.le_of_lt hy)
  show Nat.gcd n (m % n) = Nat.gcd m n
  rw [Nat.gcd_comm m n, Nat.gcd_rec n m, Nat.gcd_comm]
/-- the loop of both divisors -/
theorem gcd_loop {c : TM} {b : SM} {N B C : MM.Loc → Sto → Prop} {R : W → Sto → Prop} {s : Sto}
    (hc : ∀ x y s (Q : Bool → Sto → Prop), Q (decide (0 < y)) s → Wp (c [some (.int x), some (.int y)] s) Q)
    (hb : ∀ x y s (N B C : MM.Loc → Sto → Prop) (R : W → Sto → Prop), 0 < y → N [some (.int y), some (.int (x % y))] s → SWp (b [some (.int x), some (.int y)] s) N R B C) :
    ∀ (k f : Nat) (x y : Int), 0 ≤ x → 0 ≤ y → y < 2 ^ k → 2 * k + 1 ≤ f → N [some (.int (Int.gcd x y)), some (.int 0)] s → SWp (whileM c b f [some (.int x), some (.int y)] s) N R B C := by
  have done : ∀ (f : Nat) (x y : Int), 0 ≤ x → y = 0 → 1 ≤ f → N [some (.int (Int.gcd x y)), some (.int 0)] s → SWp (whileM c b f [some (.int x), some (.int y)] s) N R B C := by
    intro f x y hx hy hf h
    subst hy
    obtain ⟨f, rfl⟩ : ∃ g, f = g + 1 := ⟨f - 1, by omega⟩
    refine sw_whileS.mpr (hc _ _ _ _ ?_)
    rw [if_neg (by simp)]
    rw [Int.gcd_zero_right] at h
    have e : ((x.natAbs : Nat) : Int) = x := by omega
    rw [e] at h
    exact h
  have step : ∀ (f : Nat) (x y : Int), 0 < y → SWp (whileM c b f [some (.int y), some (.int (x % y))] s) N R B C → SWp (whileM c b (f + 1) [some (.int x), some (.int y)] s) N R B C := by
    intro f x y hy h
    refine sw_whileS.mpr (hc _ _ _ _ ?_)
    rw [if_pos (by simpa using hy)]
    exact hb x y s _ _ _ _ hy h
  intro k
  induction k with
  | zero =>
    intro f x y hx hy h1 h2 h
    exact done f x y hx (by omega) (by omega) h
  | succ k ih =>
    intro f x y hx hy h1 h2 h
    by_cases y0 : y = 0
    · exact done f x y hx y0 (by omega) h
    · obtain ⟨f, rfl⟩ : ∃ g, f = g + 1 + 1 := ⟨f - 2, by omega⟩
      have yp : 0 < y := by omega
      have r0 : 0 ≤ x % y := Int.emod_nonneg _ y0
      have r1 : x % y < y := Int.emod_lt_of_pos _ yp
      have g1 : Int.gcd y (x % y) = Int.gcd x y := gcd_step hx yp
      refine step _ x y yp ?_
      by_cases rz : x % y = 0
      · exact done _ y (x % y) hy rz (by omega) (by rw [g1]; exact h)
      · have rp : 0 < x % y := by omega
        refine step _ y (x % y) rp ?_
        have q0 : 0 ≤ y % (x % y) := Int.emod_nonneg _ rz
        have q1 : y % (x % y) < x % y := Int.emod_lt_of_pos _ rp
        have q2 : y % (x % y) ≤ y - x % y := by
          have := Int.emod_add_mul_ediv y (x % y)
          have d : 1 ≤ y / (x % y) := (Int.le_ediv_iff_mul_le rp).mpr (by omega)
          have : x % y * 1 ≤ x % y * (y / (x % y)) := Int.mul_le_mul_of_nonneg_left d r0
          omega
        have e2 : (2 : Int) ^ (k + 1) = 2 ^ k + 2 ^ k := by rw [Int.pow_succ]; omega
        have g2 : Int.gcd (x % y) (y % (x % y)) = Int.gcd x y := (gcd_step hy rp).trans g1
        refine ih f (x % y) (y % (x % y)) r0 q0 (by omega) (by omega) (by rw [g2]; exact h)
theorem gcd_abs (a b : Int) : Int.gcd ((a.natAbs : Nat) : Int) ((b.natAbs : Nat) : Int) = Int.gcd a b := rfl
theorem divisor_wp {a b : Int} {st : Sto} (hb : b.natAbs < 2 ^ 9000) : Wp (m_divisor_of [.int a, .int b] st) fun w s => w = .int (Int.gcd a b) ∧ s = st := by
  unfold m_divisor_of b_divisor_of
  simp only [wp_ok, wp_then, wp_lift, wp_run, sw_seq, sw_skip, sw_break, sw_cont, sw_ret, sw_retN, sw_exp, sw_if, sw_asg, sw_par, sw_for, sw_while, wp_c, wp_var, wp_gvar, wp_op2, wp_op1, wp_bool, wp_tru, wp_and, wp_or, wp_notT, wp_if, wp_andV, wp_orV, wp_not, wp_nil, wp_cons, wp_tup, wp_lst, wp_call, wp_fn, wp_gnil, wp_gcons, wp_gtup, wp_gsub, wp_chain, wp_comp, wp_yes, wp_seqI, wp_rng1, wp_noPart, wp_part, wp_sl, wp_pnil, wp_pcons, ret_some, ret_mod, ret_fdiv, ret_mul, ret_pow, opSub_i, opAdd_i, opNeg_i, opLt_i, opLe_i, opGt_i, opGe_i, opMax_i, opMax_i3, opMin_i, opAbs_i, opInt_i, opInt_b, truW_bl, truW_int, Option.some.injEq, exists_eq_left', W.bl.injEq, W.int.injEq, W.tup.injEq, List.cons.injEq, and_true, true_and, List.length_cons, List.length_nil, Nat.reduceAdd, reduceCtorEq, false_and, or_false, false_or, exists_false, nth_0, nth_1, nth_2, nth_3, nth_4, nth_5, nth_6, nth_7, nth_8, nth_9, nth_10, nth_11, nth_12, nth_13, setL_0, setL_1, setL_2, setL_3, setL_4, setL_5, setL_6, setL_7, setL_8, setL_9, setL_10, setL_11, setL_12, setL_13, show initL 2 [W.int a, W.int b] = [some (.int a), some (.int b)] from rfl, exists_and_left, exists_eq_left, exists_eq_right, maxI_abs, and_assoc]
  refine gcd_loop (fun x y s Q h => ?_) (fun x y s N B C R hy h => ?_) 9000 lotN _ _ (by omega) (by omega) ?_ (by decide) ?_
  · simp only [wp_ok, wp_then, wp_lift, wp_run, sw_seq, sw_skip, sw_break, sw_cont, sw_ret, sw_retN, sw_exp, sw_if, sw_asg, sw_par, sw_for, sw_while, wp_c, wp_var, wp_gvar, wp_op2, wp_op1, wp_bool, wp_tru, wp_and, wp_or, wp_notT, wp_if, wp_andV, wp_orV, wp_not, wp_nil, wp_cons, wp_tup, wp_lst, wp_call, wp_fn, wp_gnil, wp_gcons, wp_gtup, wp_gsub, wp_chain, wp_comp, wp_yes, wp_seqI, wp_rng1, wp_noPart, wp_part, wp_sl, wp_pnil, wp_pcons, ret_some, ret_mod, ret_fdiv, ret_mul, ret_pow, opSub_i, opAdd_i, opNeg_i, opLt_i, opLe_i, opGt_i, opGe_i, opMax_i, opMax_i3, opMin_i, opAbs_i, opInt_i, opInt_b, truW_bl, truW_int, Option.some.injEq, exists_eq_left', W.bl.injEq, W.int.injEq, W.tup.injEq, List.cons.injEq, and_true, true_and, List.length_cons, List.length_nil, Nat.reduceAdd, reduceCtorEq, false_and, or_false, false_or, exists_false, nth_0, nth_1, nth_2, nth_3, nth_4, nth_5, nth_6, nth_7, nth_8, nth_9, nth_10, nth_11, nth_12, nth_13, setL_0, setL_1, setL_2, setL_3, setL_4, setL_5, setL_6, setL_7, setL_8, setL_9, setL_10, setL_11, setL_12, setL_13, exists_eq_left]
    exact h
  · simp only [wp_ok, wp_then, wp_lift, wp_run, sw_seq, sw_skip, sw_break, sw_cont, sw_ret, sw_retN, sw_exp, sw_if, sw_asg, sw_par, sw_for, sw_while, wp_c, wp_var, wp_gvar, wp_op2, wp_op1, wp_bool, wp_tru, wp_and, wp_or, wp_notT, wp_if, wp_andV, wp_orV, wp_not, wp_nil, wp_cons, wp_tup, wp_lst, wp_call, wp_fn, wp_gnil, wp_gcons, wp_gtup, wp_gsub, wp_chain, wp_comp, wp_yes, wp_seqI, wp_rng1, wp_noPart, wp_part, wp_sl, wp_pnil, wp_pcons, ret_some, ret_mod, ret_fdiv, ret_mul, ret_pow, opSub_i, opAdd_i, opNeg_i, opLt_i, opLe_i, opGt_i, opGe_i, opMax_i, opMax_i3, opMin_i, opAbs_i, opInt_i, opInt_b, truW_bl, truW_int, Option.some.injEq, exists_eq_left', W.bl.injEq, W.int.injEq, W.tup.injEq, List.cons.injEq, and_true, true_and, List.length_cons, List.length_nil, Nat.reduceAdd, reduceCtorEq, false_and, or_false, false_or, exists_false, nth_0, nth_1, nth_2, nth_3, nth_4, nth_5, nth_6, nth_7, nth_8, nth_9, nth_10, nth_11, nth_12, nth_13, setL_0, setL_1, setL_2, setL_3, setL_4, setL_5, setL_6, setL_7, setL_8, setL_9, setL_10, setL_11, setL_12, setL_13, exists_eq_left, exists_and_left, and_assoc]
    exact ⟨hy, h⟩
  · have : ((b.natAbs : Nat) : Int) < ((2 ^ 9000 : Nat) : Int) := Int.ofNat_lt.mpr hb
    rw [Int.natCast_pow] at this
    exact this
  · simp only [wp_ok, wp_then, wp_lift, wp_run, sw_seq, sw_skip, sw_break, sw_cont, sw_ret, sw_retN, sw_exp, sw_if, sw_asg, sw_par, sw_for, sw_while, wp_c, wp_var, wp_gvar, wp_op2, wp_op1, wp_bool, wp_tru, wp_and, wp_or, wp_notT, wp_if, wp_andV, wp_orV, wp_not, wp_nil, wp_cons, wp_tup, wp_lst, wp_call, wp_fn, wp_gnil, wp_gcons, wp_gtup, wp_gsub, wp_chain, wp_comp, wp_yes, wp_seqI, wp_rng1, wp_noPart, wp_part, wp_sl, wp_pnil, wp_pcons, ret_some, ret_mod, ret_fdiv, ret_mul, ret_pow, opSub_i, opAdd_i, opNeg_i, opLt_i, opLe_i, opGt_i, opGe_i, opMax_i, opMax_i3, opMin_i, opAbs_i, opInt_i, opInt_b, truW_bl, truW_int, Option.some.injEq, exists_eq_left', W.bl.injEq, W.int.injEq, W.tup.injEq, List.cons.injEq, and_true, true_and, List.length_cons, List.length_nil, Nat.reduceAdd, reduceCtorEq, false_and, or_false, false_or, exists_false, nth_0, nth_1, nth_2, nth_3, nth_4, nth_5, nth_6, nth_7, nth_8, nth_9, nth_10, nth_11, nth_12, nth_13, setL_0, setL_1, setL_2, setL_3, setL_4, setL_5, setL_6, setL_7, setL_8, setL_9, setL_10, setL_11, setL_12, setL_13, gcd_abs, exists_eq_left]
theorem fr_gcd_wp {a b : Int} {st : Sto} (hb : b.natAbs < 2 ^ 9000) : Wp (m__law_fr_gcd [.int a, .int b] st) fun w s => w = .int (Int.gcd a b) ∧ s = st := by
  unfold m__law_fr_gcd b__law_fr_gcd
  simp only [wp_ok, wp_then, wp_lift, wp_run, sw_seq, sw_skip, sw_break, sw_cont, sw_ret, sw_retN, sw_exp, sw_if, sw_asg, sw_par, sw_for, sw_while, wp_c, wp_var, wp_gvar, wp_op2, wp_op1, wp_bool, wp_tru, wp_and, wp_or, wp_notT, wp_if, wp_andV, wp_orV, wp_not, wp_nil, wp_cons, wp_tup, wp_lst, wp_call, wp_fn, wp_gnil, wp_gcons, wp_gtup, wp_gsub, wp_chain, wp_comp, wp_yes, wp_seqI, wp_rng1, wp_noPart, wp_part, wp_sl, wp_pnil, wp_pcons, ret_some, ret_mod, ret_fdiv, ret_mul, ret_pow, opSub_i, opAdd_i, opNeg_i, opLt_i, opLe_i, opGt_i, opGe_i, opMax_i, opMax_i3, opMin_i, opAbs_i, opInt_i, opInt_b, truW_bl, truW_int, Option.some.injEq, exists_eq_left', W.bl.injEq, W.int.injEq, W.tup.injEq, List.cons.injEq, and_true, true_and, List.length_cons, List.length_nil, Nat.reduceAdd, reduceCtorEq, false_and, or_false, false_or, exists_false, nth_0, nth_1, nth_2, nth_3, nth_4, nth_5, nth_6, nth_7, nth_8, nth_9, nth_10, nth_11, nth_12, nth_13, setL_0, setL_1, setL_2, setL_3, setL_4, setL_5, setL_6, setL_7, setL_8, setL_9, setL_10, setL_11, setL_12, setL_13, show initL 2 [W.int a, W.int b] = [some (.int a), some (.int b)] from rfl, exists_and_left, exists_eq_left, exists_eq_right, maxI_abs, and_assoc]
  refine gcd_loop (fun x y s Q h => ?_) (fun x y s N B C R hy h => ?_) 9000 lotN _ _ (by omega) (by omega) ?_ (by decide) ?_
  · simp only [wp_ok, wp_then, wp_lift, wp_run, sw_seq, sw_skip, sw_break, sw_cont, sw_ret, sw_retN, sw_exp, sw_if, sw_asg, sw_par, sw_for, sw_while, wp_c, wp_var, wp_gvar, wp_op2, wp_op1, wp_bool, wp_tru, wp_and, wp_or, wp_notT, wp_if, wp_andV, wp_orV, wp_not, wp_nil, wp_cons, wp_tup, wp_lst, wp_call, wp_fn, wp_gnil, wp_gcons, wp_gtup, wp_gsub, wp_chain, wp_comp, wp_yes, wp_seqI, wp_rng1, wp_noPart, wp_part, wp_sl, wp_pnil, wp_pcons, ret_some, ret_mod, ret_fdiv, ret_mul, ret_pow, opSub_i, opAdd_i, opNeg_i, opLt_i, opLe_i, opGt_i, opGe_i, opMax_i, opMax_i3, opMin_i, opAbs_i, opInt_i, opInt_b, truW_bl, truW_int, Option.some.injEq, exists_eq_left', W.bl.injEq, W.int.injEq, W.tup.injEq, List.cons.injEq, and_true, true_and, List.length_cons, List.length_nil, Nat.reduceAdd, reduceCtorEq, false_and, or_false, false_or, exists_false, nth_0, nth_1, nth_2, nth_3, nth_4, nth_5, nth_6, nth_7, nth_8, nth_9, nth_10, nth_11, nth_12, nth_13, setL_0, setL_1, setL_2, setL_3, setL_4, setL_5, setL_6, setL_7, setL_8, setL_9, setL_10, setL_11, setL_12, setL_13, exists_eq_left]
    exact h
  · simp only [wp_ok, wp_then, wp_lift, wp_run, sw_seq, sw_skip, sw_break, sw_cont, sw_ret, sw_retN, sw_exp, sw_if, sw_asg, sw_par, sw_for, sw_while, wp_c, wp_var, wp_gvar, wp_op2, wp_op1, wp_bool, wp_tru, wp_and, wp_or, wp_notT, wp_if, wp_andV, wp_orV, wp_not, wp_nil, wp_cons, wp_tup, wp_lst, wp_call, wp_fn, wp_gnil, wp_gcons, wp_gtup, wp_gsub, wp_chain, wp_comp, wp_yes, wp_seqI, wp_rng1, wp_noPart, wp_part, wp_sl, wp_pnil, wp_pcons, ret_some, ret_mod, ret_fdiv, ret_mul, ret_pow, opSub_i, opAdd_i, opNeg_i, opLt_i, opLe_i, opGt_i, opGe_i, opMax_i, opMax_i3, opMin_i, opAbs_i, opInt_i, opInt_b, truW_bl, truW_int, Option.some.injEq, exists_eq_left', W.bl.injEq, W.int.injEq, W.tup.injEq, List.cons.injEq, and_true, true_and, List.length_cons, List.length_nil, Nat.reduceAdd, reduceCtorEq, false_and, or_false, false_or, exists_false, nth_0, nth_1, nth_2, nth_3, nth_4, nth_5, nth_6, nth_7, nth_8, nth_9, nth_10, nth_11, nth_12, nth_13, setL_0, setL_1, setL_2, setL_3, setL_4, setL_5, setL_6, setL_7, setL_8, setL_9, setL_10, setL_11, setL_12, setL_13, exists_eq_left, exists_and_left, and_assoc]
    exact ⟨hy, h⟩
  · have : ((b.natAbs : Nat) : Int) < ((2 ^ 9000 : Nat) : Int) := Int.ofNat_lt.mpr hb
    rw [Int.natCast_pow] at this
    exact this
  · simp only [wp_ok, wp_then, wp_lift, wp_run, sw_seq, sw_skip, sw_break, sw_cont, sw_ret, sw_retN, sw_exp, sw_if, sw_asg, sw_par, sw_for, sw_while, wp_c, wp_var, wp_gvar, wp_op2, wp_op1, wp_bool, wp_tru, wp_and, wp_or, wp_notT, wp_if, wp_andV, wp_orV, wp_not, wp_nil, wp_cons, wp_tup, wp_lst, wp_call, wp_fn, wp_gnil, wp_gcons, wp_gtup, wp_gsub, wp_chain, wp_comp, wp_yes, wp_seqI, wp_rng1, wp_noPart, wp_part, wp_sl, wp_pnil, wp_pcons, ret_some, ret_mod, ret_fdiv, ret_mul, ret_pow, opSub_i, opAdd_i, opNeg_i, opLt_i, opLe_i, opGt_i, opGe_i, opMax_i, opMax_i3, opMin_i, opAbs_i, opInt_i, opInt_b, truW_bl, truW_int, Option.some.injEq, exists_eq_left', W.bl.injEq, W.int.injEq, W.tup.injEq, List.cons.injEq, and_true, true_and, List.length_cons, List.length_nil, Nat.reduceAdd, reduceCtorEq, false_and, or_false, false_or, exists_false, nth_0, nth_1, nth_2, nth_3, nth_4, nth_5, nth_6, nth_7, nth_8, nth_9, nth_10, nth_11, nth_12, nth_13, setL_0, setL_1, setL_2, setL_3, setL_4, setL_5, setL_6, setL_7, setL_8, setL_9, setL_10, setL_11, setL_12, setL_13, gcd_abs, exists_eq_left]
/-- a fraction in its least terms -/
def frI (t b : Int) : W := .tup [.int (t / Int.gcd t b), .int (b / Int.gcd t b)]
theorem gcd_pos {t b : Int} (h : 0 < b) : 0 < (Int.gcd t b : Int) := by
  have : 0 < Int.gcd t b := Int.gcd_pos_of_ne_zero_right t (by omega)
  omega
theorem gcd_le {t b : Int} (h : 0 < b) : (Int.gcd t b : Int) ≤ b := Int.le_of_dvd h (Int.gcd_dvd_right ..)
theorem small_log {x : Int} {k : Nat} (hk : 0 < k) (h : x.natAbs < 2 ^ k) : Nat.log2 x.natAbs < k := log2_int h hk
theorem fr_guard {t b : Int} (h : 0 < b) (hb : b.natAbs < 2 ^ 9000) : Nat.log2 ((Int.gcd t b : Nat) : Int).natAbs < 9000 := by
  have := gcd_le (t := t) h
  have := gcd_pos (t := t) h
  exact log2_int (Nat.lt_of_le_of_lt (by omega) hb) (by decide)
theorem fraction_in_wp {t b : Int} {st : Sto} (h : 0 < b) (hb : b.natAbs < 2 ^ 9000) : Wp (m_fraction_in [.int t, .int b] st) fun w s => w = frI t b ∧ s = st := by
  unfold m_fraction_in b_fraction_in
  simp only [wp_ok, wp_then, wp_lift, wp_run, sw_seq, sw_skip, sw_break, sw_cont, sw_ret, sw_retN, sw_exp, sw_if, sw_asg, sw_par, sw_for, sw_while, wp_c, wp_var, wp_gvar, wp_op2, wp_op1, wp_bool, wp_tru, wp_and, wp_or, wp_notT, wp_if, wp_andV, wp_orV, wp_not, wp_nil, wp_cons, wp_tup, wp_lst, wp_call, wp_fn, wp_gnil, wp_gcons, wp_gtup, wp_gsub, wp_chain, wp_comp, wp_yes, wp_seqI, wp_rng1, wp_noPart, wp_part, wp_sl, wp_pnil, wp_pcons, ret_some, ret_mod, ret_fdiv, ret_mul, ret_pow, opSub_i, opAdd_i, opNeg_i, opLt_i, opLe_i, opGt_i, opGe_i, opMax_i, opMax_i3, opMin_i, opAbs_i, opInt_i, opInt_b, truW_bl, truW_int, Option.some.injEq, exists_eq_left', W.bl.injEq, W.int.injEq, W.tup.injEq, List.cons.injEq, and_true, true_and, List.length_cons, List.length_nil, Nat.reduceAdd, reduceCtorEq, false_and, or_false, false_or, exists_false, nth_0, nth_1, nth_2, nth_3, nth_4, nth_5, nth_6, nth_7, nth_8, nth_9, nth_10, nth_11, nth_12, nth_13, setL_0, setL_1, setL_2, setL_3, setL_4, setL_5, setL_6, setL_7, setL_8, setL_9, setL_10, setL_11, setL_12, setL_13, show initL 3 [W.int t, W.int b] = [some (.int t), some (.int b), none] from rfl]
  refine (divisor_wp hb).mono ?_
  rintro _ _ ⟨rfl, rfl⟩
  try simp only [wp_ok, wp_then, wp_lift, wp_run, sw_seq, sw_skip, sw_break, sw_cont, sw_ret, sw_retN, sw_exp, sw_if, sw_asg, sw_par, sw_for, sw_while, wp_c, wp_var, wp_gvar, wp_op2, wp_op1, wp_bool, wp_tru, wp_and, wp_or, wp_notT, wp_if, wp_andV, wp_orV, wp_not, wp_nil, wp_cons, wp_tup, wp_lst, wp_call, wp_fn, wp_gnil, wp_gcons, wp_gtup, wp_gsub, wp_chain, wp_comp, wp_yes, wp_seqI, wp_rng1, wp_noPart, wp_part, wp_sl, wp_pnil, wp_pcons, ret_some, ret_mod, ret_fdiv, ret_mul, ret_pow, opSub_i, opAdd_i, opNeg_i, opLt_i, opLe_i, opGt_i, opGe_i, opMax_i, opMax_i3, opMin_i, opAbs_i, opInt_i, opInt_b, truW_bl, truW_int, Option.some.injEq, exists_eq_left', W.bl.injEq, W.int.injEq, W.tup.injEq, List.cons.injEq, and_true, true_and, List.length_cons, List.length_nil, Nat.reduceAdd, reduceCtorEq, false_and, or_false, false_or, exists_false, nth_0, nth_1, nth_2, nth_3, nth_4, nth_5, nth_6, nth_7, nth_8, nth_9, nth_10, nth_11, nth_12, nth_13, setL_0, setL_1, setL_2, setL_3, setL_4, setL_5, setL_6, setL_7, setL_8, setL_9, setL_10, setL_11, setL_12, setL_13]
  exact ⟨⟨gcd_pos h, fr_guard h hb⟩, ⟨gcd_pos h, fr_guard h hb⟩, by decide, rfl⟩
theorem fr_least_wp {t b : Int} {st : Sto} (h : 0 < b) (hb : b.natAbs < 2 ^ 9000) : Wp (m__law_fr_least [.int t, .int b] st) fun w s => w = frI t b ∧ s = st := by
  unfold m__law_fr_least b__law_fr_least
  simp only [wp_ok, wp_then, wp_lift, wp_run, sw_seq, sw_skip, sw_break, sw_cont, sw_ret, sw_retN, sw_exp, sw_if, sw_asg, sw_par, sw_for, sw_while, wp_c, wp_var, wp_gvar, wp_op2, wp_op1, wp_bool, wp_tru, wp_and, wp_or, wp_notT, wp_if, wp_andV, wp_orV, wp_not, wp_nil, wp_cons, wp_tup, wp_lst, wp_call, wp_fn, wp_gnil, wp_gcons, wp_gtup, wp_gsub, wp_chain, wp_comp, wp_yes, wp_seqI, wp_rng1, wp_noPart, wp_part, wp_sl, wp_pnil, wp_pcons, ret_some, ret_mod, ret_fdiv, ret_mul, ret_pow, opSub_i, opAdd_i, opNeg_i, opLt_i, opLe_i, opGt_i, opGe_i, opMax_i, opMax_i3, opMin_i, opAbs_i, opInt_i, opInt_b, truW_bl, truW_int, Option.some.injEq, exists_eq_left', W.bl.injEq, W.int.injEq, W.tup.injEq, List.cons.injEq, and_true, true_and, List.length_cons, List.length_nil, Nat.reduceAdd, reduceCtorEq, false_and, or_false, false_or, exists_false, nth_0, nth_1, nth_2, nth_3, nth_4, nth_5, nth_6, nth_7, nth_8, nth_9, nth_10, nth_11, nth_12, nth_13, setL_0, setL_1, setL_2, setL_3, setL_4, setL_5, setL_6, setL_7, setL_8, setL_9, setL_10, setL_11, setL_12, setL_13, show initL 3 [W.int t, W.int b] = [some (.int t), some (.int b), none] from rfl]
  refine (fr_gcd_wp hb).mono ?_
  rintro _ _ ⟨rfl, rfl⟩
  simp only [wp_ok, wp_then, wp_lift, wp_run, sw_seq, sw_skip, sw_break, sw_cont, sw_ret, sw_retN, sw_exp, sw_if, sw_asg, sw_par, sw_for, sw_while, wp_c, wp_var, wp_gvar, wp_op2, wp_op1, wp_bool, wp_tru, wp_and, wp_or, wp_notT, wp_if, wp_andV, wp_orV, wp_not, wp_nil, wp_cons, wp_tup, wp_lst, wp_call, wp_fn, wp_gnil, wp_gcons, wp_gtup, wp_gsub, wp_chain, wp_comp, wp_yes, wp_seqI, wp_rng1, wp_noPart, wp_part, wp_sl, wp_pnil, wp_pcons, ret_some, ret_mod, ret_fdiv, ret_mul, ret_pow, opSub_i, opAdd_i, opNeg_i, opLt_i, opLe_i, opGt_i, opGe_i, opMax_i, opMax_i3, opMin_i, opAbs_i, opInt_i, opInt_b, truW_bl, truW_int, Option.some.injEq, exists_eq_left', W.bl.injEq, W.int.injEq, W.tup.injEq, List.cons.injEq, and_true, true_and, List.length_cons, List.length_nil, Nat.reduceAdd, reduceCtorEq, false_and, or_false, false_or, exists_false, nth_0, nth_1, nth_2, nth_3, nth_4, nth_5, nth_6, nth_7, nth_8, nth_9, nth_10, nth_11, nth_12, nth_13, setL_0, setL_1, setL_2, setL_3, setL_4, setL_5, setL_6, setL_7, setL_8, setL_9, setL_10, setL_11, setL_12, setL_13, maxI_one (gcd_pos h)]
  exact ⟨⟨gcd_pos h, fr_guard h hb⟩, ⟨gcd_pos h, fr_guard h hb⟩, by decide, rfl⟩

/-! ### which values are fractions -/
theorem isi_of {w : W} {a b : Nat} {s : Sto} (h : tyOf s w = some a) (hb : b < 6) : opIsi [w, .ty b] s = some (.bl (isTy a b), s) := by
  show (match tyOf s w with
    | some a => bif Nat.blt b 6 then some (W.bl (isTy a b), s) else none
    | none => none) = _
  rw [h]
  show (bif Nat.blt b 6 then some (W.bl (isTy a b), s) else none) = _
  rw [blt_t hb]; rfl
theorem is_whole_wp {w : W} {a : Nat} {st : Sto} (h : tyOf st w = some a) : Wp (m_is_whole [w] st) fun r s => r = .bl (Nat.beq a 0) ∧ s = st := by
  unfold m_is_whole b_is_whole
  simp only [wp_ok, wp_then, wp_lift, wp_run, sw_seq, sw_skip, sw_break, sw_cont, sw_ret, sw_retN, sw_exp, sw_if, sw_asg, sw_par, sw_for, sw_while, wp_c, wp_var, wp_gvar, wp_op2, wp_op1, wp_bool, wp_tru, wp_and, wp_or, wp_notT, wp_if, wp_andV, wp_orV, wp_not, wp_nil, wp_cons, wp_tup, wp_lst, wp_call, wp_fn, wp_gnil, wp_gcons, wp_gtup, wp_gsub, wp_chain, wp_comp, wp_yes, wp_seqI, wp_rng1, wp_noPart, wp_part, wp_sl, wp_pnil, wp_pcons, ret_some, ret_mod, ret_fdiv, ret_mul, ret_pow, opSub_i, opAdd_i, opNeg_i, opLt_i, opLe_i, opGt_i, opGe_i, opMax_i, opMax_i3, opMin_i, opAbs_i, opInt_i, opInt_b, truW_bl, truW_int, Option.some.injEq, exists_eq_left', W.bl.injEq, W.int.injEq, W.tup.injEq, List.cons.injEq, and_true, true_and, List.length_cons, List.length_nil, Nat.reduceAdd, reduceCtorEq, false_and, or_false, false_or, exists_false, nth_0, nth_1, nth_2, nth_3, nth_4, nth_5, nth_6, nth_7, nth_8, nth_9, nth_10, nth_11, nth_12, nth_13, setL_0, setL_1, setL_2, setL_3, setL_4, setL_5, setL_6, setL_7, setL_8, setL_9, setL_10, setL_11, setL_12, setL_13, show initL 1 [w] = [some w] from rfl, ret_of (isi_of h (show 0 < 6 by decide)), ret_of (isi_of h (show 1 < 6 by decide))]
  have hl := tyOf_lt h
  match a, hl with
  | 0, _ => rfl
  | 1, _ => rfl
  | 2, _ => rfl
  | 3, _ => rfl
  | 4, _ => rfl
  | 5, _ => rfl
  | 6, _ => rfl
/-- a comprehension over a tuple, each item's value by f -/
theorem comp_tup {vs : List Nat} {j : Nat} {e : EM} {l : MM.Loc} {st : Sto} {xs : List W} {Q : W → Sto → Prop} (f : W → W) (h0 : nth l 0 = some (.tup xs)) (hz : xs.length ≤ 1000)
    (he : ∀ x ∈ xs, ∀ s, Wp (e (setL (wipeL l vs) j x) s) fun y s' => y = f x ∧ s' = s)
    (hQ : ∀ s, s.get st.n = some (.lst (xs.map f)) → Old st s → Q (.obj st.n) s) : Wp (mComp vs (mSeqI (mVar 0)) (gVar j) mYes e l st) Q := by
  simp only [wp_ok, wp_then, wp_lift, wp_run, sw_seq, sw_skip, sw_break, sw_cont, sw_ret, sw_retN, sw_exp, sw_if, sw_asg, sw_par, sw_for, sw_while, wp_c, wp_var, wp_gvar, wp_op2, wp_op1, wp_bool, wp_tru, wp_and, wp_or, wp_notT, wp_if, wp_andV, wp_orV, wp_not, wp_nil, wp_cons, wp_tup, wp_lst, wp_call, wp_fn, wp_gnil, wp_gcons, wp_gtup, wp_gsub, wp_chain, wp_comp, wp_yes, wp_seqI, wp_rng1, wp_noPart, wp_part, wp_sl, wp_pnil, wp_pcons, ret_some, ret_mod, ret_fdiv, ret_mul, ret_pow, opSub_i, opAdd_i, opNeg_i, opLt_i, opLe_i, opGt_i, opGe_i, opMax_i, opMax_i3, opMin_i, opAbs_i, opInt_i, opInt_b, truW_bl, truW_int, Option.some.injEq, exists_eq_left', W.bl.injEq, W.int.injEq, W.tup.injEq, List.cons.injEq, and_true, true_and, List.length_cons, List.length_nil, Nat.reduceAdd, reduceCtorEq, false_and, or_false, false_or, exists_false, nth_0, nth_1, nth_2, nth_3, nth_4, nth_5, nth_6, nth_7, nth_8, nth_9, nth_10, nth_11, nth_12, nth_13, setL_0, setL_1, setL_2, setL_3, setL_4, setL_5, setL_6, setL_7, setL_8, setL_9, setL_10, setL_11, setL_12, setL_13, h0]
  refine wp_lcI xs.length (fun i s => s.get st.n = some (.lst ((xs.take i).map f)) ∧ Old st s) (fun s h => ?_) (fun i s hi h => ?_) lotN 0 _ ⟨?_, ?_⟩ (Nat.zero_le _) (by rw [Nat.zero_add]; exact Nat.lt_of_le_of_lt hz (by decide))
  · refine ⟨tup_end, hQ s ?_ h.2⟩
    rw [h.1, List.take_length]
  · refine ⟨xs[i], tup_next (List.getElem?_eq_getElem hi), ?_⟩
    simp only [wp_ok, wp_then, wp_lift, wp_run, sw_seq, sw_skip, sw_break, sw_cont, sw_ret, sw_retN, sw_exp, sw_if, sw_asg, sw_par, sw_for, sw_while, wp_c, wp_var, wp_gvar, wp_op2, wp_op1, wp_bool, wp_tru, wp_and, wp_or, wp_notT, wp_if, wp_andV, wp_orV, wp_not, wp_nil, wp_cons, wp_tup, wp_lst, wp_call, wp_fn, wp_gnil, wp_gcons, wp_gtup, wp_gsub, wp_chain, wp_comp, wp_yes, wp_seqI, wp_rng1, wp_noPart, wp_part, wp_sl, wp_pnil, wp_pcons, ret_some, ret_mod, ret_fdiv, ret_mul, ret_pow, opSub_i, opAdd_i, opNeg_i, opLt_i, opLe_i, opGt_i, opGe_i, opMax_i, opMax_i3, opMin_i, opAbs_i, opInt_i, opInt_b, truW_bl, truW_int, Option.some.injEq, exists_eq_left', W.bl.injEq, W.int.injEq, W.tup.injEq, List.cons.injEq, and_true, true_and, List.length_cons, List.length_nil, Nat.reduceAdd, reduceCtorEq, false_and, or_false, false_or, exists_false, nth_0, nth_1, nth_2, nth_3, nth_4, nth_5, nth_6, nth_7, nth_8, nth_9, nth_10, nth_11, nth_12, nth_13, setL_0, setL_1, setL_2, setL_3, setL_4, setL_5, setL_6, setL_7, setL_8, setL_9, setL_10, setL_11, setL_12, setL_13, if_true]
    refine (he xs[i] (List.getElem_mem hi) s).mono ?_
    rintro _ _ ⟨rfl, rfl⟩
    refine ⟨_, apd_lst h.1 ?_, ?_, h.2.putR (Nat.le_refl _) (Sto.lt_of h.1)⟩
    · rw [List.length_map, List.length_take]
      exact Nat.lt_of_le_of_lt (Nat.le_trans (Nat.min_le_right ..) hz) (by decide)
    · rw [put_get h.1, List.take_succ_eq_append_getElem hi, List.map_append]
      rfl
  · rw [Sto.get_new, if_pos rfl]; rfl
  · exact Old.new
theorem put_get' {s : Sto} {n : Nat} {o u : Ob} {v : Ob} (e : s.get n = some u) (h : v = o) : (s.put n o).get n = some v := by rw [h]; exact put_get e
theorem all_of {n : Nat} {s : Sto} {bs : List Bool} (e : s.get n = some (.lst (bs.map W.bl))) : opAll [.obj n] s = some (.bl (bs.all id), s) := by
  have hb : ∀ bs : List Bool, blsOf (bs.map W.bl) = some bs := by
    intro bs
    induction bs with
    | nil => rfl
    | cons b r ih =>
      show (match blsOf (r.map W.bl) with
        | some is => some (b :: is)
        | none => none) = _
      rw [ih]
  show (match s.get n with
    | some (.lst xs) => (match blsOf xs with
      | some bs => some (W.bl (bs.all id), s)
      | none => none)
    | _ => none) = _
  rw [e]
  show (match blsOf (bs.map W.bl) with
      | some bs => some (W.bl (bs.all id), s)
      | none => none) = _
  rw [hb]

theorem eqv_i {i j : Int} : PyData.eqv (.int i) (.int j) = decide (i = j) := by
  rw [Bool.eq_iff_iff]
  simp [PyData.eqv]
theorem opEq_i {i j : Int} {s : Sto} : opEq (.int i) (.int j) s = some (.bl (decide (i = j)), s) := by
  show some (W.bl (PyData.eqv (.int i) (.int j)), s) = _
  rw [eqv_i]
theorem opNe_i {i j : Int} {s : Sto} : opNe (.int i) (.int j) s = some (.bl (!decide (i = j)), s) := by
  show some (W.bl (!PyData.eqv (.int i) (.int j)), s) = _
  rw [eqv_i]
theorem len_tup {xs : List W} {s : Sto} : opLen [.tup xs] s = some (.int xs.length, s) := rfl
theorem ix_tup {xs : List W} {i : Int} {w : W} {s : Sto} (h : L2.atI xs i = some w) : opIx (.tup xs) (.int i) s = some (w, s) := by
  show (match L2.atI xs i with
        | some w => some (w, s)
        | none => none) = _
  rw [h]
/-- what a value is, whatever the store -/
def tyS : W → Option Nat
  | .non => some 6
  | .bl _ => some 1
  | .int _ => some 0
  | .str _ => some 5
  | .tup _ => some 2
  | _ => none
theorem tyS_of {w : W} {k : Nat} (h : tyS w = some k) (s : Sto) : tyOf s w = some k := by
  cases w <;> first | exact h | cases h
def FrS (w : W) (b : Bool) (st : Sto) : Prop := Wp (m_is_fraction [w] st) fun r s => r = .bl b ∧ Old st s
theorem fr_no {w : W} {k : Nat} {st : Sto} (h : tyOf st w = some k) (hk : k ≠ 2) : FrS w false st := by
  have e : isTy k 2 = false := by
    have hl := tyOf_lt h
    match k, hl, hk with
    | 0, _, _ => rfl
    | 1, _, _ => rfl
    | 3, _, _ => rfl
    | 4, _, _ => rfl
    | 5, _, _ => rfl
    | 6, _, _ => rfl
  unfold FrS m_is_fraction b_is_fraction
  simp only [wp_ok, wp_then, wp_lift, wp_run, sw_seq, sw_skip, sw_break, sw_cont, sw_ret, sw_retN, sw_exp, sw_if, sw_asg, sw_par, sw_for, sw_while, wp_c, wp_var, wp_gvar, wp_op2, wp_op1, wp_bool, wp_tru, wp_and, wp_or, wp_notT, wp_if, wp_andV, wp_orV, wp_not, wp_nil, wp_cons, wp_tup, wp_lst, wp_call, wp_fn, wp_gnil, wp_gcons, wp_gtup, wp_gsub, wp_chain, wp_comp, wp_yes, wp_seqI, wp_rng1, wp_noPart, wp_part, wp_sl, wp_pnil, wp_pcons, ret_some, ret_mod, ret_fdiv, ret_mul, ret_pow, opSub_i, opAdd_i, opNeg_i, opLt_i, opLe_i, opGt_i, opGe_i, opMax_i, opMax_i3, opMin_i, opAbs_i, opInt_i, opInt_b, truW_bl, truW_int, Option.some.injEq, exists_eq_left', W.bl.injEq, W.int.injEq, W.tup.injEq, List.cons.injEq, and_true, true_and, List.length_cons, List.length_nil, Nat.reduceAdd, reduceCtorEq, false_and, or_false, false_or, exists_false, nth_0, nth_1, nth_2, nth_3, nth_4, nth_5, nth_6, nth_7, nth_8, nth_9, nth_10, nth_11, nth_12, nth_13, setL_0, setL_1, setL_2, setL_3, setL_4, setL_5, setL_6, setL_7, setL_8, setL_9, setL_10, setL_11, setL_12, setL_13, show initL 2 [w] = [some w, none] from rfl, ret_of (isi_of h (show 2 < 6 by decide)), e, Bool.not_false, if_true, Old.refl]
theorem fr_len {xs : List W} {st : Sto} (hl : xs.length ≠ 2) : FrS (.tup xs) false st := by
  unfold FrS m_is_fraction b_is_fraction
  have e : (!decide ((xs.length : Int) = 2)) = true := by
    rw [decide_eq_false (by omega)]; rfl
  simp only [wp_ok, wp_then, wp_lift, wp_run, sw_seq, sw_skip, sw_break, sw_cont, sw_ret, sw_retN, sw_exp, sw_if, sw_asg, sw_par, sw_for, sw_while, wp_c, wp_var, wp_gvar, wp_op2, wp_op1, wp_bool, wp_tru, wp_and, wp_or, wp_notT, wp_if, wp_andV, wp_orV, wp_not, wp_nil, wp_cons, wp_tup, wp_lst, wp_call, wp_fn, wp_gnil, wp_gcons, wp_gtup, wp_gsub, wp_chain, wp_comp, wp_yes, wp_seqI, wp_rng1, wp_noPart, wp_part, wp_sl, wp_pnil, wp_pcons, ret_some, ret_mod, ret_fdiv, ret_mul, ret_pow, opSub_i, opAdd_i, opNeg_i, opLt_i, opLe_i, opGt_i, opGe_i, opMax_i, opMax_i3, opMin_i, opAbs_i, opInt_i, opInt_b, truW_bl, truW_int, Option.some.injEq, exists_eq_left', W.bl.injEq, W.int.injEq, W.tup.injEq, List.cons.injEq, and_true, true_and, List.length_cons, List.length_nil, Nat.reduceAdd, reduceCtorEq, false_and, or_false, false_or, exists_false, nth_0, nth_1, nth_2, nth_3, nth_4, nth_5, nth_6, nth_7, nth_8, nth_9, nth_10, nth_11, nth_12, nth_13, setL_0, setL_1, setL_2, setL_3, setL_4, setL_5, setL_6, setL_7, setL_8, setL_9, setL_10, setL_11, setL_12, setL_13, show initL 2 [W.tup xs] = [some (.tup xs), none] from rfl, ret_of (isi_of (s := st) (w := .tup xs) rfl (show 2 < 6 by decide)), show isTy 2 2 = true from rfl, Bool.not_true, Bool.false_eq_true, if_false, ret_of len_tup, ret_of opNe_i, e, if_true, Old.refl]
theorem fr_pair {x y : W} {kx ky : Nat} {st : Sto} (hx : tyS x = some kx) (hy : tyS y = some ky) (Q : W → Sto → Prop) (h0 : kx ≠ 0 ∨ ky ≠ 0 → ∀ s, Old st s → Q (.bl false) s)
    (h1 : kx = 0 → ky = 0 → ∀ s, Old st s → Wp (mAndV (mOp2 opGt (mOp2 opIx (mVar 0) (mC (.int 1))) (mC (.int 0))) (mOp2 opEq (mFn 2 m_divisor_of (mCons (mOp2 opIx (mVar 0) (mC (.int 0))) (mCons (mOp2 opIx (mVar 0) (mC (.int 1))) mNil))) (mC (.int 1))) [some (.tup [x, y]), none] s) Q) :
    Wp (m_is_fraction [.tup [x, y]] st) Q := by
  unfold m_is_fraction b_is_fraction
  refine wp_run.mpr (sw_seq.mpr (sw_if.mpr ?_))
  simp only [wp_or, wp_notT, wp_tru, wp_bool, wp_call, wp_cons, wp_nil, wp_var, wp_c, wp_op2, show initL 2 [W.tup [x, y]] = [some (.tup [x, y]), none] from rfl, nth_0, Option.some.injEq, exists_eq_left', ret_of (isi_of (s := st) (w := .tup [x, y]) rfl (show 2 < 6 by decide)), show isTy 2 2 = true from rfl, truW_bl, Bool.not_true,
    Bool.false_eq_true, if_false, ret_of len_tup, ret_of opNe_i, show (!decide ((([x, y] : List W).length : Int) = 2)) = false from rfl, W.bl.injEq]
  refine comp_tup (l := [some (.tup [x, y]), none]) (fun w => .bl (tyS w == some 0)) rfl (show 2 ≤ 1000 by decide) (fun z hz s => ?_) fun s hs ho => ?_
  · have : ∃ k, tyS z = some k := by
      rcases List.mem_cons.mp hz with rfl | hz
      · exact ⟨_, hx⟩
      · rcases List.mem_cons.mp hz with rfl | hz
        · exact ⟨_, hy⟩
        · cases hz
    obtain ⟨k, hk⟩ := this
    simp only [wp_fn, wp_cons, wp_nil, wp_var]
    refine ⟨z, rfl, rfl, (is_whole_wp (tyS_of hk s)).mono ?_⟩
    rintro _ _ ⟨rfl, rfl⟩
    refine ⟨?_, rfl⟩
    rw [hk]
    cases k <;> rfl
  · rw [show [x, y].map (fun w => W.bl (tyS w == some 0)) = [tyS x == some 0, tyS y == some 0].map W.bl from rfl] at hs
    simp only [ret_of (all_of hs), truW_bl, Option.some.injEq, exists_eq_left']
    rw [hx, hy]
    by_cases c : kx = 0 ∧ ky = 0
    · obtain ⟨rfl, rfl⟩ := c
      rw [if_neg (by decide)]
      simp only [sw_skip, sw_ret]
      exact h1 rfl rfl s ho
    · have e : (!([some kx == some 0, some ky == some 0].all id)) = true := by
        cases kx with
        | zero => cases ky with
          | zero => exact absurd ⟨rfl, rfl⟩ c
          | succ k => rfl
        | succ k => rfl
      rw [if_pos e]
      simp only [sw_ret, wp_c]
      exact h0 (by omega) s ho
theorem fr_bad {x y : W} {kx ky : Nat} {st : Sto} (hx : tyS x = some kx) (hy : tyS y = some ky) (h : kx ≠ 0 ∨ ky ≠ 0) : FrS (.tup [x, y]) false st := by
  unfold FrS
  refine fr_pair hx hy _ (fun _ s ho => ⟨rfl, ho⟩) fun h1 h2 => ?_
  omega
theorem fr_int {a b : Int} {st : Sto} (hb : b.natAbs < 2 ^ 9000) : FrS (.tup [.int a, .int b]) (decide (0 < b ∧ Int.gcd a b = 1)) st := by
  unfold FrS
  refine fr_pair (x := .int a) (y := .int b) rfl rfl _ (fun h => by omega) fun _ _ s ho => ?_
  simp only [wp_ok, wp_then, wp_lift, wp_run, sw_seq, sw_skip, sw_break, sw_cont, sw_ret, sw_retN, sw_exp, sw_if, sw_asg, sw_par, sw_for, sw_while, wp_c, wp_var, wp_gvar, wp_op2, wp_op1, wp_bool, wp_tru, wp_and, wp_or, wp_notT, wp_if, wp_andV, wp_orV, wp_not, wp_nil, wp_cons, wp_tup, wp_lst, wp_call, wp_fn, wp_gnil, wp_gcons, wp_gtup, wp_gsub, wp_chain, wp_comp, wp_yes, wp_seqI, wp_rng1, wp_noPart, wp_part, wp_sl, wp_pnil, wp_pcons, ret_some, ret_mod, ret_fdiv, ret_mul, ret_pow, opSub_i, opAdd_i, opNeg_i, opLt_i, opLe_i, opGt_i, opGe_i, opMax_i, opMax_i3, opMin_i, opAbs_i, opInt_i, opInt_b, truW_bl, truW_int, Option.some.injEq, exists_eq_left', W.bl.injEq, W.int.injEq, W.tup.injEq, List.cons.injEq, and_true, true_and, List.length_cons, List.length_nil, Nat.reduceAdd, reduceCtorEq, false_and, or_false, false_or, exists_false, nth_0, nth_1, nth_2, nth_3, nth_4, nth_5, nth_6, nth_7, nth_8, nth_9, nth_10, nth_11, nth_12, nth_13, setL_0, setL_1, setL_2, setL_3, setL_4, setL_5, setL_6, setL_7, setL_8, setL_9, setL_10, setL_11, setL_12, setL_13, ret_of (ix_tup (s := s) (xs := [W.int a, W.int b]) (i := 1) (w := .int b) rfl), ret_of (ix_tup (s := s) (xs := [W.int a, W.int b]) (i := 0) (w := .int a) rfl), decide_eq_true_eq]
  split
  · rename_i hp
    refine (divisor_wp hb).mono ?_
    rintro _ _ ⟨rfl, rfl⟩
    rw [ret_of opEq_i]
    refine ⟨?_, ho⟩
    congr 1
    by_cases g : Int.gcd a b = 1
    · rw [decide_eq_true (by omega), decide_eq_true ⟨hp, g⟩]
    · rw [decide_eq_false (by omega), decide_eq_false (fun z => g z.2)]
  · rename_i hp
    rw [decide_eq_false hp, decide_eq_false (fun z => hp z.1)]
    exact ⟨rfl, ho⟩

/-! ### what the package reckons -/
abbrev gr : Int := 10000000000000000000000000000000000000000000000000000000000000000000000000000000000000000000000000000
/-- a fraction that is let -/
structure Fr (a b : Int) : Prop where
  p : 0 < b
  g : Int.gcd a b = 1
  a : -gr < a ∧ a < gr
  b : b < gr
theorem Fr.big {a b : Int} (h : Fr a b) : b.natAbs < 2 ^ 9000 := by
  have h1 := h.p
  have h2 := h.b
  have : (10000000000000000000000000000000000000000000000000000000000000000000000000000000000000000000000000000 : Nat) < 2 ^ 9000 := by decide +kernel
  unfold gr at h2
  omega
theorem Fr.lo {a b : Int} (h : Fr a b) : a.natAbs < 2 ^ 400 ∧ b.natAbs < 2 ^ 400 := by
  have h1 := h.p
  have h2 := h.b
  have h3 := h.a
  have : (10000000000000000000000000000000000000000000000000000000000000000000000000000000000000000000000000000 : Nat) < 2 ^ 400 := by decide +kernel
  unfold gr at h2 h3
  omega
theorem require_wp {a b : Int} {st : Sto} (h : Fr a b) : Wp (m_require_fraction [.tup [.int a, .int b]] st) fun r s => r = .non ∧ Old st s := by
  unfold m_require_fraction b_require_fraction
  refine wp_run.mpr (sw_if.mpr ?_)
  simp only [wp_or, wp_notT, wp_tru, wp_fn, wp_call, wp_cons, wp_nil, wp_var, wp_c, show initL 2 [W.tup [.int a, .int b]] = [some (.tup [.int a, .int b]), none] from rfl, nth_0, Option.some.injEq, exists_eq_left']
  refine ⟨rfl, (fr_int h.big).mono ?_⟩
  rintro _ s ⟨rfl, ho⟩
  simp only [truW_bl, Option.some.injEq, exists_eq_left', decide_eq_true (show 0 < b ∧ Int.gcd a b = 1 from ⟨h.p, h.g⟩), Bool.not_true, Bool.false_eq_true, if_false]
  refine comp_tup (l := [some (.tup [.int a, .int b]), none]) (fun _ => .bl true) rfl (show 2 ≤ 1000 by decide) (fun z hz s => ?_) fun s1 hs ho1 => ?_
  · obtain ⟨i, rfl, h1, h2⟩ : ∃ i, z = .int i ∧ -gr < i ∧ i < gr := by
      rcases List.mem_cons.mp hz with rfl | hz
      · exact ⟨a, rfl, h.a⟩
      · rcases List.mem_cons.mp hz with rfl | hz
        · exact ⟨b, rfl, by have := h.p; unfold gr; omega, h.b⟩
        · cases hz
    unfold gr at h1 h2
    simp only [show setL (wipeL [some (W.tup [W.int a, W.int b]), none] [1]) 1 (W.int i) = [some (.tup [.int a, .int b]), some (.int i)] from rfl, wp_ok, wp_then, wp_lift, wp_run, sw_seq, sw_skip, sw_break, sw_cont, sw_ret, sw_retN, sw_exp, sw_if, sw_asg, sw_par, sw_for, sw_while, wp_c, wp_var, wp_gvar, wp_op2, wp_op1, wp_bool, wp_tru, wp_and, wp_or, wp_notT, wp_if, wp_andV, wp_orV, wp_not, wp_nil, wp_cons, wp_tup, wp_lst, wp_call, wp_fn, wp_gnil, wp_gcons, wp_gtup, wp_gsub, wp_chain, wp_comp, wp_yes, wp_seqI, wp_rng1, wp_noPart, wp_part, wp_sl, wp_pnil, wp_pcons, ret_some, ret_mod, ret_fdiv, ret_mul, ret_pow, opSub_i, opAdd_i, opNeg_i, opLt_i, opLe_i, opGt_i, opGe_i, opMax_i, opMax_i3, opMin_i, opAbs_i, opInt_i, opInt_b, truW_bl, truW_int, Option.some.injEq, exists_eq_left', W.bl.injEq, W.int.injEq, W.tup.injEq, List.cons.injEq, and_true, true_and, List.length_cons, List.length_nil, Nat.reduceAdd, reduceCtorEq, false_and, or_false, false_or, exists_false, nth_0, nth_1, nth_2, nth_3, nth_4, nth_5, nth_6, nth_7, nth_8, nth_9, nth_10, nth_11, nth_12, nth_13, setL_0, setL_1, setL_2, setL_3, setL_4, setL_5, setL_6, setL_7, setL_8, setL_9, setL_10, setL_11, setL_12, setL_13, ret_of opNeg_i, decide_eq_true h1, decide_eq_true h2, if_true]
  · rw [show [W.int a, W.int b].map (fun _ => W.bl true) = [true, true].map W.bl from rfl] at hs
    simp only [ret_of (all_of hs), truW_bl, Option.some.injEq, exists_eq_left', show (!([true, true].all id)) = false from rfl, Bool.false_eq_true, if_false, sw_skip]
    exact ⟨trivial, ho.trans ho1⟩
theorem is_from_wp {v lo hi : Int} {st : Sto} (h1 : lo ≤ v) (h2 : v ≤ hi) : Wp (m_is_from [.int v, .int lo, .int hi] st) fun r s => r = .bl true ∧ s = st := by
  unfold m_is_from b_is_from
  simp only [wp_ok, wp_then, wp_lift, wp_run, sw_seq, sw_skip, sw_break, sw_cont, sw_ret, sw_retN, sw_exp, sw_if, sw_asg, sw_par, sw_for, sw_while, wp_c, wp_var, wp_gvar, wp_op2, wp_op1, wp_bool, wp_tru, wp_and, wp_or, wp_notT, wp_if, wp_andV, wp_orV, wp_not, wp_nil, wp_cons, wp_tup, wp_lst, wp_call, wp_fn, wp_gnil, wp_gcons, wp_gtup, wp_gsub, wp_chain, wp_comp, wp_yes, wp_seqI, wp_rng1, wp_noPart, wp_part, wp_sl, wp_pnil, wp_pcons, ret_some, ret_mod, ret_fdiv, ret_mul, ret_pow, opSub_i, opAdd_i, opNeg_i, opLt_i, opLe_i, opGt_i, opGe_i, opMax_i, opMax_i3, opMin_i, opAbs_i, opInt_i, opInt_b, truW_bl, truW_int, Option.some.injEq, exists_eq_left', W.bl.injEq, W.int.injEq, W.tup.injEq, List.cons.injEq, and_true, true_and, List.length_cons, List.length_nil, Nat.reduceAdd, reduceCtorEq, false_and, or_false, false_or, exists_false, nth_0, nth_1, nth_2, nth_3, nth_4, nth_5, nth_6, nth_7, nth_8, nth_9, nth_10, nth_11, nth_12, nth_13, setL_0, setL_1, setL_2, setL_3, setL_4, setL_5, setL_6, setL_7, setL_8, setL_9, setL_10, setL_11, setL_12, setL_13, show initL 3 [W.int v, W.int lo, W.int hi] = [some (.int v), some (.int lo), some (.int hi)] from rfl]
  refine (is_whole_wp (w := .int v) (a := 0) rfl).mono ?_
  rintro _ _ ⟨rfl, rfl⟩
  simp only [wp_ok, wp_then, wp_lift, wp_run, sw_seq, sw_skip, sw_break, sw_cont, sw_ret, sw_retN, sw_exp, sw_if, sw_asg, sw_par, sw_for, sw_while, wp_c, wp_var, wp_gvar, wp_op2, wp_op1, wp_bool, wp_tru, wp_and, wp_or, wp_notT, wp_if, wp_andV, wp_orV, wp_not, wp_nil, wp_cons, wp_tup, wp_lst, wp_call, wp_fn, wp_gnil, wp_gcons, wp_gtup, wp_gsub, wp_chain, wp_comp, wp_yes, wp_seqI, wp_rng1, wp_noPart, wp_part, wp_sl, wp_pnil, wp_pcons, ret_some, ret_mod, ret_fdiv, ret_mul, ret_pow, opSub_i, opAdd_i, opNeg_i, opLt_i, opLe_i, opGt_i, opGe_i, opMax_i, opMax_i3, opMin_i, opAbs_i, opInt_i, opInt_b, truW_bl, truW_int, Option.some.injEq, exists_eq_left', W.bl.injEq, W.int.injEq, W.tup.injEq, List.cons.injEq, and_true, true_and, List.length_cons, List.length_nil, Nat.reduceAdd, reduceCtorEq, false_and, or_false, false_or, exists_false, nth_0, nth_1, nth_2, nth_3, nth_4, nth_5, nth_6, nth_7, nth_8, nth_9, nth_10, nth_11, nth_12, nth_13, setL_0, setL_1, setL_2, setL_3, setL_4, setL_5, setL_6, setL_7, setL_8, setL_9, setL_10, setL_11, setL_12, setL_13, show Nat.beq 0 0 = true from rfl, if_true, decide_eq_true h1, decide_eq_true h2]
theorem fraction_wp {a b : Int} {st : Sto} (h1 : -gr < a) (h2 : a < gr) (h3 : 0 < b) (h4 : b < gr) : Wp (m_fraction [.int a, .int b] st) fun r s => r = frI a b ∧ s = st := by
  unfold m_fraction b_fraction
  unfold gr at h1 h2 h4
  simp only [wp_ok, wp_then, wp_lift, wp_run, sw_seq, sw_skip, sw_break, sw_cont, sw_ret, sw_retN, sw_exp, sw_if, sw_asg, sw_par, sw_for, sw_while, wp_c, wp_var, wp_gvar, wp_op2, wp_op1, wp_bool, wp_tru, wp_and, wp_or, wp_notT, wp_if, wp_andV, wp_orV, wp_not, wp_nil, wp_cons, wp_tup, wp_lst, wp_call, wp_fn, wp_gnil, wp_gcons, wp_gtup, wp_gsub, wp_chain, wp_comp, wp_yes, wp_seqI, wp_rng1, wp_noPart, wp_part, wp_sl, wp_pnil, wp_pcons, ret_some, ret_mod, ret_fdiv, ret_mul, ret_pow, opSub_i, opAdd_i, opNeg_i, opLt_i, opLe_i, opGt_i, opGe_i, opMax_i, opMax_i3, opMin_i, opAbs_i, opInt_i, opInt_b, truW_bl, truW_int, Option.some.injEq, exists_eq_left', W.bl.injEq, W.int.injEq, W.tup.injEq, List.cons.injEq, and_true, true_and, List.length_cons, List.length_nil, Nat.reduceAdd, reduceCtorEq, false_and, or_false, false_or, exists_false, nth_0, nth_1, nth_2, nth_3, nth_4, nth_5, nth_6, nth_7, nth_8, nth_9, nth_10, nth_11, nth_12, nth_13, setL_0, setL_1, setL_2, setL_3, setL_4, setL_5, setL_6, setL_7, setL_8, setL_9, setL_10, setL_11, setL_12, setL_13, show initL 2 [W.int a, W.int b] = [some (.int a), some (.int b)] from rfl]
  refine (is_from_wp (by omega) (by omega)).mono ?_
  rintro _ _ ⟨rfl, rfl⟩
  simp only [wp_ok, wp_then, wp_lift, wp_run, sw_seq, sw_skip, sw_break, sw_cont, sw_ret, sw_retN, sw_exp, sw_if, sw_asg, sw_par, sw_for, sw_while, wp_c, wp_var, wp_gvar, wp_op2, wp_op1, wp_bool, wp_tru, wp_and, wp_or, wp_notT, wp_if, wp_andV, wp_orV, wp_not, wp_nil, wp_cons, wp_tup, wp_lst, wp_call, wp_fn, wp_gnil, wp_gcons, wp_gtup, wp_gsub, wp_chain, wp_comp, wp_yes, wp_seqI, wp_rng1, wp_noPart, wp_part, wp_sl, wp_pnil, wp_pcons, ret_some, ret_mod, ret_fdiv, ret_mul, ret_pow, opSub_i, opAdd_i, opNeg_i, opLt_i, opLe_i, opGt_i, opGe_i, opMax_i, opMax_i3, opMin_i, opAbs_i, opInt_i, opInt_b, truW_bl, truW_int, Option.some.injEq, exists_eq_left', W.bl.injEq, W.int.injEq, W.tup.injEq, List.cons.injEq, and_true, true_and, List.length_cons, List.length_nil, Nat.reduceAdd, reduceCtorEq, false_and, or_false, false_or, exists_false, nth_0, nth_1, nth_2, nth_3, nth_4, nth_5, nth_6, nth_7, nth_8, nth_9, nth_10, nth_11, nth_12, nth_13, setL_0, setL_1, setL_2, setL_3, setL_4, setL_5, setL_6, setL_7, setL_8, setL_9, setL_10, setL_11, setL_12, setL_13, Bool.not_true, Bool.false_eq_true, if_false]
  refine (is_from_wp (by omega) (by omega)).mono ?_
  rintro _ _ ⟨rfl, rfl⟩
  simp only [wp_ok, wp_then, wp_lift, wp_run, sw_seq, sw_skip, sw_break, sw_cont, sw_ret, sw_retN, sw_exp, sw_if, sw_asg, sw_par, sw_for, sw_while, wp_c, wp_var, wp_gvar, wp_op2, wp_op1, wp_bool, wp_tru, wp_and, wp_or, wp_notT, wp_if, wp_andV, wp_orV, wp_not, wp_nil, wp_cons, wp_tup, wp_lst, wp_call, wp_fn, wp_gnil, wp_gcons, wp_gtup, wp_gsub, wp_chain, wp_comp, wp_yes, wp_seqI, wp_rng1, wp_noPart, wp_part, wp_sl, wp_pnil, wp_pcons, ret_some, ret_mod, ret_fdiv, ret_mul, ret_pow, opSub_i, opAdd_i, opNeg_i, opLt_i, opLe_i, opGt_i, opGe_i, opMax_i, opMax_i3, opMin_i, opAbs_i, opInt_i, opInt_b, truW_bl, truW_int, Option.some.injEq, exists_eq_left', W.bl.injEq, W.int.injEq, W.tup.injEq, List.cons.injEq, and_true, true_and, List.length_cons, List.length_nil, Nat.reduceAdd, reduceCtorEq, false_and, or_false, false_or, exists_false, nth_0, nth_1, nth_2, nth_3, nth_4, nth_5, nth_6, nth_7, nth_8, nth_9, nth_10, nth_11, nth_12, nth_13, setL_0, setL_1, setL_2, setL_3, setL_4, setL_5, setL_6, setL_7, setL_8, setL_9, setL_10, setL_11, setL_12, setL_13, Bool.not_true, Bool.false_eq_true, if_false]
  have : (10000000000000000000000000000000000000000000000000000000000000000000000000000000000000000000000000000 : Nat) < 2 ^ 9000 := by decide +kernel
  exact fraction_in_wp h3 (by omega)
theorem ix0 {x y : W} {s : Sto} : opIx (.tup [x, y]) (.int 0) s = some (x, s) := ix_tup rfl
theorem ix1 {x y : W} {s : Sto} : opIx (.tup [x, y]) (.int 1) s = some (y, s) := ix_tup rfl
theorem log_lo {x : Int} (h : x.natAbs < 2 ^ 400) : Nat.log2 x.natAbs < 400 := log2_int h (by decide)
theorem mul_lo {x y : Int} (hx : x.natAbs < 2 ^ 400) (hy : y.natAbs < 2 ^ 400) : (x * y).natAbs < 2 ^ 800 := by
  have := L2.wide_lt hx hy
  exact this
theorem big_lo {x : Int} (h : x.natAbs < 2 ^ 800) : x.natAbs < 2 ^ 9000 := Nat.lt_of_lt_of_le h (Nat.pow_le_pow_right (by decide) (by decide))
theorem added_wp {a b c d : Int} {st : Sto} (h : Fr a b) (k : Fr c d) : Wp (m_added [.tup [.int a, .int b], .tup [.int c, .int d]] st) fun r s => r = frI (a * d + c * b) (b * d) ∧ Old st s := by
  unfold m_added b_added
  simp only [wp_ok, wp_then, wp_lift, wp_run, sw_seq, sw_skip, sw_break, sw_cont, sw_ret, sw_retN, sw_exp, sw_if, sw_asg, sw_par, sw_for, sw_while, wp_c, wp_var, wp_gvar, wp_op2, wp_op1, wp_bool, wp_tru, wp_and, wp_or, wp_notT, wp_if, wp_andV, wp_orV, wp_not, wp_nil, wp_cons, wp_tup, wp_lst, wp_call, wp_fn, wp_gnil, wp_gcons, wp_gtup, wp_gsub, wp_chain, wp_comp, wp_yes, wp_seqI, wp_rng1, wp_noPart, wp_part, wp_sl, wp_pnil, wp_pcons, ret_some, ret_mod, ret_fdiv, ret_mul, ret_pow, opSub_i, opAdd_i, opNeg_i, opLt_i, opLe_i, opGt_i, opGe_i, opMax_i, opMax_i3, opMin_i, opAbs_i, opInt_i, opInt_b, truW_bl, truW_int, Option.some.injEq, exists_eq_left', W.bl.injEq, W.int.injEq, W.tup.injEq, List.cons.injEq, and_true, true_and, List.length_cons, List.length_nil, Nat.reduceAdd, reduceCtorEq, false_and, or_false, false_or, exists_false, nth_0, nth_1, nth_2, nth_3, nth_4, nth_5, nth_6, nth_7, nth_8, nth_9, nth_10, nth_11, nth_12, nth_13, setL_0, setL_1, setL_2, setL_3, setL_4, setL_5, setL_6, setL_7, setL_8, setL_9, setL_10, setL_11, setL_12, setL_13, show initL 2 [W.tup [.int a, .int b], .tup [.int c, .int d]] = [some (.tup [.int a, .int b]), some (.tup [.int c, .int d])] from rfl]
  refine (require_wp h).mono ?_
  rintro _ s ⟨rfl, ho⟩
  try simp only [wp_ok, wp_then, wp_lift, wp_run, sw_seq, sw_skip, sw_break, sw_cont, sw_ret, sw_retN, sw_exp, sw_if, sw_asg, sw_par, sw_for, sw_while, wp_c, wp_var, wp_gvar, wp_op2, wp_op1, wp_bool, wp_tru, wp_and, wp_or, wp_notT, wp_if, wp_andV, wp_orV, wp_not, wp_nil, wp_cons, wp_tup, wp_lst, wp_call, wp_fn, wp_gnil, wp_gcons, wp_gtup, wp_gsub, wp_chain, wp_comp, wp_yes, wp_seqI, wp_rng1, wp_noPart, wp_part, wp_sl, wp_pnil, wp_pcons, ret_some, ret_mod, ret_fdiv, ret_mul, ret_pow, opSub_i, opAdd_i, opNeg_i, opLt_i, opLe_i, opGt_i, opGe_i, opMax_i, opMax_i3, opMin_i, opAbs_i, opInt_i, opInt_b, truW_bl, truW_int, Option.some.injEq, exists_eq_left', W.bl.injEq, W.int.injEq, W.tup.injEq, List.cons.injEq, and_true, true_and, List.length_cons, List.length_nil, Nat.reduceAdd, reduceCtorEq, false_and, or_false, false_or, exists_false, nth_0, nth_1, nth_2, nth_3, nth_4, nth_5, nth_6, nth_7, nth_8, nth_9, nth_10, nth_11, nth_12, nth_13, setL_0, setL_1, setL_2, setL_3, setL_4, setL_5, setL_6, setL_7, setL_8, setL_9, setL_10, setL_11, setL_12, setL_13]
  refine (require_wp k).mono ?_
  rintro _ s1 ⟨rfl, ho1⟩
  simp only [wp_ok, wp_then, wp_lift, wp_run, sw_seq, sw_skip, sw_break, sw_cont, sw_ret, sw_retN, sw_exp, sw_if, sw_asg, sw_par, sw_for, sw_while, wp_c, wp_var, wp_gvar, wp_op2, wp_op1, wp_bool, wp_tru, wp_and, wp_or, wp_notT, wp_if, wp_andV, wp_orV, wp_not, wp_nil, wp_cons, wp_tup, wp_lst, wp_call, wp_fn, wp_gnil, wp_gcons, wp_gtup, wp_gsub, wp_chain, wp_comp, wp_yes, wp_seqI, wp_rng1, wp_noPart, wp_part, wp_sl, wp_pnil, wp_pcons, ret_some, ret_mod, ret_fdiv, ret_mul, ret_pow, opSub_i, opAdd_i, opNeg_i, opLt_i, opLe_i, opGt_i, opGe_i, opMax_i, opMax_i3, opMin_i, opAbs_i, opInt_i, opInt_b, truW_bl, truW_int, Option.some.injEq, exists_eq_left', W.bl.injEq, W.int.injEq, W.tup.injEq, List.cons.injEq, and_true, true_and, List.length_cons, List.length_nil, Nat.reduceAdd, reduceCtorEq, false_and, or_false, false_or, exists_false, nth_0, nth_1, nth_2, nth_3, nth_4, nth_5, nth_6, nth_7, nth_8, nth_9, nth_10, nth_11, nth_12, nth_13, setL_0, setL_1, setL_2, setL_3, setL_4, setL_5, setL_6, setL_7, setL_8, setL_9, setL_10, setL_11, setL_12, setL_13, ret_of ix0, ret_of ix1]
  have l1 := log_lo h.lo.1
  have l2 := log_lo h.lo.2
  have l3 := log_lo k.lo.1
  have l4 := log_lo k.lo.2
  refine ⟨by omega, by omega, by omega, (fraction_in_wp (Int.mul_pos h.p k.p) (big_lo (mul_lo h.lo.2 k.lo.2))).mono ?_⟩
  rintro _ _ ⟨rfl, rfl⟩
  exact ⟨rfl, ho.trans ho1⟩
theorem multiplied_wp {a b c d : Int} {st : Sto} (h : Fr a b) (k : Fr c d) : Wp (m_multiplied [.tup [.int a, .int b], .tup [.int c, .int d]] st) fun r s => r = frI (a * c) (b * d) ∧ Old st s := by
  unfold m_multiplied b_multiplied
  simp only [wp_ok, wp_then, wp_lift, wp_run, sw_seq, sw_skip, sw_break, sw_cont, sw_ret, sw_retN, sw_exp, sw_if, sw_asg, sw_par, sw_for, sw_while, wp_c, wp_var, wp_gvar, wp_op2, wp_op1, wp_bool, wp_tru, wp_and, wp_or, wp_notT, wp_if, wp_andV, wp_orV, wp_not, wp_nil, wp_cons, wp_tup, wp_lst, wp_call, wp_fn, wp_gnil, wp_gcons, wp_gtup, wp_gsub, wp_chain, wp_comp, wp_yes, wp_seqI, wp_rng1, wp_noPart, wp_part, wp_sl, wp_pnil, wp_pcons, ret_some, ret_mod, ret_fdiv, ret_mul, ret_pow, opSub_i, opAdd_i, opNeg_i, opLt_i, opLe_i, opGt_i, opGe_i, opMax_i, opMax_i3, opMin_i, opAbs_i, opInt_i, opInt_b, truW_bl, truW_int, Option.some.injEq, exists_eq_left', W.bl.injEq, W.int.injEq, W.tup.injEq, List.cons.injEq, and_true, true_and, List.length_cons, List.length_nil, Nat.reduceAdd, reduceCtorEq, false_and, or_false, false_or, exists_false, nth_0, nth_1, nth_2, nth_3, nth_4, nth_5, nth_6, nth_7, nth_8, nth_9, nth_10, nth_11, nth_12, nth_13, setL_0, setL_1, setL_2, setL_3, setL_4, setL_5, setL_6, setL_7, setL_8, setL_9, setL_10, setL_11, setL_12, setL_13, show initL 2 [W.tup [.int a, .int b], .tup [.int c, .int d]] = [some (.tup [.int a, .int b]), some (.tup [.int c, .int d])] from rfl]
  refine (require_wp h).mono ?_
  rintro _ s ⟨rfl, ho⟩
  try simp only [wp_ok, wp_then, wp_lift, wp_run, sw_seq, sw_skip, sw_break, sw_cont, sw_ret, sw_retN, sw_exp, sw_if, sw_asg, sw_par, sw_for, sw_while, wp_c, wp_var, wp_gvar, wp_op2, wp_op1, wp_bool, wp_tru, wp_and, wp_or, wp_notT, wp_if, wp_andV, wp_orV, wp_not, wp_nil, wp_cons, wp_tup, wp_lst, wp_call, wp_fn, wp_gnil, wp_gcons, wp_gtup, wp_gsub, wp_chain, wp_comp, wp_yes, wp_seqI, wp_rng1, wp_noPart, wp_part, wp_sl, wp_pnil, wp_pcons, ret_some, ret_mod, ret_fdiv, ret_mul, ret_pow, opSub_i, opAdd_i, opNeg_i, opLt_i, opLe_i, opGt_i, opGe_i, opMax_i, opMax_i3, opMin_i, opAbs_i, opInt_i, opInt_b, truW_bl, truW_int, Option.some.injEq, exists_eq_left', W.bl.injEq, W.int.injEq, W.tup.injEq, List.cons.injEq, and_true, true_and, List.length_cons, List.length_nil, Nat.reduceAdd, reduceCtorEq, false_and, or_false, false_or, exists_false, nth_0, nth_1, nth_2, nth_3, nth_4, nth_5, nth_6, nth_7, nth_8, nth_9, nth_10, nth_11, nth_12, nth_13, setL_0, setL_1, setL_2, setL_3, setL_4, setL_5, setL_6, setL_7, setL_8, setL_9, setL_10, setL_11, setL_12, setL_13]
  refine (require_wp k).mono ?_
  rintro _ s1 ⟨rfl, ho1⟩
  simp only [wp_ok, wp_then, wp_lift, wp_run, sw_seq, sw_skip, sw_break, sw_cont, sw_ret, sw_retN, sw_exp, sw_if, sw_asg, sw_par, sw_for, sw_while, wp_c, wp_var, wp_gvar, wp_op2, wp_op1, wp_bool, wp_tru, wp_and, wp_or, wp_notT, wp_if, wp_andV, wp_orV, wp_not, wp_nil, wp_cons, wp_tup, wp_lst, wp_call, wp_fn, wp_gnil, wp_gcons, wp_gtup, wp_gsub, wp_chain, wp_comp, wp_yes, wp_seqI, wp_rng1, wp_noPart, wp_part, wp_sl, wp_pnil, wp_pcons, ret_some, ret_mod, ret_fdiv, ret_mul, ret_pow, opSub_i, opAdd_i, opNeg_i, opLt_i, opLe_i, opGt_i, opGe_i, opMax_i, opMax_i3, opMin_i, opAbs_i, opInt_i, opInt_b, truW_bl, truW_int, Option.some.injEq, exists_eq_left', W.bl.injEq, W.int.injEq, W.tup.injEq, List.cons.injEq, and_true, true_and, List.length_cons, List.length_nil, Nat.reduceAdd, reduceCtorEq, false_and, or_false, false_or, exists_false, nth_0, nth_1, nth_2, nth_3, nth_4, nth_5, nth_6, nth_7, nth_8, nth_9, nth_10, nth_11, nth_12, nth_13, setL_0, setL_1, setL_2, setL_3, setL_4, setL_5, setL_6, setL_7, setL_8, setL_9, setL_10, setL_11, setL_12, setL_13, ret_of ix0, ret_of ix1]
  have l1 := log_lo h.lo.1
  have l2 := log_lo h.lo.2
  have l3 := log_lo k.lo.1
  have l4 := log_lo k.lo.2
  refine ⟨by omega, by omega, (fraction_in_wp (Int.mul_pos h.p k.p) (big_lo (mul_lo h.lo.2 k.lo.2))).mono ?_⟩
  rintro _ _ ⟨rfl, rfl⟩
  exact ⟨rfl, ho.trans ho1⟩
theorem rest_wp {a b : Int} {st : Sto} (h : Fr a b) : Wp (m_rest [.tup [.int a, .int b]] st) fun r s => r = frI (b - a) b ∧ Old st s := by
  unfold m_rest b_rest
  simp only [wp_ok, wp_then, wp_lift, wp_run, sw_seq, sw_skip, sw_break, sw_cont, sw_ret, sw_retN, sw_exp, sw_if, sw_asg, sw_par, sw_for, sw_while, wp_c, wp_var, wp_gvar, wp_op2, wp_op1, wp_bool, wp_tru, wp_and, wp_or, wp_notT, wp_if, wp_andV, wp_orV, wp_not, wp_nil, wp_cons, wp_tup, wp_lst, wp_call, wp_fn, wp_gnil, wp_gcons, wp_gtup, wp_gsub, wp_chain, wp_comp, wp_yes, wp_seqI, wp_rng1, wp_noPart, wp_part, wp_sl, wp_pnil, wp_pcons, ret_some, ret_mod, ret_fdiv, ret_mul, ret_pow, opSub_i, opAdd_i, opNeg_i, opLt_i, opLe_i, opGt_i, opGe_i, opMax_i, opMax_i3, opMin_i, opAbs_i, opInt_i, opInt_b, truW_bl, truW_int, Option.some.injEq, exists_eq_left', W.bl.injEq, W.int.injEq, W.tup.injEq, List.cons.injEq, and_true, true_and, List.length_cons, List.length_nil, Nat.reduceAdd, reduceCtorEq, false_and, or_false, false_or, exists_false, nth_0, nth_1, nth_2, nth_3, nth_4, nth_5, nth_6, nth_7, nth_8, nth_9, nth_10, nth_11, nth_12, nth_13, setL_0, setL_1, setL_2, setL_3, setL_4, setL_5, setL_6, setL_7, setL_8, setL_9, setL_10, setL_11, setL_12, setL_13, show initL 1 [W.tup [.int a, .int b]] = [some (.tup [.int a, .int b])] from rfl]
  refine (require_wp h).mono ?_
  rintro _ s ⟨rfl, ho⟩
  try simp only [wp_ok, wp_then, wp_lift, wp_run, sw_seq, sw_skip, sw_break, sw_cont, sw_ret, sw_retN, sw_exp, sw_if, sw_asg, sw_par, sw_for, sw_while, wp_c, wp_var, wp_gvar, wp_op2, wp_op1, wp_bool, wp_tru, wp_and, wp_or, wp_notT, wp_if, wp_andV, wp_orV, wp_not, wp_nil, wp_cons, wp_tup, wp_lst, wp_call, wp_fn, wp_gnil, wp_gcons, wp_gtup, wp_gsub, wp_chain, wp_comp, wp_yes, wp_seqI, wp_rng1, wp_noPart, wp_part, wp_sl, wp_pnil, wp_pcons, ret_some, ret_mod, ret_fdiv, ret_mul, ret_pow, opSub_i, opAdd_i, opNeg_i, opLt_i, opLe_i, opGt_i, opGe_i, opMax_i, opMax_i3, opMin_i, opAbs_i, opInt_i, opInt_b, truW_bl, truW_int, Option.some.injEq, exists_eq_left', W.bl.injEq, W.int.injEq, W.tup.injEq, List.cons.injEq, and_true, true_and, List.length_cons, List.length_nil, Nat.reduceAdd, reduceCtorEq, false_and, or_false, false_or, exists_false, nth_0, nth_1, nth_2, nth_3, nth_4, nth_5, nth_6, nth_7, nth_8, nth_9, nth_10, nth_11, nth_12, nth_13, setL_0, setL_1, setL_2, setL_3, setL_4, setL_5, setL_6, setL_7, setL_8, setL_9, setL_10, setL_11, setL_12, setL_13]
  unfold m_rest_in b_rest_in
  simp only [wp_ok, wp_then, wp_lift, wp_run, sw_seq, sw_skip, sw_break, sw_cont, sw_ret, sw_retN, sw_exp, sw_if, sw_asg, sw_par, sw_for, sw_while, wp_c, wp_var, wp_gvar, wp_op2, wp_op1, wp_bool, wp_tru, wp_and, wp_or, wp_notT, wp_if, wp_andV, wp_orV, wp_not, wp_nil, wp_cons, wp_tup, wp_lst, wp_call, wp_fn, wp_gnil, wp_gcons, wp_gtup, wp_gsub, wp_chain, wp_comp, wp_yes, wp_seqI, wp_rng1, wp_noPart, wp_part, wp_sl, wp_pnil, wp_pcons, ret_some, ret_mod, ret_fdiv, ret_mul, ret_pow, opSub_i, opAdd_i, opNeg_i, opLt_i, opLe_i, opGt_i, opGe_i, opMax_i, opMax_i3, opMin_i, opAbs_i, opInt_i, opInt_b, truW_bl, truW_int, Option.some.injEq, exists_eq_left', W.bl.injEq, W.int.injEq, W.tup.injEq, List.cons.injEq, and_true, true_and, List.length_cons, List.length_nil, Nat.reduceAdd, reduceCtorEq, false_and, or_false, false_or, exists_false, nth_0, nth_1, nth_2, nth_3, nth_4, nth_5, nth_6, nth_7, nth_8, nth_9, nth_10, nth_11, nth_12, nth_13, setL_0, setL_1, setL_2, setL_3, setL_4, setL_5, setL_6, setL_7, setL_8, setL_9, setL_10, setL_11, setL_12, setL_13, show initL 1 [W.tup [.int a, .int b]] = [some (.tup [.int a, .int b])] from rfl, ret_of ix0, ret_of ix1]
  refine (fraction_in_wp h.p h.big).mono ?_
  rintro _ _ ⟨rfl, rfl⟩
  exact ⟨rfl, ho⟩
theorem log_pow {x : Int} (h : x.natAbs < 2 ^ 400) (i : Nat) : Nat.log2 (x ^ i).natAbs ≤ 400 * i := by
  rw [Int.natAbs_pow]
  have h1 : x.natAbs ^ i ≤ (2 ^ 400) ^ i := Nat.pow_le_pow_left (Nat.le_of_lt h) i
  rw [← Nat.pow_mul] at h1
  have : x.natAbs ^ i < 2 ^ (400 * i + 1) := Nat.lt_of_le_of_lt h1 (Nat.pow_lt_pow_right (by decide) (Nat.lt_succ_self _))
  have := log2_lt_of this (by omega)
  omega
theorem power_wp {a b : Int} {t : Nat} {st : Sto} (h : Fr a b) (ht : t ≤ 1000) : Wp (m_power [.tup [.int a, .int b], .int t] st) fun r s => r = .tup [.int (a ^ t), .int (b ^ t)] ∧ Old st s := by
  unfold m_power b_power
  simp only [wp_ok, wp_then, wp_lift, wp_run, sw_seq, sw_skip, sw_break, sw_cont, sw_ret, sw_retN, sw_exp, sw_if, sw_asg, sw_par, sw_for, sw_while, wp_c, wp_var, wp_gvar, wp_op2, wp_op1, wp_bool, wp_tru, wp_and, wp_or, wp_notT, wp_if, wp_andV, wp_orV, wp_not, wp_nil, wp_cons, wp_tup, wp_lst, wp_call, wp_fn, wp_gnil, wp_gcons, wp_gtup, wp_gsub, wp_chain, wp_comp, wp_yes, wp_seqI, wp_rng1, wp_noPart, wp_part, wp_sl, wp_pnil, wp_pcons, ret_some, ret_mod, ret_fdiv, ret_mul, ret_pow, opSub_i, opAdd_i, opNeg_i, opLt_i, opLe_i, opGt_i, opGe_i, opMax_i, opMax_i3, opMin_i, opAbs_i, opInt_i, opInt_b, truW_bl, truW_int, Option.some.injEq, exists_eq_left', W.bl.injEq, W.int.injEq, W.tup.injEq, List.cons.injEq, and_true, true_and, List.length_cons, List.length_nil, Nat.reduceAdd, reduceCtorEq, false_and, or_false, false_or, exists_false, nth_0, nth_1, nth_2, nth_3, nth_4, nth_5, nth_6, nth_7, nth_8, nth_9, nth_10, nth_11, nth_12, nth_13, setL_0, setL_1, setL_2, setL_3, setL_4, setL_5, setL_6, setL_7, setL_8, setL_9, setL_10, setL_11, setL_12, setL_13, show initL 2 [W.tup [.int a, .int b], .int t] = [some (.tup [.int a, .int b]), some (.int t)] from rfl]
  refine (require_wp h).mono ?_
  rintro _ s ⟨rfl, ho⟩
  try simp only [wp_ok, wp_then, wp_lift, wp_run, sw_seq, sw_skip, sw_break, sw_cont, sw_ret, sw_retN, sw_exp, sw_if, sw_asg, sw_par, sw_for, sw_while, wp_c, wp_var, wp_gvar, wp_op2, wp_op1, wp_bool, wp_tru, wp_and, wp_or, wp_notT, wp_if, wp_andV, wp_orV, wp_not, wp_nil, wp_cons, wp_tup, wp_lst, wp_call, wp_fn, wp_gnil, wp_gcons, wp_gtup, wp_gsub, wp_chain, wp_comp, wp_yes, wp_seqI, wp_rng1, wp_noPart, wp_part, wp_sl, wp_pnil, wp_pcons, ret_some, ret_mod, ret_fdiv, ret_mul, ret_pow, opSub_i, opAdd_i, opNeg_i, opLt_i, opLe_i, opGt_i, opGe_i, opMax_i, opMax_i3, opMin_i, opAbs_i, opInt_i, opInt_b, truW_bl, truW_int, Option.some.injEq, exists_eq_left', W.bl.injEq, W.int.injEq, W.tup.injEq, List.cons.injEq, and_true, true_and, List.length_cons, List.length_nil, Nat.reduceAdd, reduceCtorEq, false_and, or_false, false_or, exists_false, nth_0, nth_1, nth_2, nth_3, nth_4, nth_5, nth_6, nth_7, nth_8, nth_9, nth_10, nth_11, nth_12, nth_13, setL_0, setL_1, setL_2, setL_3, setL_4, setL_5, setL_6, setL_7, setL_8, setL_9, setL_10, setL_11, setL_12, setL_13]
  refine (is_from_wp (by omega) (by omega)).mono ?_
  rintro _ _ ⟨rfl, rfl⟩
  simp only [wp_ok, wp_then, wp_lift, wp_run, sw_seq, sw_skip, sw_break, sw_cont, sw_ret, sw_retN, sw_exp, sw_if, sw_asg, sw_par, sw_for, sw_while, wp_c, wp_var, wp_gvar, wp_op2, wp_op1, wp_bool, wp_tru, wp_and, wp_or, wp_notT, wp_if, wp_andV, wp_orV, wp_not, wp_nil, wp_cons, wp_tup, wp_lst, wp_call, wp_fn, wp_gnil, wp_gcons, wp_gtup, wp_gsub, wp_chain, wp_comp, wp_yes, wp_seqI, wp_rng1, wp_noPart, wp_part, wp_sl, wp_pnil, wp_pcons, ret_some, ret_mod, ret_fdiv, ret_mul, ret_pow, opSub_i, opAdd_i, opNeg_i, opLt_i, opLe_i, opGt_i, opGe_i, opMax_i, opMax_i3, opMin_i, opAbs_i, opInt_i, opInt_b, truW_bl, truW_int, Option.some.injEq, exists_eq_left', W.bl.injEq, W.int.injEq, W.tup.injEq, List.cons.injEq, and_true, true_and, List.length_cons, List.length_nil, Nat.reduceAdd, reduceCtorEq, false_and, or_false, false_or, exists_false, nth_0, nth_1, nth_2, nth_3, nth_4, nth_5, nth_6, nth_7, nth_8, nth_9, nth_10, nth_11, nth_12, nth_13, setL_0, setL_1, setL_2, setL_3, setL_4, setL_5, setL_6, setL_7, setL_8, setL_9, setL_10, setL_11, setL_12, setL_13, Bool.not_true, Bool.false_eq_true, if_false]
  unfold m_power_in b_power_in
  simp only [wp_ok, wp_then, wp_lift, wp_run, sw_seq, sw_skip, sw_break, sw_cont, sw_ret, sw_retN, sw_exp, sw_if, sw_asg, sw_par, sw_for, sw_while, wp_c, wp_var, wp_gvar, wp_op2, wp_op1, wp_bool, wp_tru, wp_and, wp_or, wp_notT, wp_if, wp_andV, wp_orV, wp_not, wp_nil, wp_cons, wp_tup, wp_lst, wp_call, wp_fn, wp_gnil, wp_gcons, wp_gtup, wp_gsub, wp_chain, wp_comp, wp_yes, wp_seqI, wp_rng1, wp_noPart, wp_part, wp_sl, wp_pnil, wp_pcons, ret_some, ret_mod, ret_fdiv, ret_mul, ret_pow, opSub_i, opAdd_i, opNeg_i, opLt_i, opLe_i, opGt_i, opGe_i, opMax_i, opMax_i3, opMin_i, opAbs_i, opInt_i, opInt_b, truW_bl, truW_int, Option.some.injEq, exists_eq_left', W.bl.injEq, W.int.injEq, W.tup.injEq, List.cons.injEq, and_true, true_and, List.length_cons, List.length_nil, Nat.reduceAdd, reduceCtorEq, false_and, or_false, false_or, exists_false, nth_0, nth_1, nth_2, nth_3, nth_4, nth_5, nth_6, nth_7, nth_8, nth_9, nth_10, nth_11, nth_12, nth_13, setL_0, setL_1, setL_2, setL_3, setL_4, setL_5, setL_6, setL_7, setL_8, setL_9, setL_10, setL_11, setL_12, setL_13, show initL 5 [W.tup [.int a, .int b], .int t] = [some (.tup [.int a, .int b]), some (.int t), none, none, none] from rfl]
  refine ⟨by decide, by omega, ?_⟩
  rw [Int.toNat_natCast]
  rename_i s0
  refine sw_forI t (fun i l s' => ∃ x, l = [some (.tup [.int a, .int b]), some (.int t), some (.int (a ^ i)), some (.int (b ^ i)), x] ∧ s' = s0) ?_ ?_ lotN 0 _ _ ⟨none, by rw [Int.pow_zero, Int.pow_zero], rfl⟩ (Nat.zero_le _) ?_
  · rintro l s' ⟨x, rfl, rfl⟩
    refine ⟨rng_end, ?_⟩
    try simp only [wp_ok, wp_then, wp_lift, wp_run, sw_seq, sw_skip, sw_break, sw_cont, sw_ret, sw_retN, sw_exp, sw_if, sw_asg, sw_par, sw_for, sw_while, wp_c, wp_var, wp_gvar, wp_op2, wp_op1, wp_bool, wp_tru, wp_and, wp_or, wp_notT, wp_if, wp_andV, wp_orV, wp_not, wp_nil, wp_cons, wp_tup, wp_lst, wp_call, wp_fn, wp_gnil, wp_gcons, wp_gtup, wp_gsub, wp_chain, wp_comp, wp_yes, wp_seqI, wp_rng1, wp_noPart, wp_part, wp_sl, wp_pnil, wp_pcons, ret_some, ret_mod, ret_fdiv, ret_mul, ret_pow, opSub_i, opAdd_i, opNeg_i, opLt_i, opLe_i, opGt_i, opGe_i, opMax_i, opMax_i3, opMin_i, opAbs_i, opInt_i, opInt_b, truW_bl, truW_int, Option.some.injEq, exists_eq_left', W.bl.injEq, W.int.injEq, W.tup.injEq, List.cons.injEq, and_true, true_and, List.length_cons, List.length_nil, Nat.reduceAdd, reduceCtorEq, false_and, or_false, false_or, exists_false, nth_0, nth_1, nth_2, nth_3, nth_4, nth_5, nth_6, nth_7, nth_8, nth_9, nth_10, nth_11, nth_12, nth_13, setL_0, setL_1, setL_2, setL_3, setL_4, setL_5, setL_6, setL_7, setL_8, setL_9, setL_10, setL_11, setL_12, setL_13]
    exact ⟨by decide, ho⟩
  · rintro i l s' hi ⟨x, rfl, rfl⟩
    refine ⟨_, rng_next hi, ?_⟩
    simp only [wp_ok, wp_then, wp_lift, wp_run, sw_seq, sw_skip, sw_break, sw_cont, sw_ret, sw_retN, sw_exp, sw_if, sw_asg, sw_par, sw_for, sw_while, wp_c, wp_var, wp_gvar, wp_op2, wp_op1, wp_bool, wp_tru, wp_and, wp_or, wp_notT, wp_if, wp_andV, wp_orV, wp_not, wp_nil, wp_cons, wp_tup, wp_lst, wp_call, wp_fn, wp_gnil, wp_gcons, wp_gtup, wp_gsub, wp_chain, wp_comp, wp_yes, wp_seqI, wp_rng1, wp_noPart, wp_part, wp_sl, wp_pnil, wp_pcons, ret_some, ret_mod, ret_fdiv, ret_mul, ret_pow, opSub_i, opAdd_i, opNeg_i, opLt_i, opLe_i, opGt_i, opGe_i, opMax_i, opMax_i3, opMin_i, opAbs_i, opInt_i, opInt_b, truW_bl, truW_int, Option.some.injEq, exists_eq_left', W.bl.injEq, W.int.injEq, W.tup.injEq, List.cons.injEq, and_true, true_and, List.length_cons, List.length_nil, Nat.reduceAdd, reduceCtorEq, false_and, or_false, false_or, exists_false, nth_0, nth_1, nth_2, nth_3, nth_4, nth_5, nth_6, nth_7, nth_8, nth_9, nth_10, nth_11, nth_12, nth_13, setL_0, setL_1, setL_2, setL_3, setL_4, setL_5, setL_6, setL_7, setL_8, setL_9, setL_10, setL_11, setL_12, setL_13, ret_of ix0, ret_of ix1]
    have l1 := log_pow h.lo.1 i
    have l2 := log_pow h.lo.2 i
    have l3 := log_lo h.lo.1
    have l4 := log_lo h.lo.2
    exact ⟨by omega, by omega, _, _, ⟨rfl, rfl⟩, _, by rw [Int.pow_succ], by rw [Int.pow_succ], rfl⟩
  · exact Nat.lt_of_le_of_lt (show t ≤ 1000 from ht) (by decide)

/-! ### what the law draws -/
theorem len_lst {n : Nat} {xs : List W} {s : Sto} (e : s.get n = some (.lst xs)) : opLen [.obj n] s = some (.int xs.length, s) := by
  show (match s.get n with
    | some (.lst xs) => some (W.int xs.length, s)
    | _ => none) = _
  rw [e]
theorem pick_wp {n m B : Nat} {xs : List W} {st : Sto} {Q : W → Sto → Prop} (hd : Dz st n (B + 1)) (e : st.get m = some (.lst xs)) (hm : m ≠ n) (h0 : 0 < xs.length) (h1 : xs.length < 2 ^ 20) (h : ∀ x ∈ xs, ∀ s, Dz s n B → OldX n st s → Q x s) : Wp (m__law_pick [.obj n, .obj m] st) Q := by
  unfold m__law_pick b__law_pick
  simp only [wp_ok, wp_then, wp_lift, wp_run, sw_seq, sw_skip, sw_break, sw_cont, sw_ret, sw_retN, sw_exp, sw_if, sw_asg, sw_par, sw_for, sw_while, wp_c, wp_var, wp_gvar, wp_op2, wp_op1, wp_bool, wp_tru, wp_and, wp_or, wp_notT, wp_if, wp_andV, wp_orV, wp_not, wp_nil, wp_cons, wp_tup, wp_lst, wp_call, wp_fn, wp_gnil, wp_gcons, wp_gtup, wp_gsub, wp_chain, wp_comp, wp_yes, wp_seqI, wp_rng1, wp_noPart, wp_part, wp_sl, wp_pnil, wp_pcons, ret_some, ret_mod, ret_fdiv, ret_mul, ret_pow, opSub_i, opAdd_i, opNeg_i, opLt_i, opLe_i, opGt_i, opGe_i, opMax_i, opMax_i3, opMin_i, opAbs_i, opInt_i, opInt_b, truW_bl, truW_int, Option.some.injEq, exists_eq_left', W.bl.injEq, W.int.injEq, W.tup.injEq, List.cons.injEq, and_true, true_and, List.length_cons, List.length_nil, Nat.reduceAdd, reduceCtorEq, false_and, or_false, false_or, exists_false, nth_0, nth_1, nth_2, nth_3, nth_4, nth_5, nth_6, nth_7, nth_8, nth_9, nth_10, nth_11, nth_12, nth_13, setL_0, setL_1, setL_2, setL_3, setL_4, setL_5, setL_6, setL_7, setL_8, setL_9, setL_10, setL_11, setL_12, setL_13, show initL 2 [W.obj n, .obj m] = [some (.obj n), some (.obj m)] from rfl, ret_of (len_lst e)]
  have hlog : Nat.log2 ((xs.length : Nat) : Int).natAbs < 20 := log2_int (by rw [Int.natAbs_natCast]; exact h1) (by decide)
  refine wp_roll hd (by omega) (by omega) fun i s hi d o => ?_
  have hi : i < xs.length := by omega
  have e2 := o.get hm e
  rw [ret_of (ix_lst (w := xs[i]) e2 ?_)]
  · exact h _ (List.getElem_mem hi) s d o
  · unfold L2.atI ixN
    rw [if_pos (by omega), if_pos (by omega)]
    show xs[(i : Int).toNat]? = _
    rw [Int.toNat_natCast, List.getElem?_eq_getElem hi]
theorem rep_list (z : Array Nat) : ∀ (k : Nat) (a : Array Nat), ((List.replicate k z).foldl (· ++ ·) a).toList = a.toList ++ (List.replicate k z.toList).flatten
  | 0, a => by simp
  | k + 1, a => by
    rw [List.replicate_succ, List.foldl_cons, rep_list z k, List.replicate_succ, List.flatten_cons, Array.toList_append, List.append_assoc]
theorem ten_list (k : Nat) : (Str.ofString "1" ++ repS (Str.ofString "0") k).cps.toList = 49 :: List.replicate k 48 := by
  have e : (Str.ofString "1" ++ repS (Str.ofString "0") k).cps.toList = (Str.ofString "1").cps.toList ++ (repS (Str.ofString "0") k).cps.toList := Array.toList_append
  rw [e]
  unfold repS
  rw [rep_list]
  have e1 : (Str.ofString "1").cps.toList = [49] := by decide +kernel
  have e0 : (Str.ofString "0").cps.toList = [48] := by decide +kernel
  rw [e1, e0]
  have : ∀ k : Nat, (List.replicate k [48]).flatten = List.replicate k 48 := by
    intro k
    induction k with
    | zero => rfl
    | succ k ih => rw [List.replicate_succ, List.flatten_cons, ih, List.replicate_succ]; rfl
  rw [this]
  rfl
theorem ten_val : ∀ (k acc : Nat), (List.replicate k 48).foldl (fun acc c => acc * 10 + (c - 48)) acc = acc * 10 ^ k
  | 0, acc => by simp
  | k + 1, acc => by
    rw [List.replicate_succ, List.foldl_cons, ten_val k]
    show (acc * 10 + 0) * 10 ^ k = _
    rw [Nat.add_zero, Nat.pow_succ, Nat.mul_assoc, Nat.mul_comm 10]
theorem ten_len (k : Nat) : (Str.ofString "1" ++ repS (Str.ofString "0") k).length = k + 1 := by
  have h := congrArg List.length (ten_list k)
  rw [Array.length_toList, List.length_cons, List.length_replicate] at h
  exact h
theorem tens (k : Nat) (hk : k < 99) : Nat.ble ((Str.ofString "1").length + (repS (Str.ofString "0") k).length) lineN = true ∧ PySem.intText? (Str.ofString "1" ++ repS (Str.ofString "0") k) = some (10 ^ k) ∧ Nat.ble (Str.ofString "1" ++ repS (Str.ofString "0") k).length 640 = true := by
  have hl := ten_len k
  refine ⟨?_, ?_, ?_⟩
  · have e : (Str.ofString "1" ++ repS (Str.ofString "0") k).length = (Str.ofString "1").length + (repS (Str.ofString "0") k).length := strLen_append _ _
    rw [← e, hl]
    exact Nat.ble_eq.mpr (Nat.le_trans (show k + 1 ≤ 99 from hk) (by decide))
  · rw [intText_digits (x := Str.ofString "1" ++ repS (Str.ofString "0") k) ?_ ?_ (by omega)]
    · rw [ten_list]
      show some (((49 :: List.replicate k 48).foldl (fun acc c => acc * 10 + (c - 48)) 0 : Nat) : Int) = _
      rw [List.foldl_cons, ten_val]
      show some (((1 * 10 ^ k : Nat)) : Int) = _
      rw [Nat.one_mul, Int.natCast_pow]
      rfl
    · rw [ten_list]
      intro c hc
      rcases List.mem_cons.mp hc with rfl | hc
      · decide
      · rw [(List.mem_replicate.mp hc).2]; decide
    · rw [ten_list]
      exact List.cons_ne_nil _ _
  · rw [hl]
    exact Nat.ble_eq.mpr (by omega)
theorem tens_le : ∀ k : Nat, k < 99 → (10 : Int) ^ k ≤ 10 ^ 98 := by decide +kernel
theorem tens_ge (k : Nat) : (0 : Int) ≤ 10 ^ k := Int.le_of_lt (Int.pow_pos (by decide))
theorem ret_add_tens {k : Nat} {s : Sto} {P : W → Sto → Prop} (h : k < 99) : Ret (opAdd (.str (Str.ofString "1")) (.str (repS (Str.ofString "0") k)) s) P ↔ P (.str (Str.ofString "1" ++ repS (Str.ofString "0") k)) s := by
  refine ret_of ?_
  show (bif Nat.ble ((Str.ofString "1").length + (repS (Str.ofString "0") k).length) lineN then _ else _) = _
  rw [(tens k h).1]
  rfl
theorem ret_int_tens {k : Nat} {s : Sto} {P : W → Sto → Prop} (h : k < 99) : Ret (opInt [.str (Str.ofString "1" ++ repS (Str.ofString "0") k)] s) P ↔ P (.int (10 ^ k)) s := by
  refine ret_of ?_
  show (bif Nat.ble (Str.ofString "1" ++ repS (Str.ofString "0") k).length 640 then (match PySem.intText? (Str.ofString "1" ++ repS (Str.ofString "0") k) with
    | some n => some (W.int n, s)
    | none => none) else none) = _
  rw [(tens k h).2.2, (tens k h).2.1]
  rfl
/-- a drawn number -/
def Num (v : Int) : Prop := v.natAbs ≤ 10 ^ 98 + 7
theorem new_get {s : Sto} {o : Ob} : (s.new o).get s.n = some o := by rw [Sto.get_new, if_pos rfl]
theorem Dz.lt {s : Sto} {n B : Nat} (h : Dz s n B) : n < s.n := let ⟨_, h1, _⟩ := h; Sto.lt_of h1
theorem num_of {v : Int} (h1 : -(10 ^ 98 + 7) ≤ v) (h2 : v ≤ 10 ^ 98 + 7) : Num v := by unfold Num; omega
theorem number_wp {n B : Nat} {st : Sto} (hd : Dz st n (B + 4)) : Wp (m__law_fr_number [.obj n, .int 99] st) fun r s => (∃ v, r = .int v ∧ Num v) ∧ Dz s n B ∧ OldX n st s := by
  have tail : ∀ (x : Option W) (v : Int) (s : Sto), -(10 ^ 98 + 7) ≤ v → v ≤ 10 ^ 98 + 7 → Dz s n (B + 1) → OldX n st s →
      SWp (mRet (mIf (mBool (mOp2 opGt (mFn 2 m__law_roll (mCons (mVar 0) (mCons (mC (.int 3)) mNil))) (mC (.int 0)))) (mVar 3) (mOp2 opSub (mC (.int 0)) (mVar 3))) [some (.obj n), some (.int 99), x, some (.int v)] s) (fun _ s => (∃ v, W.non = .int v ∧ Num v) ∧ Dz s n B ∧ OldX n st s) (fun r s => (∃ v, r = .int v ∧ Num v) ∧ Dz s n B ∧ OldX n st s) (fun _ _ => False) fun _ _ => False := by
    intro x v s h1 h2 d o
    simp only [wp_ok, wp_then, wp_lift, wp_run, sw_seq, sw_skip, sw_break, sw_cont, sw_ret, sw_retN, sw_exp, sw_if, sw_asg, sw_par, sw_for, sw_while, wp_c, wp_var, wp_gvar, wp_op2, wp_op1, wp_bool, wp_tru, wp_and, wp_or, wp_notT, wp_if, wp_andV, wp_orV, wp_not, wp_nil, wp_cons, wp_tup, wp_lst, wp_call, wp_fn, wp_gnil, wp_gcons, wp_gtup, wp_gsub, wp_chain, wp_comp, wp_yes, wp_seqI, wp_rng1, wp_noPart, wp_part, wp_sl, wp_pnil, wp_pcons, ret_some, ret_mod, ret_fdiv, ret_mul, ret_pow, opSub_i, opAdd_i, opNeg_i, opLt_i, opLe_i, opGt_i, opGe_i, opMax_i, opMax_i3, opMin_i, opAbs_i, opInt_i, opInt_b, truW_bl, truW_int, Option.some.injEq, exists_eq_left', W.bl.injEq, W.int.injEq, W.tup.injEq, List.cons.injEq, and_true, true_and, List.length_cons, List.length_nil, Nat.reduceAdd, reduceCtorEq, false_and, or_false, false_or, exists_false, nth_0, nth_1, nth_2, nth_3, nth_4, nth_5, nth_6, nth_7, nth_8, nth_9, nth_10, nth_11, nth_12, nth_13, setL_0, setL_1, setL_2, setL_3, setL_4, setL_5, setL_6, setL_7, setL_8, setL_9, setL_10, setL_11, setL_12, setL_13]
    refine wp_roll d (by decide) (by decide) fun i s1 hi d1 o1 => ?_
    simp only [wp_ok, wp_then, wp_lift, wp_run, sw_seq, sw_skip, sw_break, sw_cont, sw_ret, sw_retN, sw_exp, sw_if, sw_asg, sw_par, sw_for, sw_while, wp_c, wp_var, wp_gvar, wp_op2, wp_op1, wp_bool, wp_tru, wp_and, wp_or, wp_notT, wp_if, wp_andV, wp_orV, wp_not, wp_nil, wp_cons, wp_tup, wp_lst, wp_call, wp_fn, wp_gnil, wp_gcons, wp_gtup, wp_gsub, wp_chain, wp_comp, wp_yes, wp_seqI, wp_rng1, wp_noPart, wp_part, wp_sl, wp_pnil, wp_pcons, ret_some, ret_mod, ret_fdiv, ret_mul, ret_pow, opSub_i, opAdd_i, opNeg_i, opLt_i, opLe_i, opGt_i, opGe_i, opMax_i, opMax_i3, opMin_i, opAbs_i, opInt_i, opInt_b, truW_bl, truW_int, Option.some.injEq, exists_eq_left', W.bl.injEq, W.int.injEq, W.tup.injEq, List.cons.injEq, and_true, true_and, List.length_cons, List.length_nil, Nat.reduceAdd, reduceCtorEq, false_and, or_false, false_or, exists_false, nth_0, nth_1, nth_2, nth_3, nth_4, nth_5, nth_6, nth_7, nth_8, nth_9, nth_10, nth_11, nth_12, nth_13, setL_0, setL_1, setL_2, setL_3, setL_4, setL_5, setL_6, setL_7, setL_8, setL_9, setL_10, setL_11, setL_12, setL_13]
    split
    · exact ⟨num_of h1 h2, d1, o.trans o1⟩
    · exact ⟨num_of (by omega) (by omega), d1, o.trans o1⟩
  unfold m__law_fr_number b__law_fr_number
  refine wp_run.mpr (sw_seq.mpr (sw_asg.mpr ?_))
  simp only [wp_fn, wp_cons, wp_nil, wp_var, wp_c, wp_gvar, show initL 4 [W.obj n, .int 99] = [some (.obj n), some (.int 99), none, none] from rfl, nth_0, nth_1, Option.some.injEq, exists_eq_left', setL_2, List.length_cons, List.length_nil, true_and]
  refine wp_roll (B := B + 3) hd (by decide) (by decide) fun i s hi d o => ?_
  refine sw_seq.mpr (sw_if.mpr ?_)
  simp only [wp_bool, wp_op2, wp_var, wp_c, nth_2, Option.some.injEq, exists_eq_left', ret_some, opLt_i, W.bl.injEq, decide_eq_true_eq]
  split
  · refine sw_asg.mpr ?_
    simp only [wp_fn, wp_cons, wp_nil, wp_var, wp_c, wp_lst, nth_0, Option.some.injEq, exists_eq_left', List.length_cons, List.length_nil, wp_gvar, setL_3]
    refine ⟨by decide, trivial, ?_⟩
    refine pick_wp (B := B + 2) ((d.mono (by omega)).old Old.new) new_get (Nat.ne_of_gt (Dz.lt d)) (by decide) (by decide) fun x hx s1 d1 o1 => ?_
    obtain ⟨v, rfl, h1, h2⟩ : ∃ v : Int, x = .int v ∧ 0 ≤ v ∧ v ≤ 35 := by
      simp only [List.mem_cons, List.mem_nil_iff, or_false] at hx
      rcases hx with rfl | rfl | rfl | rfl | rfl | rfl | rfl <;> exact ⟨_, rfl, by decide, by decide⟩
    exact tail _ v s1 (by omega) (by omega) (d1.mono (by omega)) (o.trans (Old.new.x.trans o1))
  · refine sw_if.mpr ?_
    simp only [wp_bool, wp_op2, wp_var, wp_c, nth_2, Option.some.injEq, exists_eq_left', ret_some, ret_of opEq_i, W.bl.injEq, decide_eq_true_eq]
    split
    · refine sw_asg.mpr ?_
      simp only [wp_fn, wp_cons, wp_nil, wp_var, wp_c, wp_op2, ret_pow, nth_0, Option.some.injEq, exists_eq_left', List.length_cons, List.length_nil, wp_gvar, setL_3]
      refine ⟨⟨by decide, by decide +kernel⟩, trivial, ?_⟩
      refine wp_roll (B := B + 2) (t := (10 : Int) ^ 6) d (by decide +kernel) (by decide +kernel) fun v s1 hv d1 o1 => ?_
      have hv : (v : Int) < 1000000 := hv
      exact tail _ v s1 (by omega) (by omega) (d1.mono (by omega)) (o.trans o1)
    · refine sw_asg.mpr ?_
      simp only [wp_fn, wp_call, wp_cons, wp_nil, wp_var, wp_c, wp_op2, wp_lst, nth_0, nth_1, Option.some.injEq, exists_eq_left', List.length_cons, List.length_nil, wp_gvar, setL_3]
      refine ⟨trivial, wp_roll (B := B + 2) (t := 99) d (by decide) (by decide) fun k s1 hk d1 o1 => ?_⟩
      have hk : k < 99 := by omega
      rw [ret_mul_str (by omega) (by omega) (by decide) (by decide), Int.toNat_natCast, ret_add_tens hk, ret_int_tens hk]
      refine ⟨by decide, trivial, ?_⟩
      refine pick_wp (B := B + 1) (d1.old Old.new) new_get (Nat.ne_of_gt (Dz.lt d1)) (by decide) (by decide) fun x hx s2 d2 o2 => ?_
      obtain ⟨v, rfl, h1, h2⟩ : ∃ v : Int, x = .int v ∧ 0 ≤ v ∧ v ≤ 7 := by
        simp only [List.mem_cons, List.mem_nil_iff, or_false] at hx
        rcases hx with rfl | rfl | rfl <;> exact ⟨_, rfl, by decide, by decide⟩
      rw [ret_of opSub_i]
      have t1 := tens_le k hk
      have t2 := tens_ge k
      exact tail _ _ s2 (by omega) (by omega) d2 (o.trans (o1.trans (Old.new.x.trans o2)))

theorem max3 (b : Int) : 0 < maxI (maxI 1 b) (-b) ∧ (maxI (maxI 1 b) (-b) ≤ 1 ∨ maxI (maxI 1 b) (-b) ≤ b.natAbs) := by
  unfold maxI
  split <;> split <;> omega
theorem frI_ok {v m : Int} (hv : Num v) (hm : 0 < m) (hm2 : Num m) : ∃ a b, frI v m = .tup [.int a, .int b] ∧ Fr a b ∧ Num a ∧ Num b := by
  refine ⟨_, _, rfl, ?_⟩
  have gp := gcd_pos (t := v) hm
  have g1 : (Int.gcd (v / Int.gcd v m) (m / Int.gcd v m)) = 1 := Int.gcd_ediv_gcd_ediv_gcd (by omega)
  have hb : 0 < m / Int.gcd v m := Int.ediv_pos_of_pos_of_dvd hm (by omega) (Int.gcd_dvd_right ..)
  have hb2 : m / Int.gcd v m ≤ m := Int.ediv_le_self _ (by omega)
  have ha : (v / Int.gcd v m).natAbs ≤ v.natAbs := by
    have e := Int.natAbs_mul (v / Int.gcd v m) (Int.gcd v m)
    rw [Int.ediv_mul_cancel (Int.gcd_dvd_left ..)] at e
    rw [e]
    exact Nat.le_mul_of_pos_right _ (by omega)
  unfold Num at hv hm2 ⊢
  unfold gr at *
  refine ⟨⟨hb, g1, ?_, ?_⟩, by omega, by omega⟩
  · unfold gr; omega
  · unfold gr; omega
theorem drawn_wp {n B : Nat} {st : Sto} (hd : Dz st n (B + 8)) : Wp (m__law_fr_drawn [.obj n, .int 99] st) fun r s => (∃ a b, r = .tup [.int a, .int b] ∧ Fr a b ∧ Num a ∧ Num b) ∧ Dz s n B ∧ OldX n st s := by
  unfold m__law_fr_drawn b__law_fr_drawn
  simp only [wp_ok, wp_then, wp_lift, wp_run, sw_seq, sw_skip, sw_break, sw_cont, sw_ret, sw_retN, sw_exp, sw_if, sw_asg, sw_par, sw_for, sw_while, wp_c, wp_var, wp_gvar, wp_op2, wp_op1, wp_bool, wp_tru, wp_and, wp_or, wp_notT, wp_if, wp_andV, wp_orV, wp_not, wp_nil, wp_cons, wp_tup, wp_lst, wp_call, wp_fn, wp_gnil, wp_gcons, wp_gtup, wp_gsub, wp_chain, wp_comp, wp_yes, wp_seqI, wp_rng1, wp_noPart, wp_part, wp_sl, wp_pnil, wp_pcons, ret_some, ret_mod, ret_fdiv, ret_mul, ret_pow, opSub_i, opAdd_i, opNeg_i, opLt_i, opLe_i, opGt_i, opGe_i, opMax_i, opMax_i3, opMin_i, opAbs_i, opInt_i, opInt_b, truW_bl, truW_int, Option.some.injEq, exists_eq_left', W.bl.injEq, W.int.injEq, W.tup.injEq, List.cons.injEq, and_true, true_and, List.length_cons, List.length_nil, Nat.reduceAdd, reduceCtorEq, false_and, or_false, false_or, exists_false, nth_0, nth_1, nth_2, nth_3, nth_4, nth_5, nth_6, nth_7, nth_8, nth_9, nth_10, nth_11, nth_12, nth_13, setL_0, setL_1, setL_2, setL_3, setL_4, setL_5, setL_6, setL_7, setL_8, setL_9, setL_10, setL_11, setL_12, setL_13, show initL 3 [W.obj n, .int 99] = [some (.obj n), some (.int 99), none] from rfl]
  refine (number_wp (B := B + 4) hd).mono ?_
  rintro _ s ⟨⟨b, rfl, hb⟩, d, o⟩
  try simp only [wp_ok, wp_then, wp_lift, wp_run, sw_seq, sw_skip, sw_break, sw_cont, sw_ret, sw_retN, sw_exp, sw_if, sw_asg, sw_par, sw_for, sw_while, wp_c, wp_var, wp_gvar, wp_op2, wp_op1, wp_bool, wp_tru, wp_and, wp_or, wp_notT, wp_if, wp_andV, wp_orV, wp_not, wp_nil, wp_cons, wp_tup, wp_lst, wp_call, wp_fn, wp_gnil, wp_gcons, wp_gtup, wp_gsub, wp_chain, wp_comp, wp_yes, wp_seqI, wp_rng1, wp_noPart, wp_part, wp_sl, wp_pnil, wp_pcons, ret_some, ret_mod, ret_fdiv, ret_mul, ret_pow, opSub_i, opAdd_i, opNeg_i, opLt_i, opLe_i, opGt_i, opGe_i, opMax_i, opMax_i3, opMin_i, opAbs_i, opInt_i, opInt_b, truW_bl, truW_int, Option.some.injEq, exists_eq_left', W.bl.injEq, W.int.injEq, W.tup.injEq, List.cons.injEq, and_true, true_and, List.length_cons, List.length_nil, Nat.reduceAdd, reduceCtorEq, false_and, or_false, false_or, exists_false, nth_0, nth_1, nth_2, nth_3, nth_4, nth_5, nth_6, nth_7, nth_8, nth_9, nth_10, nth_11, nth_12, nth_13, setL_0, setL_1, setL_2, setL_3, setL_4, setL_5, setL_6, setL_7, setL_8, setL_9, setL_10, setL_11, setL_12, setL_13]
  refine (number_wp d).mono ?_
  rintro _ s1 ⟨⟨v, rfl, hv⟩, d1, o1⟩
  try simp only [wp_ok, wp_then, wp_lift, wp_run, sw_seq, sw_skip, sw_break, sw_cont, sw_ret, sw_retN, sw_exp, sw_if, sw_asg, sw_par, sw_for, sw_while, wp_c, wp_var, wp_gvar, wp_op2, wp_op1, wp_bool, wp_tru, wp_and, wp_or, wp_notT, wp_if, wp_andV, wp_orV, wp_not, wp_nil, wp_cons, wp_tup, wp_lst, wp_call, wp_fn, wp_gnil, wp_gcons, wp_gtup, wp_gsub, wp_chain, wp_comp, wp_yes, wp_seqI, wp_rng1, wp_noPart, wp_part, wp_sl, wp_pnil, wp_pcons, ret_some, ret_mod, ret_fdiv, ret_mul, ret_pow, opSub_i, opAdd_i, opNeg_i, opLt_i, opLe_i, opGt_i, opGe_i, opMax_i, opMax_i3, opMin_i, opAbs_i, opInt_i, opInt_b, truW_bl, truW_int, Option.some.injEq, exists_eq_left', W.bl.injEq, W.int.injEq, W.tup.injEq, List.cons.injEq, and_true, true_and, List.length_cons, List.length_nil, Nat.reduceAdd, reduceCtorEq, false_and, or_false, false_or, exists_false, nth_0, nth_1, nth_2, nth_3, nth_4, nth_5, nth_6, nth_7, nth_8, nth_9, nth_10, nth_11, nth_12, nth_13, setL_0, setL_1, setL_2, setL_3, setL_4, setL_5, setL_6, setL_7, setL_8, setL_9, setL_10, setL_11, setL_12, setL_13]
  obtain ⟨m1, m2⟩ := max3 b
  have hm : Num (maxI (maxI 1 b) (-b)) := by unfold Num at hb ⊢; omega
  have hm3 : (maxI (maxI 1 b) (-b)).natAbs < 2 ^ 9000 := by
    have : (10 ^ 98 + 7 : Nat) < 2 ^ 9000 := by decide +kernel
    exact Nat.lt_of_le_of_lt hm this
  refine (fr_least_wp m1 hm3).mono ?_
  rintro _ _ ⟨rfl, rfl⟩
  exact ⟨frI_ok hv m1 hm, d1, o.trans o1⟩
/-- a fraction in its least terms stays as it is -/
theorem frI_one {a b : Int} (h : Int.gcd a b = 1) : frI a b = .tup [.int a, .int b] := by
  unfold frI
  rw [h]
  show W.tup [.int (a / 1), .int (b / 1)] = _
  rw [Int.ediv_one, Int.ediv_one]

/-! ### texts of values -/
theorem repr_of {w : W} {d : PyData} {s : Sto} (h : dat 40 s w = some d) (h1 : d.showable = true) (h2 : d.bulk ≤ 4000) : opRepr [w] s = some (.str d.shown, s) := by
  show (match dat 40 s w with
    | some d => bif d.showable && Nat.ble d.bulk 4000 then some (W.str d.shown, s) else none
    | none => none) = _
  rw [h]
  show (bif d.showable && Nat.ble d.bulk 4000 then some (W.str d.shown, s) else none) = _
  rw [h1, Nat.ble_eq.mpr h2]
  rfl
theorem ne_str {z : Str} {s : Sto} : opNe (.str z) (.str z) s = some (.bl false, s) := by
  show some (W.bl (!(z == z)), s) = _
  rw [show (z == z) = true from beq_self_eq_true z]
  rfl
theorem repr_bl {b : Bool} {s : Sto} : opRepr [.bl b] s = some (.str (PyData.shown (.bool b)), s) := repr_of (d := .bool b) rfl rfl (by cases b <;> decide)
theorem dat_pair {k : Nat} {a b : Int} {s : Sto} : dat (k + 2) s (.tup [.int a, .int b]) = some (.tuple [.int a, .int b]) := rfl
theorem show_pair {a b : Int} (ha : a.natAbs < 2 ^ 1900) (hb : b.natAbs < 2 ^ 1900) : PyData.showable (.tuple [.int a, .int b]) = true := by
  have h1 := log2_int ha (by decide)
  have h2 := log2_int hb (by decide)
  simp only [PyData.showable, PyData.showableAll, Bool.and_true, Bool.and_eq_true, decide_eq_true_eq]
  omega
theorem repr_pair {a b : Int} {s : Sto} (ha : a.natAbs < 2 ^ 1900) (hb : b.natAbs < 2 ^ 1900) : opRepr [.tup [.int a, .int b]] s = some (.str (PyData.shown (.tuple [.int a, .int b])), s) :=
  repr_of dat_pair (show_pair ha hb) (by simp [PyData.bulk, PyData.bulkAll])
/-- four fractions in a list -/
theorem repr_four {n : Nat} {s : Sto} {a1 b1 a2 b2 a3 b3 a4 b4 : Int} (e : s.get n = some (.lst [.tup [.int a1, .int b1], .tup [.int a2, .int b2], .tup [.int a3, .int b3], .tup [.int a4, .int b4]]))
    (h : a1.natAbs < 2 ^ 1900 ∧ b1.natAbs < 2 ^ 1900 ∧ a2.natAbs < 2 ^ 1900 ∧ b2.natAbs < 2 ^ 1900 ∧ a3.natAbs < 2 ^ 1900 ∧ b3.natAbs < 2 ^ 1900 ∧ a4.natAbs < 2 ^ 1900 ∧ b4.natAbs < 2 ^ 1900) :
    opRepr [.obj n] s = some (.str (PyData.shown (.list [.tuple [.int a1, .int b1], .tuple [.int a2, .int b2], .tuple [.int a3, .int b3], .tuple [.int a4, .int b4]])), s) := by
  obtain ⟨h1, h2, h3, h4, h5, h6, h7, h8⟩ := h
  refine repr_of ?_ ?_ (by simp [PyData.bulk, PyData.bulkAll])
  · unfold dat
    simp only [e]
    rfl
  · have s1 := show_pair h1 h2
    have s2 := show_pair h3 h4
    have s3 := show_pair h5 h6
    have s4 := show_pair h7 h8
    rw [show PyData.showable (.list [.tuple [.int a1, .int b1], .tuple [.int a2, .int b2], .tuple [.int a3, .int b3], .tuple [.int a4, .int b4]]) = (PyData.showable (.tuple [.int a1, .int b1]) && (PyData.showable (.tuple [.int a2, .int b2]) && (PyData.showable (.tuple [.int a3, .int b3]) && (PyData.showable (.tuple [.int a4, .int b4]) && true)))) from rfl, s1, s2, s3, s4]
    rfl

/-! ### one turn of the law -/
theorem Num.lo {v : Int} (h : Num v) : v.natAbs < 2 ^ 326 := by
  have : (10 ^ 98 + 7 : Nat) < 2 ^ 326 := by decide +kernel
  exact Nat.lt_of_le_of_lt h this
theorem lo_mid {v : Int} {k : Nat} (h : v.natAbs < 2 ^ 326) (hk : 326 ≤ k) : v.natAbs < 2 ^ k := Nat.lt_of_lt_of_le h (Nat.pow_le_pow_right (by decide) hk)
theorem frI_small {t b : Int} {k : Nat} (hb : 0 < b) (h1 : t.natAbs < 2 ^ k) (h2 : b.natAbs < 2 ^ k) : (t / Int.gcd t b).natAbs < 2 ^ k ∧ (b / Int.gcd t b).natAbs < 2 ^ k := by
  have gp := gcd_pos (t := t) hb
  have hx : ∀ x : Int, (Int.gcd t b : Int) ∣ x → (x / Int.gcd t b).natAbs ≤ x.natAbs := by
    intro x hx
    have e := Int.natAbs_mul (x / Int.gcd t b) (Int.gcd t b)
    rw [Int.ediv_mul_cancel hx] at e
    rw [e]
    exact Nat.le_mul_of_pos_right _ (by omega)
  exact ⟨Nat.lt_of_le_of_lt (hx t (Int.gcd_dvd_left ..)) h1, Nat.lt_of_le_of_lt (hx b (Int.gcd_dvd_right ..)) h2⟩
theorem pow_small {x : Int} (h : x.natAbs < 2 ^ 326) {i : Nat} (hi : i ≤ 5) : (x ^ i).natAbs < 2 ^ 1900 := by
  rw [Int.natAbs_pow]
  have h1 : x.natAbs ^ i ≤ (2 ^ 326) ^ i := Nat.pow_le_pow_left (Nat.le_of_lt h) i
  rw [← Nat.pow_mul] at h1
  exact Nat.lt_of_le_of_lt h1 (Nat.pow_lt_pow_right (by decide) (by omega))
theorem sum_small {x y : Int} {k : Nat} (hx : x.natAbs < 2 ^ k) (hy : y.natAbs < 2 ^ k) : (x + y).natAbs < 2 ^ (k + 1) ∧ (x - y).natAbs < 2 ^ (k + 1) := by
  rw [Nat.pow_succ]
  omega
theorem ret_cat {m k : Nat} {xs ys : List W} {s : Sto} {P : W → Sto → Prop} (h1 : s.get m = some (.lst xs)) (h2 : s.get k = some (.lst ys)) (h : xs.length + ys.length ≤ 1000) : Ret (opAdd (.obj m) (.obj k) s) P ↔ P (.obj s.n) (s.new (.lst (xs ++ ys))) := by
  refine ret_of ?_
  unfold opAdd
  simp only [h1, h2]
  rw [Nat.ble_eq.mpr (Nat.le_trans h (by decide))]
  rfl
theorem ret_catT {xs ys : List W} {s : Sto} {P : W → Sto → Prop} (h : xs.length + ys.length ≤ 1000) : Ret (opAdd (.tup xs) (.tup ys) s) P ↔ P (.tup (xs ++ ys)) s := by
  refine ret_of ?_
  show (bif Nat.ble (xs.length + ys.length) lineN then _ else _) = _
  rw [Nat.ble_eq.mpr (Nat.le_trans h (by decide))]
  rfl
/-- an item of near, from s on, whatever happens to the object m -/
def Good (m : Nat) (s : Sto) (it : W) : Prop := ∃ v b, it = .tup [v, .bl b] ∧ ∀ s', OldX m s s' → FrS v b s'
theorem Good.old {m m2 : Nat} {s s' : Sto} {it : W} (h : Good m s it) (o : OldX m s s') (hm : m = m2 ∨ s.n ≤ m2) (hm2 : m = m2 ∨ ∀ k, k < s.n → s'.get k = s.get k) : Good m2 s' it := by
  obtain ⟨v, b, h1, h2⟩ := h
  refine ⟨v, b, h1, fun s'' o' => h2 s'' ⟨Nat.le_trans o.1 o'.1, fun k hk hn => ?_⟩⟩
  by_cases e : k = m2
  · subst e
    rcases hm with hm | hm
    · exact absurd hm.symm hn
    · omega
  · rw [o'.2 k (Nat.lt_of_lt_of_le hk o.1) e]
    exact o.2 k hk hn
/-- what is taken of near at s -/
def Near (s : Sto) (m k : Nat) : Prop := ∃ xs, s.get m = some (.lst xs) ∧ xs.length ≤ k ∧ ∀ it ∈ xs, Good m s it
theorem near_wp {m k : Nat} {st : Sto} {l : MM.Loc} (h : Near st m k) (hk : k ≤ 100) (h10 : nth l 10 = some (.obj m)) (hl : ∃ x0 x1 x2 x3 x4 x5 x6 x7 x8 x9 x10 x11 x12, l = [x0, x1, x2, x3, x4, x5, x6, x7, x8, x9, x10, x11, x12]) :
    Wp (mOp2 opEq (mComp [11, 12] (mSeqI (mVar 10)) (gTup_ 2 (gCons_ (gVar 11) (gCons_ (gVar 12) gNil_))) (mBool (mOp2 opNe (mCall opRepr (mCons (mFn 1 m_is_fraction (mCons (mVar 11) mNil)) mNil)) (mCall opRepr (mCons (mVar 12) mNil)))) (mC (.int 1))) (mLst mNil) l st) fun r s => r = .bl true ∧ Old st s := by
  obtain ⟨xs, h1, h2, h3⟩ := h
  obtain ⟨x0, x1, x2, x3, x4, x5, x6, x7, x8, x9, x10, x11, x12, rfl⟩ := hl
  have h10 : x10 = some (.obj m) := h10
  subst h10
  rw [wp_op2]
  simp only [wp_comp, wp_seqI, wp_var, nth_10, Option.some.injEq, exists_eq_left', W.obj.injEq, reduceCtorEq, false_and, exists_false, false_or]
  refine ⟨m, xs, rfl, h1, ?_⟩
  refine wp_lcI xs.length (fun i s => s.get st.n = some (.lst []) ∧ Old st s) (fun s hs => ?_) (fun i s hi hs => ?_) lotN 0 _ ⟨new_get, Old.new⟩ (Nat.zero_le _) (by rw [Nat.zero_add]; exact Nat.lt_of_le_of_lt (Nat.le_trans h2 hk) (by decide))
  · refine ⟨lst_end (hs.2.get h1), ?_⟩
    simp only [wp_ok, wp_then, wp_lift, wp_c, wp_var, wp_gvar, wp_op2, wp_op1, wp_bool, wp_tru, wp_and, wp_or, wp_notT, wp_if, wp_andV, wp_orV, wp_not, wp_nil, wp_cons, wp_tup, wp_lst, wp_call, wp_fn, wp_gnil, wp_gcons, wp_gtup, wp_gsub, wp_chain, wp_comp, wp_yes, wp_seqI, wp_rng1, wp_noPart, wp_part, wp_sl, wp_pnil, wp_pcons, ret_some, ret_mod, ret_fdiv, ret_mul, ret_pow, opSub_i, opAdd_i, opNeg_i, opLt_i, opLe_i, opGt_i, opGe_i, opMax_i, opMax_i3, opMin_i, opAbs_i, opInt_i, opInt_b, truW_bl, truW_int, Option.some.injEq, exists_eq_left', W.bl.injEq, W.int.injEq, W.tup.injEq, List.cons.injEq, and_true, true_and, List.length_cons, List.length_nil, Nat.reduceAdd, reduceCtorEq, false_and, or_false, false_or, exists_false, nth_0, nth_1, nth_2, nth_3, nth_4, nth_5, nth_6, nth_7, nth_8, nth_9, nth_10, nth_11, nth_12, nth_13, setL_0, setL_1, setL_2, setL_3, setL_4, setL_5, setL_6, setL_7, setL_8, setL_9, setL_10, setL_11, setL_12, setL_13]
    refine ⟨by decide, ?_⟩
    have e : opEq (.obj st.n) (.obj s.n) (s.new (.lst [])) = some (.bl true, s.new (.lst [])) := by
      have e1 : (s.new (.lst [])).get st.n = some (.lst []) := Old.new.get hs.1
      have e2 : (s.new (.lst [])).get s.n = some (.lst []) := new_get
      unfold opEq eqW
      have d1 : ∀ n, (s.new (.lst [])).get n = some (.lst []) → dat 40 (s.new (.lst [])) (.obj n) = some (.list []) := by
        intro n hn
        unfold dat
        simp only [hn]
        rfl
      rw [d1 _ e1, d1 _ e2]
      rfl
    rw [ret_of e]
    exact ⟨rfl, hs.2.trans Old.new⟩
  · refine ⟨xs[i], lst_next (hs.2.get h1) (List.getElem?_eq_getElem hi), ?_⟩
    obtain ⟨v, b, hv, hf⟩ := h3 xs[i] (List.getElem_mem hi)
    rw [hv]
    simp only [wp_ok, wp_then, wp_lift, wp_c, wp_var, wp_gvar, wp_op2, wp_op1, wp_bool, wp_tru, wp_and, wp_or, wp_notT, wp_if, wp_andV, wp_orV, wp_not, wp_nil, wp_cons, wp_tup, wp_lst, wp_call, wp_fn, wp_gnil, wp_gcons, wp_gtup, wp_gsub, wp_chain, wp_comp, wp_yes, wp_seqI, wp_rng1, wp_noPart, wp_part, wp_sl, wp_pnil, wp_pcons, ret_some, ret_mod, ret_fdiv, ret_mul, ret_pow, opSub_i, opAdd_i, opNeg_i, opLt_i, opLe_i, opGt_i, opGe_i, opMax_i, opMax_i3, opMin_i, opAbs_i, opInt_i, opInt_b, truW_bl, truW_int, Option.some.injEq, exists_eq_left', W.bl.injEq, W.int.injEq, W.tup.injEq, List.cons.injEq, and_true, true_and, List.length_cons, List.length_nil, Nat.reduceAdd, reduceCtorEq, false_and, or_false, false_or, exists_false, nth_0, nth_1, nth_2, nth_3, nth_4, nth_5, nth_6, nth_7, nth_8, nth_9, nth_10, nth_11, nth_12, nth_13, setL_0, setL_1, setL_2, setL_3, setL_4, setL_5, setL_6, setL_7, setL_8, setL_9, setL_10, setL_11, setL_12, setL_13, show wipeL [x0, x1, x2, x3, x4, x5, x6, x7, x8, x9, some (W.obj m), x11, x12] [11, 12] = [x0, x1, x2, x3, x4, x5, x6, x7, x8, x9, some (.obj m), none, none] from rfl]
    refine (hf s hs.2.x).mono ?_
    rintro _ s1 ⟨rfl, o⟩
    simp only [ret_of repr_bl, ret_of ne_str, W.bl.injEq, exists_eq_left', Bool.false_eq_true, if_false]
    exact ⟨o.get hs.1, hs.2.trans o⟩

theorem good_int {m : Nat} {s : Sto} {a b : Int} {r : Bool} (hb : b.natAbs < 2 ^ 9000) (h : decide (0 < b ∧ Int.gcd a b = 1) = r) : Good m s (.tup [.tup [.int a, .int b], .bl r]) := ⟨_, _, rfl, fun s' _ => by
  rw [← h]
  exact fr_int hb⟩
theorem good_len {m : Nat} {s : Sto} {xs : List W} (h : xs.length ≠ 2) : Good m s (.tup [.tup xs, .bl false]) := ⟨_, _, rfl, fun s' _ => fr_len h⟩
theorem good_no {m k : Nat} {s : Sto} {v : W} (h : tyS v = some k) (hk : k ≠ 2) : Good m s (.tup [v, .bl false]) := ⟨_, _, rfl, fun s' _ => fr_no (tyS_of h s') hk⟩
theorem good_bad {m kx ky : Nat} {s : Sto} {x y : W} (hx : tyS x = some kx) (hy : tyS y = some ky) (h : kx ≠ 0 ∨ ky ≠ 0) : Good m s (.tup [.tup [x, y], .bl false]) := ⟨_, _, rfl, fun s' _ => fr_bad hx hy h⟩
theorem good_lst {m j : Nat} {s : Sto} {xs : List W} (e : s.get j = some (.lst xs)) (h : j ≠ m) : Good m s (.tup [.obj j, .bl false]) := ⟨_, _, rfl, fun s' o => fr_no (k := 3) (by
  have e2 := o.get h e
  unfold tyOf
  simp only [e2]) (by decide)⟩
theorem good_dct {m j : Nat} {s : Sto} {xs : List (W × W)} (e : s.get j = some (.dct xs)) (h : j ≠ m) : Good m s (.tup [.obj j, .bl false]) := ⟨_, _, rfl, fun s' o => fr_no (k := 4) (by
  have e2 := o.get h e
  unfold tyOf
  simp only [e2]) (by decide)⟩
theorem near_new {s : Sto} {ys : List W} (h : ∀ it ∈ ys, Good s.n s it) : Near (s.new (.lst ys)) s.n ys.length :=
  ⟨ys, new_get, Nat.le_refl _, fun it hi => (h it hi).old Old.new.x (.inl rfl) (.inl rfl)⟩
theorem near_add {s s' : Sto} {m k : Nat} {ys : List W} {P : W → Sto → Prop} (h : Near s m k) (o : Old s s') (hk : k ≤ 50) (hy : ys.length ≤ 10) (hg : ∀ it ∈ ys, Good (s'.n + 1) s' it) (hP : ∀ s2 m2, Near s2 m2 (k + ys.length) → s'.n ≤ m2 → Old s' s2 → P (.obj m2) s2) :
    Ret (opAdd (.obj m) (.obj s'.n) (s'.new (.lst ys))) P := by
  obtain ⟨xs, e, h2, h3⟩ := h
  rw [ret_cat (Old.new.get (o.get e)) new_get (by omega)]
  have oo : Old s' ((s'.new (.lst ys)).new (.lst (xs ++ ys))) := Old.new.trans Old.new
  refine hP _ _ ⟨xs ++ ys, new_get, by rw [List.length_append]; omega, fun it hi => ?_⟩ (Nat.le_succ _) oo
  rcases List.mem_append.mp hi with hi | hi
  · refine (h3 it hi).old (o.trans oo).x (.inr ?_) (.inr (o.trans oo).2)
    show s.n ≤ s'.n + 1
    have := o.1
    omega
  · exact (hg it hi).old oo.x (.inl rfl) (.inl rfl)
theorem near_push {s : Sto} {m k : Nat} {it : W} {P : W → Sto → Prop} (h : Near s m k) (hk : k ≤ 50) (hg : Good m s it) (hP : ∀ s2, Near s2 m (k + 1) → OldX m s s2 → P .non s2) : isLst s (.obj m) = true ∧ Ret (opAppend (.obj m) [it] s) P := by
  obtain ⟨xs, e, h2, h3⟩ := h
  refine ⟨isLst_of e, ?_⟩
  have ea : opAppend (.obj m) [it] s = some (.non, s.put m (.lst (xs ++ [it]))) := by
    unfold opAppend
    simp only [apd_lst e (Nat.lt_of_le_of_lt h2 (Nat.lt_of_le_of_lt hk (by decide)))]
  rw [ret_of ea]
  have ox : OldX m s (s.put m (.lst (xs ++ [it]))) := ⟨Nat.le_refl _, fun k _ hk => put_off e hk⟩
  refine hP _ ⟨xs ++ [it], put_get e, by rw [List.length_append, List.length_singleton]; omega, fun i hi => ?_⟩ ox
  rcases List.mem_append.mp hi with hi | hi
  · exact (h3 i hi).old ox (.inl rfl) (.inl rfl)
  · rw [List.mem_singleton.mp hi]
    exact hg.old ox (.inl rfl) (.inl rfl)
theorem lo400 {v : Int} (h : Num v) : v.natAbs < 2 ^ 400 := lo_mid h.lo (by decide)
theorem big9 {v : Int} {k : Nat} (h : v.natAbs < 2 ^ k) (hk : k ≤ 9000) : v.natAbs < 2 ^ 9000 := Nat.lt_of_lt_of_le h (Nat.pow_le_pow_right (by decide) hk)
theorem mid19 {v : Int} {k : Nat} (h : v.natAbs < 2 ^ k) (hk : k ≤ 1900) : v.natAbs < 2 ^ 1900 := Nat.lt_of_lt_of_le h (Nat.pow_le_pow_right (by decide) hk)
theorem Dz.x {s s' : Sto} {n m B : Nat} (h : Dz s n B) (o : OldX m s s') (hn : n ≠ m) : Dz s' n B := let ⟨c, h1, h2⟩ := h; ⟨c, o.get hn h1, h2⟩
theorem OldX.far {n m : Nat} {a b c : Sto} (h : OldX n a b) (k : OldX m b c) (hm : a.n ≤ m) : OldX n a c := ⟨Nat.le_trans h.1 k.1, fun i hi hn => (k.2 i (Nat.lt_of_lt_of_le hi h.1) (by omega)).trans (h.2 i hi hn)⟩
theorem is_right_wp {n B : Nat} {st : Sto} (hd : Dz st n (B + 25)) : Wp (m__law_is_right [.obj n] st) fun r s => r = .bl true ∧ Dz s n B ∧ OldX n st s := by
  unfold m__law_is_right b__law_is_right
  refine wp_run.mpr (sw_seq.mpr (sw_par.mpr ?_))
  try simp only [wp_ok, wp_then, wp_lift, wp_c, wp_var, wp_gvar, wp_op2, wp_op1, wp_bool, wp_tru, wp_and, wp_or, wp_notT, wp_if, wp_andV, wp_orV, wp_not, wp_nil, wp_cons, wp_tup, wp_lst, wp_call, wp_fn, wp_gnil, wp_gcons, wp_gtup, wp_gsub, wp_chain, wp_comp, wp_yes, wp_seqI, wp_rng1, wp_noPart, wp_part, wp_sl, wp_pnil, wp_pcons, ret_some, ret_mod, ret_fdiv, ret_mul, ret_pow, opSub_i, opAdd_i, opNeg_i, opLt_i, opLe_i, opGt_i, opGe_i, opMax_i, opMax_i3, opMin_i, opAbs_i, opInt_i, opInt_b, truW_bl, truW_int, Option.some.injEq, exists_eq_left', W.bl.injEq, W.int.injEq, W.tup.injEq, List.cons.injEq, and_true, true_and, List.length_cons, List.length_nil, Nat.reduceAdd, reduceCtorEq, false_and, or_false, false_or, exists_false, nth_0, nth_1, nth_2, nth_3, nth_4, nth_5, nth_6, nth_7, nth_8, nth_9, nth_10, nth_11, nth_12, nth_13, setL_0, setL_1, setL_2, setL_3, setL_4, setL_5, setL_6, setL_7, setL_8, setL_9, setL_10, setL_11, setL_12, setL_13, show initL 13 [W.obj n] = [some (.obj n), none, none, none, none, none, none, none, none, none, none, none, none] from rfl]
  refine (number_wp (B := B + 21) hd).mono ?_
  rintro _ s1 ⟨⟨top, rfl, htop⟩, d1, o1⟩
  try simp only [wp_ok, wp_then, wp_lift, wp_c, wp_var, wp_gvar, wp_op2, wp_op1, wp_bool, wp_tru, wp_and, wp_or, wp_notT, wp_if, wp_andV, wp_orV, wp_not, wp_nil, wp_cons, wp_tup, wp_lst, wp_call, wp_fn, wp_gnil, wp_gcons, wp_gtup, wp_gsub, wp_chain, wp_comp, wp_yes, wp_seqI, wp_rng1, wp_noPart, wp_part, wp_sl, wp_pnil, wp_pcons, ret_some, ret_mod, ret_fdiv, ret_mul, ret_pow, opSub_i, opAdd_i, opNeg_i, opLt_i, opLe_i, opGt_i, opGe_i, opMax_i, opMax_i3, opMin_i, opAbs_i, opInt_i, opInt_b, truW_bl, truW_int, Option.some.injEq, exists_eq_left', W.bl.injEq, W.int.injEq, W.tup.injEq, List.cons.injEq, and_true, true_and, List.length_cons, List.length_nil, Nat.reduceAdd, reduceCtorEq, false_and, or_false, false_or, exists_false, nth_0, nth_1, nth_2, nth_3, nth_4, nth_5, nth_6, nth_7, nth_8, nth_9, nth_10, nth_11, nth_12, nth_13, setL_0, setL_1, setL_2, setL_3, setL_4, setL_5, setL_6, setL_7, setL_8, setL_9, setL_10, setL_11, setL_12, setL_13]
  refine (number_wp (B := B + 17) d1).mono ?_
  rintro _ s2 ⟨⟨bot, rfl, hbot⟩, d2, o2⟩
  refine ⟨_, _, ⟨rfl, rfl⟩, sw_seq.mpr (sw_asg.mpr ?_)⟩
  try simp only [wp_ok, wp_then, wp_lift, wp_c, wp_var, wp_gvar, wp_op2, wp_op1, wp_bool, wp_tru, wp_and, wp_or, wp_notT, wp_if, wp_andV, wp_orV, wp_not, wp_nil, wp_cons, wp_tup, wp_lst, wp_call, wp_fn, wp_gnil, wp_gcons, wp_gtup, wp_gsub, wp_chain, wp_comp, wp_yes, wp_seqI, wp_rng1, wp_noPart, wp_part, wp_sl, wp_pnil, wp_pcons, ret_some, ret_mod, ret_fdiv, ret_mul, ret_pow, opSub_i, opAdd_i, opNeg_i, opLt_i, opLe_i, opGt_i, opGe_i, opMax_i, opMax_i3, opMin_i, opAbs_i, opInt_i, opInt_b, truW_bl, truW_int, Option.some.injEq, exists_eq_left', W.bl.injEq, W.int.injEq, W.tup.injEq, List.cons.injEq, and_true, true_and, List.length_cons, List.length_nil, Nat.reduceAdd, reduceCtorEq, false_and, or_false, false_or, exists_false, nth_0, nth_1, nth_2, nth_3, nth_4, nth_5, nth_6, nth_7, nth_8, nth_9, nth_10, nth_11, nth_12, nth_13, setL_0, setL_1, setL_2, setL_3, setL_4, setL_5, setL_6, setL_7, setL_8, setL_9, setL_10, setL_11, setL_12, setL_13]
  obtain ⟨m1, m2⟩ := max3 bot
  have hm : Num (maxI (maxI 1 bot) (-bot)) := by unfold Num at hbot ⊢; omega
  generalize maxI (maxI 1 bot) (-bot) = bt at m1 m2 hm
  refine sw_seq.mpr (sw_par.mpr ?_)
  try simp only [wp_ok, wp_then, wp_lift, wp_c, wp_var, wp_gvar, wp_op2, wp_op1, wp_bool, wp_tru, wp_and, wp_or, wp_notT, wp_if, wp_andV, wp_orV, wp_not, wp_nil, wp_cons, wp_tup, wp_lst, wp_call, wp_fn, wp_gnil, wp_gcons, wp_gtup, wp_gsub, wp_chain, wp_comp, wp_yes, wp_seqI, wp_rng1, wp_noPart, wp_part, wp_sl, wp_pnil, wp_pcons, ret_some, ret_mod, ret_fdiv, ret_mul, ret_pow, opSub_i, opAdd_i, opNeg_i, opLt_i, opLe_i, opGt_i, opGe_i, opMax_i, opMax_i3, opMin_i, opAbs_i, opInt_i, opInt_b, truW_bl, truW_int, Option.some.injEq, exists_eq_left', W.bl.injEq, W.int.injEq, W.tup.injEq, List.cons.injEq, and_true, true_and, List.length_cons, List.length_nil, Nat.reduceAdd, reduceCtorEq, false_and, or_false, false_or, exists_false, nth_0, nth_1, nth_2, nth_3, nth_4, nth_5, nth_6, nth_7, nth_8, nth_9, nth_10, nth_11, nth_12, nth_13, setL_0, setL_1, setL_2, setL_3, setL_4, setL_5, setL_6, setL_7, setL_8, setL_9, setL_10, setL_11, setL_12, setL_13]
  refine (drawn_wp (B := B + 9) d2).mono ?_
  rintro _ s3 ⟨⟨a, b, rfl, hab, ha, hb⟩, d3, o3⟩
  try simp only [wp_ok, wp_then, wp_lift, wp_c, wp_var, wp_gvar, wp_op2, wp_op1, wp_bool, wp_tru, wp_and, wp_or, wp_notT, wp_if, wp_andV, wp_orV, wp_not, wp_nil, wp_cons, wp_tup, wp_lst, wp_call, wp_fn, wp_gnil, wp_gcons, wp_gtup, wp_gsub, wp_chain, wp_comp, wp_yes, wp_seqI, wp_rng1, wp_noPart, wp_part, wp_sl, wp_pnil, wp_pcons, ret_some, ret_mod, ret_fdiv, ret_mul, ret_pow, opSub_i, opAdd_i, opNeg_i, opLt_i, opLe_i, opGt_i, opGe_i, opMax_i, opMax_i3, opMin_i, opAbs_i, opInt_i, opInt_b, truW_bl, truW_int, Option.some.injEq, exists_eq_left', W.bl.injEq, W.int.injEq, W.tup.injEq, List.cons.injEq, and_true, true_and, List.length_cons, List.length_nil, Nat.reduceAdd, reduceCtorEq, false_and, or_false, false_or, exists_false, nth_0, nth_1, nth_2, nth_3, nth_4, nth_5, nth_6, nth_7, nth_8, nth_9, nth_10, nth_11, nth_12, nth_13, setL_0, setL_1, setL_2, setL_3, setL_4, setL_5, setL_6, setL_7, setL_8, setL_9, setL_10, setL_11, setL_12, setL_13]
  refine (drawn_wp (B := B + 1) d3).mono ?_
  rintro _ s4 ⟨⟨c, d, rfl, hcd, hc, hdd⟩, d4, o4⟩
  refine ⟨_, _, ⟨rfl, rfl⟩, sw_seq.mpr (sw_asg.mpr ?_)⟩
  have ot : OldX n st s4 := o1.trans (o2.trans (o3.trans o4))
  have la := log_lo (lo400 ha)
  have lb := log_lo (lo400 hb)
  have lc := log_lo (lo400 hc)
  have ld := log_lo (lo400 hdd)
  have zbd := mul_lo (lo400 hb) (lo400 hdd)
  have zad := mul_lo (lo400 ha) (lo400 hdd)
  have zcb := mul_lo (lo400 hc) (lo400 hb)
  have zac := mul_lo (lo400 ha) (lo400 hc)
  have zsum := (sum_small zad zcb).1
  have zdif := (sum_small (lo400 hb) (lo400 ha)).2
  have pbd : 0 < b * d := Int.mul_pos hab.p hcd.p
  -- due
  try simp only [wp_ok, wp_then, wp_lift, wp_c, wp_var, wp_gvar, wp_op2, wp_op1, wp_bool, wp_tru, wp_and, wp_or, wp_notT, wp_if, wp_andV, wp_orV, wp_not, wp_nil, wp_cons, wp_tup, wp_lst, wp_call, wp_fn, wp_gnil, wp_gcons, wp_gtup, wp_gsub, wp_chain, wp_comp, wp_yes, wp_seqI, wp_rng1, wp_noPart, wp_part, wp_sl, wp_pnil, wp_pcons, ret_some, ret_mod, ret_fdiv, ret_mul, ret_pow, opSub_i, opAdd_i, opNeg_i, opLt_i, opLe_i, opGt_i, opGe_i, opMax_i, opMax_i3, opMin_i, opAbs_i, opInt_i, opInt_b, truW_bl, truW_int, Option.some.injEq, exists_eq_left', W.bl.injEq, W.int.injEq, W.tup.injEq, List.cons.injEq, and_true, true_and, List.length_cons, List.length_nil, Nat.reduceAdd, reduceCtorEq, false_and, or_false, false_or, exists_false, nth_0, nth_1, nth_2, nth_3, nth_4, nth_5, nth_6, nth_7, nth_8, nth_9, nth_10, nth_11, nth_12, nth_13, setL_0, setL_1, setL_2, setL_3, setL_4, setL_5, setL_6, setL_7, setL_8, setL_9, setL_10, setL_11, setL_12, setL_13, ret_of ix0, ret_of ix1]
  refine (fr_least_wp m1 (big9 (lo400 hm) (by decide))).mono ?_
  rintro _ _ ⟨rfl, rfl⟩
  refine ⟨by omega, by omega, by omega, ?_⟩
  refine (fr_least_wp pbd (big9 zbd (by decide))).mono ?_
  rintro _ _ ⟨rfl, rfl⟩
  refine ⟨by decide, sw_seq.mpr (sw_asg.mpr ?_)⟩
  try simp only [wp_ok, wp_then, wp_lift, wp_c, wp_var, wp_gvar, wp_op2, wp_op1, wp_bool, wp_tru, wp_and, wp_or, wp_notT, wp_if, wp_andV, wp_orV, wp_not, wp_nil, wp_cons, wp_tup, wp_lst, wp_call, wp_fn, wp_gnil, wp_gcons, wp_gtup, wp_gsub, wp_chain, wp_comp, wp_yes, wp_seqI, wp_rng1, wp_noPart, wp_part, wp_sl, wp_pnil, wp_pcons, ret_some, ret_mod, ret_fdiv, ret_mul, ret_pow, opSub_i, opAdd_i, opNeg_i, opLt_i, opLe_i, opGt_i, opGe_i, opMax_i, opMax_i3, opMin_i, opAbs_i, opInt_i, opInt_b, truW_bl, truW_int, Option.some.injEq, exists_eq_left', W.bl.injEq, W.int.injEq, W.tup.injEq, List.cons.injEq, and_true, true_and, List.length_cons, List.length_nil, Nat.reduceAdd, reduceCtorEq, false_and, or_false, false_or, exists_false, nth_0, nth_1, nth_2, nth_3, nth_4, nth_5, nth_6, nth_7, nth_8, nth_9, nth_10, nth_11, nth_12, nth_13, setL_0, setL_1, setL_2, setL_3, setL_4, setL_5, setL_6, setL_7, setL_8, setL_9, setL_10, setL_11, setL_12, setL_13, ret_of ix0, ret_of ix1]
  refine ⟨by omega, by omega, ?_⟩
  refine (fr_least_wp pbd (big9 zbd (by decide))).mono ?_
  rintro _ _ ⟨rfl, rfl⟩
  refine (fr_least_wp hab.p (big9 (lo400 hb) (by decide))).mono ?_
  rintro _ _ ⟨rfl, rfl⟩
  refine ⟨by decide, ?_⟩
  rename_i s4
  rw [ret_cat (xs := [frI top bt, frI (a * d + c * b) (b * d)]) (ys := [frI (a * c) (b * d), frI (b - a) b]) (Old.new.get new_get) new_get (show 2 + 2 ≤ 1000 by decide)]
  -- told
  generalize hs5 : ((s4.new (.lst [frI top bt, frI (a * d + c * b) (b * d)])).new (.lst [frI (a * c) (b * d), frI (b - a) b])).new (.lst ([frI top bt, frI (a * d + c * b) (b * d)] ++ [frI (a * c) (b * d), frI (b - a) b])) = s5
  generalize hdue : ((s4.new (.lst [frI top bt, frI (a * d + c * b) (b * d)])).new (.lst [frI (a * c) (b * d), frI (b - a) b])).n = due
  have o5 : Old s4 s5 := by rw [← hs5]; exact Old.new.trans (Old.new.trans Old.new)
  have g5 : s5.get due = some (.lst [frI top bt, frI (a * d + c * b) (b * d), frI (a * c) (b * d), frI (b - a) b]) := by
    rw [← hs5, ← hdue]
    exact new_get
  clear hs5 hdue
  refine sw_seq.mpr (sw_asg.mpr ?_)
  try simp only [wp_ok, wp_then, wp_lift, wp_c, wp_var, wp_gvar, wp_op2, wp_op1, wp_bool, wp_tru, wp_and, wp_or, wp_notT, wp_if, wp_andV, wp_orV, wp_not, wp_nil, wp_cons, wp_tup, wp_lst, wp_call, wp_fn, wp_gnil, wp_gcons, wp_gtup, wp_gsub, wp_chain, wp_comp, wp_yes, wp_seqI, wp_rng1, wp_noPart, wp_part, wp_sl, wp_pnil, wp_pcons, ret_some, ret_mod, ret_fdiv, ret_mul, ret_pow, opSub_i, opAdd_i, opNeg_i, opLt_i, opLe_i, opGt_i, opGe_i, opMax_i, opMax_i3, opMin_i, opAbs_i, opInt_i, opInt_b, truW_bl, truW_int, Option.some.injEq, exists_eq_left', W.bl.injEq, W.int.injEq, W.tup.injEq, List.cons.injEq, and_true, true_and, List.length_cons, List.length_nil, Nat.reduceAdd, reduceCtorEq, false_and, or_false, false_or, exists_false, nth_0, nth_1, nth_2, nth_3, nth_4, nth_5, nth_6, nth_7, nth_8, nth_9, nth_10, nth_11, nth_12, nth_13, setL_0, setL_1, setL_2, setL_3, setL_4, setL_5, setL_6, setL_7, setL_8, setL_9, setL_10, setL_11, setL_12, setL_13]
  have hb2 : ∀ v : Int, Num v → -gr < v ∧ v < gr := fun v hv => by
    unfold Num at hv
    unfold gr
    omega
  refine (fraction_wp (hb2 _ htop).1 (hb2 _ htop).2 m1 (hb2 _ hm).2).mono ?_
  rintro _ _ ⟨rfl, rfl⟩
  rename_i s5
  refine (added_wp hab hcd).mono ?_
  rintro _ s6 ⟨rfl, o6⟩
  refine (multiplied_wp hab hcd).mono ?_
  rintro _ s7 ⟨rfl, o7⟩
  refine (rest_wp hab).mono ?_
  rintro _ s8 ⟨rfl, o8⟩
  refine ⟨by decide, sw_seq.mpr (sw_if.mpr ?_)⟩
  have os : Old s5 (s8.new (.lst [frI top bt, frI (a * d + c * b) (b * d), frI (a * c) (b * d), frI (b - a) b])) := o6.trans (o7.trans (o8.trans Old.new))
  have gtold : (s8.new (.lst [frI top bt, frI (a * d + c * b) (b * d), frI (a * c) (b * d), frI (b - a) b])).get s8.n = some (.lst [frI top bt, frI (a * d + c * b) (b * d), frI (a * c) (b * d), frI (b - a) b]) := new_get
  generalize s8.n = told at gtold
  generalize s8.new (.lst [frI top bt, frI (a * d + c * b) (b * d), frI (a * c) (b * d), frI (b - a) b]) = s9 at os gtold
  have gdue := os.get g5
  have f1 := frI_small (k := 400) m1 (lo400 htop) (lo400 hm)
  have f2 := frI_small (k := 801) pbd zsum (Nat.lt_of_lt_of_le zbd (Nat.pow_le_pow_right (by decide) (by decide)))
  have f3 := frI_small (k := 800) pbd zac zbd
  have f4 := frI_small (k := 401) hab.p zdif (Nat.lt_of_lt_of_le (lo400 hb) (Nat.pow_le_pow_right (by decide) (by decide)))
  have four : ∀ m, s9.get m = some (.lst [frI top bt, frI (a * d + c * b) (b * d), frI (a * c) (b * d), frI (b - a) b]) → opRepr [.obj m] s9 = _ := fun m e => repr_four e
    ⟨mid19 f1.1 (by decide), mid19 f1.2 (by decide), mid19 f2.1 (by decide), mid19 f2.2 (by decide), mid19 f3.1 (by decide), mid19 f3.2 (by decide), mid19 f4.1 (by decide), mid19 f4.2 (by decide)⟩
  try simp only [wp_ok, wp_then, wp_lift, wp_c, wp_var, wp_gvar, wp_op2, wp_op1, wp_bool, wp_tru, wp_and, wp_or, wp_notT, wp_if, wp_andV, wp_orV, wp_not, wp_nil, wp_cons, wp_tup, wp_lst, wp_call, wp_fn, wp_gnil, wp_gcons, wp_gtup, wp_gsub, wp_chain, wp_comp, wp_yes, wp_seqI, wp_rng1, wp_noPart, wp_part, wp_sl, wp_pnil, wp_pcons, ret_some, ret_mod, ret_fdiv, ret_mul, ret_pow, opSub_i, opAdd_i, opNeg_i, opLt_i, opLe_i, opGt_i, opGe_i, opMax_i, opMax_i3, opMin_i, opAbs_i, opInt_i, opInt_b, truW_bl, truW_int, Option.some.injEq, exists_eq_left', W.bl.injEq, W.int.injEq, W.tup.injEq, List.cons.injEq, and_true, true_and, List.length_cons, List.length_nil, Nat.reduceAdd, reduceCtorEq, false_and, or_false, false_or, exists_false, nth_0, nth_1, nth_2, nth_3, nth_4, nth_5, nth_6, nth_7, nth_8, nth_9, nth_10, nth_11, nth_12, nth_13, setL_0, setL_1, setL_2, setL_3, setL_4, setL_5, setL_6, setL_7, setL_8, setL_9, setL_10, setL_11, setL_12, setL_13, ret_of (four _ gtold), ret_of (four _ gdue), ret_of ne_str, Bool.false_eq_true, if_false, sw_skip]
  -- times, found
  have o9 : OldX n st s9 := ot.trans (o5.trans os).x
  have d9 : Dz s9 n (B + 1) := d4.old (o5.trans os)
  refine sw_seq.mpr (sw_par.mpr ?_)
  try simp only [wp_ok, wp_then, wp_lift, wp_c, wp_var, wp_gvar, wp_op2, wp_op1, wp_bool, wp_tru, wp_and, wp_or, wp_notT, wp_if, wp_andV, wp_orV, wp_not, wp_nil, wp_cons, wp_tup, wp_lst, wp_call, wp_fn, wp_gnil, wp_gcons, wp_gtup, wp_gsub, wp_chain, wp_comp, wp_yes, wp_seqI, wp_rng1, wp_noPart, wp_part, wp_sl, wp_pnil, wp_pcons, ret_some, ret_mod, ret_fdiv, ret_mul, ret_pow, opSub_i, opAdd_i, opNeg_i, opLt_i, opLe_i, opGt_i, opGe_i, opMax_i, opMax_i3, opMin_i, opAbs_i, opInt_i, opInt_b, truW_bl, truW_int, Option.some.injEq, exists_eq_left', W.bl.injEq, W.int.injEq, W.tup.injEq, List.cons.injEq, and_true, true_and, List.length_cons, List.length_nil, Nat.reduceAdd, reduceCtorEq, false_and, or_false, false_or, exists_false, nth_0, nth_1, nth_2, nth_3, nth_4, nth_5, nth_6, nth_7, nth_8, nth_9, nth_10, nth_11, nth_12, nth_13, setL_0, setL_1, setL_2, setL_3, setL_4, setL_5, setL_6, setL_7, setL_8, setL_9, setL_10, setL_11, setL_12, setL_13]
  refine wp_roll d9 (by decide) (by decide) fun t s10 ht d10 o10 => ?_
  refine ⟨by decide, _, _, ⟨rfl, rfl⟩, ?_⟩
  try simp only [wp_ok, wp_then, wp_lift, wp_c, wp_var, wp_gvar, wp_op2, wp_op1, wp_bool, wp_tru, wp_and, wp_or, wp_notT, wp_if, wp_andV, wp_orV, wp_not, wp_nil, wp_cons, wp_tup, wp_lst, wp_call, wp_fn, wp_gnil, wp_gcons, wp_gtup, wp_gsub, wp_chain, wp_comp, wp_yes, wp_seqI, wp_rng1, wp_noPart, wp_part, wp_sl, wp_pnil, wp_pcons, ret_some, ret_mod, ret_fdiv, ret_mul, ret_pow, opSub_i, opAdd_i, opNeg_i, opLt_i, opLe_i, opGt_i, opGe_i, opMax_i, opMax_i3, opMin_i, opAbs_i, opInt_i, opInt_b, truW_bl, truW_int, Option.some.injEq, exists_eq_left', W.bl.injEq, W.int.injEq, W.tup.injEq, List.cons.injEq, and_true, true_and, List.length_cons, List.length_nil, Nat.reduceAdd, reduceCtorEq, false_and, or_false, false_or, exists_false, nth_0, nth_1, nth_2, nth_3, nth_4, nth_5, nth_6, nth_7, nth_8, nth_9, nth_10, nth_11, nth_12, nth_13, setL_0, setL_1, setL_2, setL_3, setL_4, setL_5, setL_6, setL_7, setL_8, setL_9, setL_10, setL_11, setL_12, setL_13]
  have ht : t ≤ 5 := by omega
  refine sw_seq.mpr (sw_for.mpr ?_)
  try simp only [wp_ok, wp_then, wp_lift, wp_c, wp_var, wp_gvar, wp_op2, wp_op1, wp_bool, wp_tru, wp_and, wp_or, wp_notT, wp_if, wp_andV, wp_orV, wp_not, wp_nil, wp_cons, wp_tup, wp_lst, wp_call, wp_fn, wp_gnil, wp_gcons, wp_gtup, wp_gsub, wp_chain, wp_comp, wp_yes, wp_seqI, wp_rng1, wp_noPart, wp_part, wp_sl, wp_pnil, wp_pcons, ret_some, ret_mod, ret_fdiv, ret_mul, ret_pow, opSub_i, opAdd_i, opNeg_i, opLt_i, opLe_i, opGt_i, opGe_i, opMax_i, opMax_i3, opMin_i, opAbs_i, opInt_i, opInt_b, truW_bl, truW_int, Option.some.injEq, exists_eq_left', W.bl.injEq, W.int.injEq, W.tup.injEq, List.cons.injEq, and_true, true_and, List.length_cons, List.length_nil, Nat.reduceAdd, reduceCtorEq, false_and, or_false, false_or, exists_false, nth_0, nth_1, nth_2, nth_3, nth_4, nth_5, nth_6, nth_7, nth_8, nth_9, nth_10, nth_11, nth_12, nth_13, setL_0, setL_1, setL_2, setL_3, setL_4, setL_5, setL_6, setL_7, setL_8, setL_9, setL_10, setL_11, setL_12, setL_13]
  refine ⟨by omega, ?_⟩
  rw [Int.toNat_natCast]
  refine sw_forI t (fun i l s => ∃ x, l = [some (.obj n), some (.int top), some (.int bt), some (.tup [.int a, .int b]), some (.tup [.int c, .int d]), some (.obj due), some (.obj told), some (.int t), some (.tup [.int (c ^ i), .int (d ^ i)]), x, none, none, none] ∧ s = s10) ?_ ?_ lotN 0 _ _ ⟨none, by rw [Int.pow_zero, Int.pow_zero], rfl⟩ (Nat.zero_le _) (by rw [Nat.zero_add]; exact Nat.lt_of_le_of_lt ht (by decide))
  · rintro l s ⟨x9, rfl, rfl⟩
    refine ⟨rng_end, ?_⟩
    refine sw_seq.mpr (sw_if.mpr ?_)
    try simp only [wp_ok, wp_then, wp_lift, wp_c, wp_var, wp_gvar, wp_op2, wp_op1, wp_bool, wp_tru, wp_and, wp_or, wp_notT, wp_if, wp_andV, wp_orV, wp_not, wp_nil, wp_cons, wp_tup, wp_lst, wp_call, wp_fn, wp_gnil, wp_gcons, wp_gtup, wp_gsub, wp_chain, wp_comp, wp_yes, wp_seqI, wp_rng1, wp_noPart, wp_part, wp_sl, wp_pnil, wp_pcons, ret_some, ret_mod, ret_fdiv, ret_mul, ret_pow, opSub_i, opAdd_i, opNeg_i, opLt_i, opLe_i, opGt_i, opGe_i, opMax_i, opMax_i3, opMin_i, opAbs_i, opInt_i, opInt_b, truW_bl, truW_int, Option.some.injEq, exists_eq_left', W.bl.injEq, W.int.injEq, W.tup.injEq, List.cons.injEq, and_true, true_and, List.length_cons, List.length_nil, Nat.reduceAdd, reduceCtorEq, false_and, or_false, false_or, exists_false, nth_0, nth_1, nth_2, nth_3, nth_4, nth_5, nth_6, nth_7, nth_8, nth_9, nth_10, nth_11, nth_12, nth_13, setL_0, setL_1, setL_2, setL_3, setL_4, setL_5, setL_6, setL_7, setL_8, setL_9, setL_10, setL_11, setL_12, setL_13]
    refine (power_wp hcd (by omega)).mono ?_
    rintro _ s11 ⟨rfl, o11⟩
    have rp : ∀ s : Sto, opRepr [.tup [.int (c ^ t), .int (d ^ t)]] s = _ := fun s => repr_pair (pow_small hc.lo ht) (pow_small hdd.lo ht)
    try simp only [wp_ok, wp_then, wp_lift, wp_c, wp_var, wp_gvar, wp_op2, wp_op1, wp_bool, wp_tru, wp_and, wp_or, wp_notT, wp_if, wp_andV, wp_orV, wp_not, wp_nil, wp_cons, wp_tup, wp_lst, wp_call, wp_fn, wp_gnil, wp_gcons, wp_gtup, wp_gsub, wp_chain, wp_comp, wp_yes, wp_seqI, wp_rng1, wp_noPart, wp_part, wp_sl, wp_pnil, wp_pcons, ret_some, ret_mod, ret_fdiv, ret_mul, ret_pow, opSub_i, opAdd_i, opNeg_i, opLt_i, opLe_i, opGt_i, opGe_i, opMax_i, opMax_i3, opMin_i, opAbs_i, opInt_i, opInt_b, truW_bl, truW_int, Option.some.injEq, exists_eq_left', W.bl.injEq, W.int.injEq, W.tup.injEq, List.cons.injEq, and_true, true_and, List.length_cons, List.length_nil, Nat.reduceAdd, reduceCtorEq, false_and, or_false, false_or, exists_false, nth_0, nth_1, nth_2, nth_3, nth_4, nth_5, nth_6, nth_7, nth_8, nth_9, nth_10, nth_11, nth_12, nth_13, setL_0, setL_1, setL_2, setL_3, setL_4, setL_5, setL_6, setL_7, setL_8, setL_9, setL_10, setL_11, setL_12, setL_13, ret_of (rp _), ret_of ne_str, Bool.false_eq_true, if_false, sw_skip]
    have ox : OldX n st s11 := o9.trans (o10.trans o11.x)
    have dx : Dz s11 n B := d10.old o11
    -- near
    refine sw_seq.mpr (sw_asg.mpr ?_)
    have la2 := log_lo (lo400 ha)
    have l2 : Nat.log2 (2 : Int).natAbs = 1 := by decide +kernel
    try simp only [wp_ok, wp_then, wp_lift, wp_c, wp_var, wp_gvar, wp_op2, wp_op1, wp_bool, wp_tru, wp_and, wp_or, wp_notT, wp_if, wp_andV, wp_orV, wp_not, wp_nil, wp_cons, wp_tup, wp_lst, wp_call, wp_fn, wp_gnil, wp_gcons, wp_gtup, wp_gsub, wp_chain, wp_comp, wp_yes, wp_seqI, wp_rng1, wp_noPart, wp_part, wp_sl, wp_pnil, wp_pcons, ret_some, ret_mod, ret_fdiv, ret_mul, ret_pow, opSub_i, opAdd_i, opNeg_i, opLt_i, opLe_i, opGt_i, opGe_i, opMax_i, opMax_i3, opMin_i, opAbs_i, opInt_i, opInt_b, truW_bl, truW_int, Option.some.injEq, exists_eq_left', W.bl.injEq, W.int.injEq, W.tup.injEq, List.cons.injEq, and_true, true_and, List.length_cons, List.length_nil, Nat.reduceAdd, reduceCtorEq, false_and, or_false, false_or, exists_false, nth_0, nth_1, nth_2, nth_3, nth_4, nth_5, nth_6, nth_7, nth_8, nth_9, nth_10, nth_11, nth_12, nth_13, setL_0, setL_1, setL_2, setL_3, setL_4, setL_5, setL_6, setL_7, setL_8, setL_9, setL_10, setL_11, setL_12, setL_13, ret_of ix0, ret_of ix1]
    rw [ret_of (show opList [W.tup [.int a, .int b]] s11 = some (.obj s11.n, s11.new (.lst [.int a, .int b])) from rfl)]
    rw [ret_catT (xs := [W.int a, .int b]) (ys := [W.int 1]) (show 2 + 1 ≤ 1000 by decide)]
    rw [ret_of (show opSl none (some 1) (.tup [.int a, .int b]) (s11.new (.lst [.int a, .int b])) = some (.tup [.int a], s11.new (.lst [.int a, .int b])) from rfl)]
    refine ⟨by decide, by decide, by decide, by decide, by decide, by omega, by omega, by decide, by decide, by decide, ?_⟩
    have gmul : Int.gcd (a * 2) (b * 2) ≠ 1 := by
      rw [Int.gcd_mul_right, hab.g]
      decide
    have N1 := near_new (s := s11.new (.lst [.int a, .int b])) (ys := [.tup [.tup [.int a, .int b], .bl true], .tup [.obj s11.n, .bl false], .tup [.tup ([.int a, .int b] ++ [.int 1]), .bl false], .tup [.tup [.int a], .bl false], .tup [.tup [.int (a * 2), .int (b * 2)], .bl false]]) (by
      intro it hi
      simp only [List.mem_cons, List.mem_nil_iff, or_false] at hi
      rcases hi with rfl | rfl | rfl | rfl | rfl
      · exact good_int hab.big (decide_eq_true ⟨hab.p, hab.g⟩)
      · exact good_lst new_get (Nat.ne_of_lt (Nat.lt_succ_self _))
      · exact good_len (show (3 : Nat) ≠ 2 by decide)
      · exact good_len (show (1 : Nat) ≠ 2 by decide)
      · refine good_int (Nat.lt_of_lt_of_le (mul_lo (lo400 hb) (show (2 : Int).natAbs < 2 ^ 400 by decide +kernel)) (Nat.pow_le_pow_right (by decide) (by decide))) (decide_eq_false fun z => gmul z.2))
    have o12 : Old s11 ((s11.new (.lst [.int a, .int b])).new (.lst [.tup [.tup [.int a, .int b], .bl true], .tup [.obj s11.n, .bl false], .tup [.tup ([.int a, .int b] ++ [.int 1]), .bl false], .tup [.tup [.int a], .bl false], .tup [.tup [.int (a * 2), .int (b * 2)], .bl false]])) := Old.new.trans Old.new
    have hnr : n < (s11.new (.lst [.int a, .int b])).n := Nat.lt_of_lt_of_le (Dz.lt dx) (Nat.le_succ _)
    generalize (s11.new (.lst [.int a, .int b])).new (.lst [.tup [.tup [.int a, .int b], .bl true], .tup [.obj s11.n, .bl false], .tup [.tup ([.int a, .int b] ++ [.int 1]), .bl false], .tup [.tup [.int a], .bl false], .tup [.tup [.int (a * 2), .int (b * 2)], .bl false]]) = s12 at N1 o12
    generalize (s11.new (.lst [.int a, .int b])).n = nr at N1 hnr
    -- the second row
    refine sw_seq.mpr (sw_asg.mpr ?_)
    try simp only [wp_ok, wp_then, wp_lift, wp_c, wp_var, wp_gvar, wp_op2, wp_op1, wp_bool, wp_tru, wp_and, wp_or, wp_notT, wp_if, wp_andV, wp_orV, wp_not, wp_nil, wp_cons, wp_tup, wp_lst, wp_call, wp_fn, wp_gnil, wp_gcons, wp_gtup, wp_gsub, wp_chain, wp_comp, wp_yes, wp_seqI, wp_rng1, wp_noPart, wp_part, wp_sl, wp_pnil, wp_pcons, ret_some, ret_mod, ret_fdiv, ret_mul, ret_pow, opSub_i, opAdd_i, opNeg_i, opLt_i, opLe_i, opGt_i, opGe_i, opMax_i, opMax_i3, opMin_i, opAbs_i, opInt_i, opInt_b, truW_bl, truW_int, Option.some.injEq, exists_eq_left', W.bl.injEq, W.int.injEq, W.tup.injEq, List.cons.injEq, and_true, true_and, List.length_cons, List.length_nil, Nat.reduceAdd, reduceCtorEq, false_and, or_false, false_or, exists_false, nth_0, nth_1, nth_2, nth_3, nth_4, nth_5, nth_6, nth_7, nth_8, nth_9, nth_10, nth_11, nth_12, nth_13, setL_0, setL_1, setL_2, setL_3, setL_4, setL_5, setL_6, setL_7, setL_8, setL_9, setL_10, setL_11, setL_12, setL_13, ret_of ix0, ret_of ix1]
    refine ⟨by decide, by decide, by decide, by decide, by decide, by decide, by decide, by decide, by decide, ?_⟩
    refine near_add N1 Old.refl (Nat.le_of_ble_eq_true rfl) (Nat.le_of_ble_eq_true rfl) ?_ fun s13 nr2 N2 hn2 o13 => ?_
    · intro it hi
      simp only [List.mem_cons, List.mem_nil_iff, or_false] at hi
      rcases hi with rfl | rfl | rfl | rfl
      · refine good_int ?_ (decide_eq_false fun z => ?_)
        · have := hab.big
          rw [show (0 : Int) - b = -b by omega, Int.natAbs_neg]
          exact this
        · have := z.1
          have := hab.p
          omega
      · exact good_int (by decide +kernel) (decide_eq_false fun z => absurd z.1 (by decide))
      · exact good_bad (kx := 1) (ky := 0) rfl rfl (.inl (by decide))
      · exact good_bad (kx := 0) (ky := 1) rfl rfl (.inr (by decide))
    refine sw_seq.mpr (sw_exp.mpr (wp_meth ?_))
    try simp only [wp_ok, wp_then, wp_lift, wp_c, wp_var, wp_gvar, wp_op2, wp_op1, wp_bool, wp_tru, wp_and, wp_or, wp_notT, wp_if, wp_andV, wp_orV, wp_not, wp_nil, wp_cons, wp_tup, wp_lst, wp_call, wp_fn, wp_gnil, wp_gcons, wp_gtup, wp_gsub, wp_chain, wp_comp, wp_yes, wp_seqI, wp_rng1, wp_noPart, wp_part, wp_sl, wp_pnil, wp_pcons, ret_some, ret_mod, ret_fdiv, ret_mul, ret_pow, opSub_i, opAdd_i, opNeg_i, opLt_i, opLe_i, opGt_i, opGe_i, opMax_i, opMax_i3, opMin_i, opAbs_i, opInt_i, opInt_b, truW_bl, truW_int, Option.some.injEq, exists_eq_left', W.bl.injEq, W.int.injEq, W.tup.injEq, List.cons.injEq, and_true, true_and, List.length_cons, List.length_nil, Nat.reduceAdd, reduceCtorEq, false_and, or_false, false_or, exists_false, nth_0, nth_1, nth_2, nth_3, nth_4, nth_5, nth_6, nth_7, nth_8, nth_9, nth_10, nth_11, nth_12, nth_13, setL_0, setL_1, setL_2, setL_3, setL_4, setL_5, setL_6, setL_7, setL_8, setL_9, setL_10, setL_11, setL_12, setL_13]
    have d13 : Dz s13 n B := dx.old (o12.trans o13)
    have x13 : OldX n st s13 := ox.trans (o12.trans o13).x
    have hst : st.n ≤ nr2 := Nat.le_trans (Nat.le_trans ox.1 o12.1) hn2
    have hne : n ≠ nr2 := by
      have := Dz.lt hd
      omega
    obtain ⟨p1, p2⟩ := near_push (P := fun w s => w = .non ∧ Near s nr2 10 ∧ OldX nr2 s13 s) (it := .tup [.non, .bl false]) N2 (Nat.le_of_ble_eq_true rfl) (good_no (k := 6) rfl (by decide)) fun s2 h1 h2 => ⟨rfl, h1, h2⟩
    refine ⟨p1, by decide, ?_⟩
    obtain ⟨w, s14, e14, rfl, N3, o14⟩ := p2
    rw [ret_of e14]
    have d14 := Dz.x d13 o14 hne
    have x14 := OldX.far x13 o14 hst
    -- the fourth row
    refine sw_seq.mpr (sw_asg.mpr ?_)
    try simp only [wp_ok, wp_then, wp_lift, wp_c, wp_var, wp_gvar, wp_op2, wp_op1, wp_bool, wp_tru, wp_and, wp_or, wp_notT, wp_if, wp_andV, wp_orV, wp_not, wp_nil, wp_cons, wp_tup, wp_lst, wp_call, wp_fn, wp_gnil, wp_gcons, wp_gtup, wp_gsub, wp_chain, wp_comp, wp_yes, wp_seqI, wp_rng1, wp_noPart, wp_part, wp_sl, wp_pnil, wp_pcons, ret_some, ret_mod, ret_fdiv, ret_mul, ret_pow, opSub_i, opAdd_i, opNeg_i, opLt_i, opLe_i, opGt_i, opGe_i, opMax_i, opMax_i3, opMin_i, opAbs_i, opInt_i, opInt_b, truW_bl, truW_int, Option.some.injEq, exists_eq_left', W.bl.injEq, W.int.injEq, W.tup.injEq, List.cons.injEq, and_true, true_and, List.length_cons, List.length_nil, Nat.reduceAdd, reduceCtorEq, false_and, or_false, false_or, exists_false, nth_0, nth_1, nth_2, nth_3, nth_4, nth_5, nth_6, nth_7, nth_8, nth_9, nth_10, nth_11, nth_12, nth_13, setL_0, setL_1, setL_2, setL_3, setL_4, setL_5, setL_6, setL_7, setL_8, setL_9, setL_10, setL_11, setL_12, setL_13]
    refine ⟨by decide, by decide, by decide, by decide, by decide, by decide, ⟨by decide, by decide +kernel⟩, ⟨by decide, by decide +kernel⟩, by decide +kernel, by decide, by decide, by decide, by decide, ?_⟩
    refine near_add N3 Old.refl (by decide) (Nat.le_of_ble_eq_true rfl) ?_ fun s15 nr3 N4 hn3 o15 => ?_
    · intro it hi
      simp only [List.mem_cons, List.mem_nil_iff, or_false] at hi
      rcases hi with rfl | rfl | rfl | rfl | rfl
      · exact good_int (by decide +kernel) (by decide +kernel)
      · exact good_int (by decide +kernel) (by decide +kernel)
      · exact good_int (by decide +kernel) (by decide +kernel)
      · exact good_int (by decide +kernel) (decide_eq_true ⟨by decide, Int.gcd_one_right _⟩)
      · exact good_no (k := 0) rfl (by decide)
    refine sw_seq.mpr (sw_asg.mpr ?_)
    try simp only [wp_ok, wp_then, wp_lift, wp_c, wp_var, wp_gvar, wp_op2, wp_op1, wp_bool, wp_tru, wp_and, wp_or, wp_notT, wp_if, wp_andV, wp_orV, wp_not, wp_nil, wp_cons, wp_tup, wp_lst, wp_call, wp_fn, wp_gnil, wp_gcons, wp_gtup, wp_gsub, wp_chain, wp_comp, wp_yes, wp_seqI, wp_rng1, wp_noPart, wp_part, wp_sl, wp_pnil, wp_pcons, ret_some, ret_mod, ret_fdiv, ret_mul, ret_pow, opSub_i, opAdd_i, opNeg_i, opLt_i, opLe_i, opGt_i, opGe_i, opMax_i, opMax_i3, opMin_i, opAbs_i, opInt_i, opInt_b, truW_bl, truW_int, Option.some.injEq, exists_eq_left', W.bl.injEq, W.int.injEq, W.tup.injEq, List.cons.injEq, and_true, true_and, List.length_cons, List.length_nil, Nat.reduceAdd, reduceCtorEq, false_and, or_false, false_or, exists_false, nth_0, nth_1, nth_2, nth_3, nth_4, nth_5, nth_6, nth_7, nth_8, nth_9, nth_10, nth_11, nth_12, nth_13, setL_0, setL_1, setL_2, setL_3, setL_4, setL_5, setL_6, setL_7, setL_8, setL_9, setL_10, setL_11, setL_12, setL_13]
    refine ⟨by decide, by decide, by decide, by decide, ?_⟩
    refine wp_dct ?_
    try simp only [wp_ok, wp_then, wp_lift, wp_c, wp_var, wp_gvar, wp_op2, wp_op1, wp_bool, wp_tru, wp_and, wp_or, wp_notT, wp_if, wp_andV, wp_orV, wp_not, wp_nil, wp_cons, wp_tup, wp_lst, wp_call, wp_fn, wp_gnil, wp_gcons, wp_gtup, wp_gsub, wp_chain, wp_comp, wp_yes, wp_seqI, wp_rng1, wp_noPart, wp_part, wp_sl, wp_pnil, wp_pcons, ret_some, ret_mod, ret_fdiv, ret_mul, ret_pow, opSub_i, opAdd_i, opNeg_i, opLt_i, opLe_i, opGt_i, opGe_i, opMax_i, opMax_i3, opMin_i, opAbs_i, opInt_i, opInt_b, truW_bl, truW_int, Option.some.injEq, exists_eq_left', W.bl.injEq, W.int.injEq, W.tup.injEq, List.cons.injEq, and_true, true_and, List.length_cons, List.length_nil, Nat.reduceAdd, reduceCtorEq, false_and, or_false, false_or, exists_false, nth_0, nth_1, nth_2, nth_3, nth_4, nth_5, nth_6, nth_7, nth_8, nth_9, nth_10, nth_11, nth_12, nth_13, setL_0, setL_1, setL_2, setL_3, setL_4, setL_5, setL_6, setL_7, setL_8, setL_9, setL_10, setL_11, setL_12, setL_13]
    refine ⟨[.inl 1], new_get, rfl, by decide, by decide, by decide, ⟨by decide, by decide +kernel⟩, ⟨by decide, by decide +kernel⟩, by decide +kernel, ⟨by decide, by decide +kernel⟩, by decide +kernel, by decide, by decide, by decide, ?_⟩
    have od : Old s15 ((s15.new (.dct [])).put s15.n (.dct [(.int 1, .int 2)])) := Old.new.putR (Nat.le_refl _) (Nat.lt_succ_self _)
    have gd : ((s15.new (.dct [])).put s15.n (.dct [(.int 1, .int 2)])).get s15.n = some (.dct [(.int 1, .int 2)]) := put_get new_get
    have nd : s15.n < ((s15.new (.dct [])).put s15.n (.dct [(.int 1, .int 2)])).n := Nat.lt_succ_self _
    generalize (s15.new (.dct [])).put s15.n (.dct [(.int 1, .int 2)]) = s16 at od gd nd
    refine near_add N4 od (by decide) (Nat.le_of_ble_eq_true rfl) ?_ fun s17 nr4 N5 hn4 o17 => ?_
    · intro it hi
      simp only [List.mem_cons, List.mem_nil_iff, or_false] at hi
      rcases hi with rfl | rfl | rfl | rfl
      · exact good_bad (kx := 5) (ky := 0) rfl rfl (.inl (by decide))
      · exact good_len (by decide)
      · exact good_dct gd (by omega)
      · exact good_int (by decide +kernel) (decide_eq_true ⟨by decide +kernel, Int.gcd_one_left _⟩)
    have o1417 : Old s14 s17 := o15.trans (od.trans o17)
    refine sw_ret.mpr ((near_wp N5 (Nat.le_of_ble_eq_true rfl) rfl ⟨_, _, _, _, _, _, _, _, _, _, _, _, _, rfl⟩).mono ?_)
    rintro _ s18 ⟨rfl, o18⟩
    exact ⟨rfl, Dz.old d14 (o1417.trans o18), x14.trans (o1417.trans o18).x⟩
  · rintro i l s hi ⟨x, rfl, rfl⟩
    refine ⟨_, rng_next hi, ?_⟩
    simp only [wp_gvar, setL_9]
    refine sw_asg.mpr ?_
    try simp only [wp_ok, wp_then, wp_lift, wp_c, wp_var, wp_gvar, wp_op2, wp_op1, wp_bool, wp_tru, wp_and, wp_or, wp_notT, wp_if, wp_andV, wp_orV, wp_not, wp_nil, wp_cons, wp_tup, wp_lst, wp_call, wp_fn, wp_gnil, wp_gcons, wp_gtup, wp_gsub, wp_chain, wp_comp, wp_yes, wp_seqI, wp_rng1, wp_noPart, wp_part, wp_sl, wp_pnil, wp_pcons, ret_some, ret_mod, ret_fdiv, ret_mul, ret_pow, opSub_i, opAdd_i, opNeg_i, opLt_i, opLe_i, opGt_i, opGe_i, opMax_i, opMax_i3, opMin_i, opAbs_i, opInt_i, opInt_b, truW_bl, truW_int, Option.some.injEq, exists_eq_left', W.bl.injEq, W.int.injEq, W.tup.injEq, List.cons.injEq, and_true, true_and, List.length_cons, List.length_nil, Nat.reduceAdd, reduceCtorEq, false_and, or_false, false_or, exists_false, nth_0, nth_1, nth_2, nth_3, nth_4, nth_5, nth_6, nth_7, nth_8, nth_9, nth_10, nth_11, nth_12, nth_13, setL_0, setL_1, setL_2, setL_3, setL_4, setL_5, setL_6, setL_7, setL_8, setL_9, setL_10, setL_11, setL_12, setL_13, ret_of ix0, ret_of ix1]
    have l1 := log_pow (lo400 hc) i
    have l2 := log_pow (lo400 hdd) i
    refine ⟨by omega, by omega, ?_⟩
    rw [← Int.pow_succ, ← Int.pow_succ]
    refine (fr_least_wp (Int.pow_pos hcd.p) (big9 (pow_small hdd.lo (by omega)) (by decide))).mono ?_
    rintro _ _ ⟨rfl, rfl⟩
    rw [frI_one (Int.pow_gcd_pow_of_gcd_eq_one hcd.g)]
    exact ⟨_, ⟨rfl, rfl⟩, rfl⟩

/-! ### the law -/
theorem says_of {F : List W → M W} {n : Nat} (h : ∀ ns : List Int, ns.length ≤ n → Wp (F [.scr ns] st0) fun r _ => r = .bl true) : Says F n := fun ns hn => Tr.All.mono (h ns hn) fun o q => by
  cases o with
  | ok r s =>
    have q : r = .bl true := q
    exact ⟨s, by rw [q]⟩
  | ex _ _ _ => exact q.elim
theorem ne_pair {a b : Int} {s : Sto} : opNe (.tup [.int a, .int b]) (.tup [.int a, .int b]) s = some (.bl false, s) := by
  show some (W.bl (!PyData.eqv (.tuple [.int a, .int b]) (.tuple [.int a, .int b])), s) = _
  rw [show PyData.eqv (.tuple [.int a, .int b]) (.tuple [.int a, .int b]) = true by simp [PyData.eqv, PyData.eqvAll]]
  rfl
theorem frI_of {t b g x y : Int} (h : (Int.gcd t b : Int) = g) (h1 : t / g = x) (h2 : b / g = y) : frI t b = .tup [.int x, .int y] := by
  unfold frI
  rw [h, h1, h2]
def seven : List W := [.tup [.int 0, .int 1], .tup [.int (-3), .int 2], .tup [.int 2, .int 1], .tup [.int 0, .int 1], .tup [.int 1, .int 1], .tup [.int 1, .int 1], .tup [.int (-1), .int 8]]
theorem eq_seven {m k : Nat} {s : Sto} (h1 : s.get m = some (.lst seven)) (h2 : s.get k = some (.lst seven)) : opEq (.obj m) (.obj k) s = some (.bl true, s) := by
  have d : ∀ n, s.get n = some (.lst seven) → dat 40 s (.obj n) = some (.list [.tuple [.int 0, .int 1], .tuple [.int (-3), .int 2], .tuple [.int 2, .int 1], .tuple [.int 0, .int 1], .tuple [.int 1, .int 1], .tuple [.int 1, .int 1], .tuple [.int (-1), .int 8]]) := by
    intro n hn
    unfold dat
    simp only [hn]
    rfl
  unfold opEq eqW
  rw [d _ h1, d _ h2]
  show some (W.bl (PyData.eqv _ _), s) = _
  rw [show PyData.eqv (.list [.tuple [.int 0, .int 1], .tuple [.int (-3), .int 2], .tuple [.int 2, .int 1], .tuple [.int 0, .int 1], .tuple [.int 1, .int 1], .tuple [.int 1, .int 1], .tuple [.int (-1), .int 8]]) (.list [.tuple [.int 0, .int 1], .tuple [.int (-3), .int 2], .tuple [.int 2, .int 1], .tuple [.int 0, .int 1], .tuple [.int 1, .int 1], .tuple [.int 1, .int 1], .tuple [.int (-1), .int 8]]) = true by decide +kernel]
theorem law_end {ns : List Int} {x1 x2 x3 x4 x5 x6 x7 : Option W} {s : Sto} : SWp ((mSeq (mAsg (mLst (mCons (mFn 2 m_fraction (mCons (mC (.int 0)) (mCons (mC (.int 7)) mNil))) (mCons (mFn 2 m_fraction (mCons (mOp1 opNeg (mC (.int 6))) (mCons (mC (.int 4)) mNil))) (mCons (mFn 2 m_fraction (mCons (mC (.int 6)) (mCons (mC (.int 3)) mNil))) (mCons (mFn 1 m_rest (mCons (mTup (mCons (mC (.int 1)) (mCons (mC (.int 1)) mNil))) mNil)) (mCons (mFn 1 m_rest (mCons (mTup (mCons (mC (.int 0)) (mCons (mC (.int 1)) mNil))) mNil)) mNil)))))) (gVar 7))
    (mSeq (mAsg (mOp2 opAdd (mVar 7) (mLst (mCons (mFn 2 m_power (mCons (mTup (mCons (mC (.int 0)) (mCons (mC (.int 1)) mNil))) (mCons (mC (.int 0)) mNil))) (mCons (mFn 2 m_power (mCons (mTup (mCons (mOp1 opNeg (mC (.int 1))) (mCons (mC (.int 2)) mNil))) (mCons (mC (.int 3)) mNil))) mNil)))) (gVar 7))
    (mRet (mAndV (mOp2 opEq (mVar 7) (mLst (mCons (mTup (mCons (mC (.int 0)) (mCons (mC (.int 1)) mNil))) (mCons (mTup (mCons (mOp1 opNeg (mC (.int 3))) (mCons (mC (.int 2)) mNil))) (mCons (mTup (mCons (mC (.int 2)) (mCons (mC (.int 1)) mNil))) (mCons (mTup (mCons (mC (.int 0)) (mCons (mC (.int 1)) mNil))) (mCons (mTup (mCons (mC (.int 1)) (mCons (mC (.int 1)) mNil))) (mCons (mTup (mCons (mC (.int 1)) (mCons (mC (.int 1)) mNil))) (mCons (mTup (mCons (mOp1 opNeg (mC (.int 1))) (mCons (mC (.int 8)) mNil))) mNil))))))))) (mOp2 opEq (mFn 2 m_added (mCons (mTup (mCons (mC (.int 1)) (mCons (mC (.int 2)) mNil))) (mCons (mTup (mCons (mOp1 opNeg (mC (.int 1))) (mCons (mC (.int 2)) mNil))) mNil))) (mTup (mCons (mC (.int 0)) (mCons (mC (.int 1)) mNil))))))))
    [some (.scr ns), x1, x2, x3, x4, x5, x6, x7] s) (fun _ _ => False) (fun r _ => r = .bl true) (fun _ _ => False) fun _ _ => False := by
  have F11 : Fr 1 1 := ⟨by decide, by decide +kernel, by unfold gr; decide +kernel, by unfold gr; decide +kernel⟩
  have F01 : Fr 0 1 := ⟨by decide, by decide +kernel, by unfold gr; decide +kernel, by unfold gr; decide +kernel⟩
  have Fm12 : Fr (-1) 2 := ⟨by decide, by decide +kernel, by unfold gr; decide +kernel, by unfold gr; decide +kernel⟩
  have F12 : Fr 1 2 := ⟨by decide, by decide +kernel, by unfold gr; decide +kernel, by unfold gr; decide +kernel⟩
  refine sw_seq.mpr (sw_asg.mpr ?_)
  try simp only [wp_ok, wp_then, wp_lift, wp_c, wp_var, wp_gvar, wp_op2, wp_op1, wp_bool, wp_tru, wp_and, wp_or, wp_notT, wp_if, wp_andV, wp_orV, wp_not, wp_nil, wp_cons, wp_tup, wp_lst, wp_call, wp_fn, wp_gnil, wp_gcons, wp_gtup, wp_gsub, wp_chain, wp_comp, wp_yes, wp_seqI, wp_rng1, wp_noPart, wp_part, wp_sl, wp_pnil, wp_pcons, ret_some, ret_mod, ret_fdiv, ret_mul, ret_pow, opSub_i, opAdd_i, opNeg_i, opLt_i, opLe_i, opGt_i, opGe_i, opMax_i, opMax_i3, opMin_i, opAbs_i, opInt_i, opInt_b, truW_bl, truW_int, Option.some.injEq, exists_eq_left', W.bl.injEq, W.int.injEq, W.tup.injEq, List.cons.injEq, and_true, true_and, List.length_cons, List.length_nil, Nat.reduceAdd, reduceCtorEq, false_and, or_false, false_or, exists_false, nth_0, nth_1, nth_2, nth_3, nth_4, nth_5, nth_6, nth_7, nth_8, nth_9, nth_10, nth_11, nth_12, nth_13, setL_0, setL_1, setL_2, setL_3, setL_4, setL_5, setL_6, setL_7, setL_8, setL_9, setL_10, setL_11, setL_12, setL_13]
  refine (fraction_wp (by unfold gr; decide +kernel) (by unfold gr; decide +kernel) (by decide) (by unfold gr; decide +kernel)).mono ?_
  rintro _ _ ⟨rfl, rfl⟩
  refine (fraction_wp (by unfold gr; decide +kernel) (by unfold gr; decide +kernel) (by decide) (by unfold gr; decide +kernel)).mono ?_
  rintro _ _ ⟨rfl, rfl⟩
  refine (fraction_wp (by unfold gr; decide +kernel) (by unfold gr; decide +kernel) (by decide) (by unfold gr; decide +kernel)).mono ?_
  rintro _ _ ⟨rfl, rfl⟩
  refine ⟨by decide, ?_⟩
  refine (rest_wp F11).mono ?_
  rintro _ s1 ⟨rfl, -⟩
  refine ⟨by decide, ?_⟩
  refine (rest_wp F01).mono ?_
  rintro _ s2 ⟨rfl, -⟩
  refine ⟨by decide, ?_⟩
  rw [frI_of (t := 0) (b := 7) (g := 7) (x := 0) (y := 1) (by decide +kernel) (by decide) (by decide), frI_of (t := -6) (b := 4) (g := 2) (x := -3) (y := 2) (by decide +kernel) (by decide) (by decide), frI_of (t := 6) (b := 3) (g := 3) (x := 2) (y := 1) (by decide +kernel) (by decide) (by decide),
    frI_of (t := 1 - 1) (b := 1) (g := 1) (x := 0) (y := 1) (by decide +kernel) (by decide) (by decide), frI_of (t := 1 - 0) (b := 1) (g := 1) (x := 1) (y := 1) (by decide +kernel) (by decide) (by decide)]
  have g1 : (s2.new (.lst [.tup [.int 0, .int 1], .tup [.int (-3), .int 2], .tup [.int 2, .int 1], .tup [.int 0, .int 1], .tup [.int 1, .int 1]])).get s2.n = some (.lst [.tup [.int 0, .int 1], .tup [.int (-3), .int 2], .tup [.int 2, .int 1], .tup [.int 0, .int 1], .tup [.int 1, .int 1]]) := new_get
  generalize s2.new (.lst [.tup [.int 0, .int 1], .tup [.int (-3), .int 2], .tup [.int 2, .int 1], .tup [.int 0, .int 1], .tup [.int 1, .int 1]]) = s3 at g1
  generalize s2.n = m at g1
  refine sw_seq.mpr (sw_asg.mpr ?_)
  try simp only [wp_ok, wp_then, wp_lift, wp_c, wp_var, wp_gvar, wp_op2, wp_op1, wp_bool, wp_tru, wp_and, wp_or, wp_notT, wp_if, wp_andV, wp_orV, wp_not, wp_nil, wp_cons, wp_tup, wp_lst, wp_call, wp_fn, wp_gnil, wp_gcons, wp_gtup, wp_gsub, wp_chain, wp_comp, wp_yes, wp_seqI, wp_rng1, wp_noPart, wp_part, wp_sl, wp_pnil, wp_pcons, ret_some, ret_mod, ret_fdiv, ret_mul, ret_pow, opSub_i, opAdd_i, opNeg_i, opLt_i, opLe_i, opGt_i, opGe_i, opMax_i, opMax_i3, opMin_i, opAbs_i, opInt_i, opInt_b, truW_bl, truW_int, Option.some.injEq, exists_eq_left', W.bl.injEq, W.int.injEq, W.tup.injEq, List.cons.injEq, and_true, true_and, List.length_cons, List.length_nil, Nat.reduceAdd, reduceCtorEq, false_and, or_false, false_or, exists_false, nth_0, nth_1, nth_2, nth_3, nth_4, nth_5, nth_6, nth_7, nth_8, nth_9, nth_10, nth_11, nth_12, nth_13, setL_0, setL_1, setL_2, setL_3, setL_4, setL_5, setL_6, setL_7, setL_8, setL_9, setL_10, setL_11, setL_12, setL_13]
  refine ⟨by decide, ?_⟩
  refine (power_wp (t := 0) F01 (by decide)).mono ?_
  rintro _ s4 ⟨rfl, o4⟩
  refine ⟨by decide, ?_⟩
  refine (power_wp (t := 3) Fm12 (by decide)).mono ?_
  rintro _ s5 ⟨rfl, o5⟩
  refine ⟨by decide, ?_⟩
  have g5 := (o4.trans o5).get g1
  rw [ret_cat (Old.new.get g5) new_get (by decide)]
  refine sw_ret.mpr ?_
  rw [show [W.tup [.int 0, .int 1], .tup [.int (-3), .int 2], .tup [.int 2, .int 1], .tup [.int 0, .int 1], .tup [.int 1, .int 1]] ++ [W.tup [.int (0 ^ 0), .int (1 ^ 0)], .tup [.int ((-1) ^ 3), .int (2 ^ 3)]]
    = [W.tup [.int 0, .int 1], .tup [.int (-3), .int 2], .tup [.int 2, .int 1], .tup [.int 0, .int 1], .tup [.int 1, .int 1], .tup [.int 1, .int 1], .tup [.int (-1), .int 8]] from rfl]
  generalize (s5.new (.lst [.tup [.int (0 ^ 0), .int (1 ^ 0)], .tup [.int ((-1) ^ 3), .int (2 ^ 3)]])) = s6
  rw [wp_andV]
  have g7 : (s6.new (.lst seven)).get s6.n = some (.lst seven) := new_get
  show Wp (mOp2 opEq (mVar 7) _ [some (.scr ns), x1, x2, x3, x4, x5, x6, some (.obj s6.n)] (s6.new (.lst seven))) _
  generalize s6.new (.lst seven) = s7 at g7
  generalize s6.n = k at g7
  try simp only [wp_ok, wp_then, wp_lift, wp_c, wp_var, wp_gvar, wp_op2, wp_op1, wp_bool, wp_tru, wp_and, wp_or, wp_notT, wp_if, wp_andV, wp_orV, wp_not, wp_nil, wp_cons, wp_tup, wp_lst, wp_call, wp_fn, wp_gnil, wp_gcons, wp_gtup, wp_gsub, wp_chain, wp_comp, wp_yes, wp_seqI, wp_rng1, wp_noPart, wp_part, wp_sl, wp_pnil, wp_pcons, ret_some, ret_mod, ret_fdiv, ret_mul, ret_pow, opSub_i, opAdd_i, opNeg_i, opLt_i, opLe_i, opGt_i, opGe_i, opMax_i, opMax_i3, opMin_i, opAbs_i, opInt_i, opInt_b, truW_bl, truW_int, Option.some.injEq, exists_eq_left', W.bl.injEq, W.int.injEq, W.tup.injEq, List.cons.injEq, and_true, true_and, List.length_cons, List.length_nil, Nat.reduceAdd, reduceCtorEq, false_and, or_false, false_or, exists_false, nth_0, nth_1, nth_2, nth_3, nth_4, nth_5, nth_6, nth_7, nth_8, nth_9, nth_10, nth_11, nth_12, nth_13, setL_0, setL_1, setL_2, setL_3, setL_4, setL_5, setL_6, setL_7, setL_8, setL_9, setL_10, setL_11, setL_12, setL_13]
  refine ⟨by decide, by decide, by decide, by decide, by decide, by decide, by decide, by decide, ?_⟩
  show Ret (opEq (.obj k) (.obj s7.n) (s7.new (.lst seven))) _
  rw [ret_of (eq_seven (Old.new.get g7) new_get)]
  try simp only [wp_ok, wp_then, wp_lift, wp_c, wp_var, wp_gvar, wp_op2, wp_op1, wp_bool, wp_tru, wp_and, wp_or, wp_notT, wp_if, wp_andV, wp_orV, wp_not, wp_nil, wp_cons, wp_tup, wp_lst, wp_call, wp_fn, wp_gnil, wp_gcons, wp_gtup, wp_gsub, wp_chain, wp_comp, wp_yes, wp_seqI, wp_rng1, wp_noPart, wp_part, wp_sl, wp_pnil, wp_pcons, ret_some, ret_mod, ret_fdiv, ret_mul, ret_pow, opSub_i, opAdd_i, opNeg_i, opLt_i, opLe_i, opGt_i, opGe_i, opMax_i, opMax_i3, opMin_i, opAbs_i, opInt_i, opInt_b, truW_bl, truW_int, Option.some.injEq, exists_eq_left', W.bl.injEq, W.int.injEq, W.tup.injEq, List.cons.injEq, and_true, true_and, List.length_cons, List.length_nil, Nat.reduceAdd, reduceCtorEq, false_and, or_false, false_or, exists_false, nth_0, nth_1, nth_2, nth_3, nth_4, nth_5, nth_6, nth_7, nth_8, nth_9, nth_10, nth_11, nth_12, nth_13, setL_0, setL_1, setL_2, setL_3, setL_4, setL_5, setL_6, setL_7, setL_8, setL_9, setL_10, setL_11, setL_12, setL_13, if_true]
  refine ⟨by decide, by decide, ?_⟩
  refine (added_wp F12 Fm12).mono ?_
  rintro _ s8 ⟨rfl, -⟩
  refine ⟨by decide, ?_⟩
  rw [frI_of (g := 4) (x := 0) (y := 1) (by decide +kernel) (by decide) (by decide)]
  have e : opEq (.tup [.int 0, .int 1]) (.tup [.int 0, .int 1]) s8 = some (.bl true, s8) := by
    show some (W.bl (PyData.eqv (.tuple [.int 0, .int 1]) (.tuple [.int 0, .int 1])), s8) = _
    rw [show PyData.eqv (.tuple [.int 0, .int 1]) (.tuple [.int 0, .int 1]) = true by decide +kernel]
  rw [ret_of e]
theorem power_found {a b : Int} {i : Nat} : W.tup [.int (a ^ i * a), .int (b ^ i * b)] = .tup [.int (a ^ (i + 1)), .int (b ^ (i + 1))] := by
  rw [Int.pow_succ, Int.pow_succ]
theorem says : Says m_law 63 := by
  refine says_of fun ns hn => ?_
  unfold m_law b_law
  refine wp_run.mpr (sw_seq.mpr (sw_for.mpr ?_))
  simp only [wp_ok, wp_then, wp_lift, wp_c, wp_var, wp_gvar, wp_op2, wp_op1, wp_bool, wp_tru, wp_and, wp_or, wp_notT, wp_if, wp_andV, wp_orV, wp_not, wp_nil, wp_cons, wp_tup, wp_lst, wp_call, wp_fn, wp_gnil, wp_gcons, wp_gtup, wp_gsub, wp_chain, wp_comp, wp_yes, wp_seqI, wp_rng1, wp_noPart, wp_part, wp_sl, wp_pnil, wp_pcons, ret_some, ret_mod, ret_fdiv, ret_mul, ret_pow, opSub_i, opAdd_i, opNeg_i, opLt_i, opLe_i, opGt_i, opGe_i, opMax_i, opMax_i3, opMin_i, opAbs_i, opInt_i, opInt_b, truW_bl, truW_int, Option.some.injEq, exists_eq_left', W.bl.injEq, W.int.injEq, W.tup.injEq, List.cons.injEq, and_true, true_and, List.length_cons, List.length_nil, Nat.reduceAdd, reduceCtorEq, false_and, or_false, false_or, exists_false, nth_0, nth_1, nth_2, nth_3, nth_4, nth_5, nth_6, nth_7, nth_8, nth_9, nth_10, nth_11, nth_12, nth_13, setL_0, setL_1, setL_2, setL_3, setL_4, setL_5, setL_6, setL_7, setL_8, setL_9, setL_10, setL_11, setL_12, setL_13, show initL 8 [W.scr ns] = [some (.scr ns), none, none, none, none, none, none, none] from rfl, ret_of len_scr]
  have hm : 0 ≤ maxI 1 (minI 4 ns.length) ∧ maxI 1 (minI 4 ns.length) ≤ 4 := by
    unfold maxI minI
    split <;> split <;> omega
  generalize maxI 1 (minI 4 ns.length) = cells at hm
  obtain ⟨h0, h4⟩ := hm
  refine ⟨by omega, ?_⟩
  refine sw_forI cells.toNat (fun i l _ => ∃ x1 x2 x3 x4 x5 x6 x7, l = [some (.scr ns), x1, x2, x3, x4, x5, x6, x7]) ?_ ?_ lotN 0 _ _ ⟨_, _, _, _, _, _, _, rfl⟩ (Nat.zero_le _) (by rw [Nat.zero_add]; exact Nat.lt_of_le_of_lt (show cells.toNat ≤ 4 by omega) (by decide))
  · rintro l s ⟨x1, x2, x3, x4, x5, x6, x7, rfl⟩
    refine ⟨rng_end, ?_⟩
    exact law_end.mono (fun _ _ h => h.elim) (fun _ _ h => h) (fun _ _ h => h) fun _ _ h => h
  · rintro i l s hi ⟨x1, x2, x3, x4, x5, x6, x7, rfl⟩
    refine ⟨_, rng_next hi, ?_⟩
    simp only [wp_gvar, setL_1]
    refine sw_seq.mpr (sw_asg.mpr ?_)
    try simp only [wp_ok, wp_then, wp_lift, wp_c, wp_var, wp_gvar, wp_op2, wp_op1, wp_bool, wp_tru, wp_and, wp_or, wp_notT, wp_if, wp_andV, wp_orV, wp_not, wp_nil, wp_cons, wp_tup, wp_lst, wp_call, wp_fn, wp_gnil, wp_gcons, wp_gtup, wp_gsub, wp_chain, wp_comp, wp_yes, wp_seqI, wp_rng1, wp_noPart, wp_part, wp_sl, wp_pnil, wp_pcons, ret_some, ret_mod, ret_fdiv, ret_mul, ret_pow, opSub_i, opAdd_i, opNeg_i, opLt_i, opLe_i, opGt_i, opGe_i, opMax_i, opMax_i3, opMin_i, opAbs_i, opInt_i, opInt_b, truW_bl, truW_int, Option.some.injEq, exists_eq_left', W.bl.injEq, W.int.injEq, W.tup.injEq, List.cons.injEq, and_true, true_and, List.length_cons, List.length_nil, Nat.reduceAdd, reduceCtorEq, false_and, or_false, false_or, exists_false, nth_0, nth_1, nth_2, nth_3, nth_4, nth_5, nth_6, nth_7, nth_8, nth_9, nth_10, nth_11, nth_12, nth_13, setL_0, setL_1, setL_2, setL_3, setL_4, setL_5, setL_6, setL_7, setL_8, setL_9, setL_10, setL_11, setL_12, setL_13, Int.zero_add]
    refine wp_dice (Nat.lt_of_lt_of_le hi (Nat.le_trans (show cells.toNat ≤ 4 by omega) (by decide))) fun s1 d1 _ _ => ?_
    generalize s.n = n at d1
    have d1 : Dz s1 n 78 := d1.mono (by decide)
    refine sw_seq.mpr (sw_for.mpr ?_)
    try simp only [wp_ok, wp_then, wp_lift, wp_c, wp_var, wp_gvar, wp_op2, wp_op1, wp_bool, wp_tru, wp_and, wp_or, wp_notT, wp_if, wp_andV, wp_orV, wp_not, wp_nil, wp_cons, wp_tup, wp_lst, wp_call, wp_fn, wp_gnil, wp_gcons, wp_gtup, wp_gsub, wp_chain, wp_comp, wp_yes, wp_seqI, wp_rng1, wp_noPart, wp_part, wp_sl, wp_pnil, wp_pcons, ret_some, ret_mod, ret_fdiv, ret_mul, ret_pow, opSub_i, opAdd_i, opNeg_i, opLt_i, opLe_i, opGt_i, opGe_i, opMax_i, opMax_i3, opMin_i, opAbs_i, opInt_i, opInt_b, truW_bl, truW_int, Option.some.injEq, exists_eq_left', W.bl.injEq, W.int.injEq, W.tup.injEq, List.cons.injEq, and_true, true_and, List.length_cons, List.length_nil, Nat.reduceAdd, reduceCtorEq, false_and, or_false, false_or, exists_false, nth_0, nth_1, nth_2, nth_3, nth_4, nth_5, nth_6, nth_7, nth_8, nth_9, nth_10, nth_11, nth_12, nth_13, setL_0, setL_1, setL_2, setL_3, setL_4, setL_5, setL_6, setL_7, setL_8, setL_9, setL_10, setL_11, setL_12, setL_13]
    refine ⟨by decide, ?_⟩
    refine sw_forI 3 (fun j l s => (∃ x3, l = [some (.scr ns), some (.int i), some (.obj n), x3, x4, x5, x6, x7]) ∧ Dz s n (25 * (3 - j) + 3)) ?_ ?_ lotN 0 _ _ ⟨⟨_, rfl⟩, d1⟩ (Nat.zero_le _) (by decide)
    · rintro l s2 ⟨⟨y3, rfl⟩, d2⟩
      refine ⟨rng_end, ?_⟩
      refine sw_seq.mpr (sw_par.mpr ?_)
      try simp only [wp_ok, wp_then, wp_lift, wp_c, wp_var, wp_gvar, wp_op2, wp_op1, wp_bool, wp_tru, wp_and, wp_or, wp_notT, wp_if, wp_andV, wp_orV, wp_not, wp_nil, wp_cons, wp_tup, wp_lst, wp_call, wp_fn, wp_gnil, wp_gcons, wp_gtup, wp_gsub, wp_chain, wp_comp, wp_yes, wp_seqI, wp_rng1, wp_noPart, wp_part, wp_sl, wp_pnil, wp_pcons, ret_some, ret_mod, ret_fdiv, ret_mul, ret_pow, opSub_i, opAdd_i, opNeg_i, opLt_i, opLe_i, opGt_i, opGe_i, opMax_i, opMax_i3, opMin_i, opAbs_i, opInt_i, opInt_b, truW_bl, truW_int, Option.some.injEq, exists_eq_left', W.bl.injEq, W.int.injEq, W.tup.injEq, List.cons.injEq, and_true, true_and, List.length_cons, List.length_nil, Nat.reduceAdd, reduceCtorEq, false_and, or_false, false_or, exists_false, nth_0, nth_1, nth_2, nth_3, nth_4, nth_5, nth_6, nth_7, nth_8, nth_9, nth_10, nth_11, nth_12, nth_13, setL_0, setL_1, setL_2, setL_3, setL_4, setL_5, setL_6, setL_7, setL_8, setL_9, setL_10, setL_11, setL_12, setL_13]
      refine wp_roll (B := 2) d2 (by decide) (by decide) fun t s3 ht d3 o3 => ?_
      try simp only [wp_ok, wp_then, wp_lift, wp_c, wp_var, wp_gvar, wp_op2, wp_op1, wp_bool, wp_tru, wp_and, wp_or, wp_notT, wp_if, wp_andV, wp_orV, wp_not, wp_nil, wp_cons, wp_tup, wp_lst, wp_call, wp_fn, wp_gnil, wp_gcons, wp_gtup, wp_gsub, wp_chain, wp_comp, wp_yes, wp_seqI, wp_rng1, wp_noPart, wp_part, wp_sl, wp_pnil, wp_pcons, ret_some, ret_mod, ret_fdiv, ret_mul, ret_pow, opSub_i, opAdd_i, opNeg_i, opLt_i, opLe_i, opGt_i, opGe_i, opMax_i, opMax_i3, opMin_i, opAbs_i, opInt_i, opInt_b, truW_bl, truW_int, Option.some.injEq, exists_eq_left', W.bl.injEq, W.int.injEq, W.tup.injEq, List.cons.injEq, and_true, true_and, List.length_cons, List.length_nil, Nat.reduceAdd, reduceCtorEq, false_and, or_false, false_or, exists_false, nth_0, nth_1, nth_2, nth_3, nth_4, nth_5, nth_6, nth_7, nth_8, nth_9, nth_10, nth_11, nth_12, nth_13, setL_0, setL_1, setL_2, setL_3, setL_4, setL_5, setL_6, setL_7, setL_8, setL_9, setL_10, setL_11, setL_12, setL_13]
      refine ⟨by decide, _, _, ⟨rfl, rfl⟩, ?_⟩
      try simp only [wp_ok, wp_then, wp_lift, wp_c, wp_var, wp_gvar, wp_op2, wp_op1, wp_bool, wp_tru, wp_and, wp_or, wp_notT, wp_if, wp_andV, wp_orV, wp_not, wp_nil, wp_cons, wp_tup, wp_lst, wp_call, wp_fn, wp_gnil, wp_gcons, wp_gtup, wp_gsub, wp_chain, wp_comp, wp_yes, wp_seqI, wp_rng1, wp_noPart, wp_part, wp_sl, wp_pnil, wp_pcons, ret_some, ret_mod, ret_fdiv, ret_mul, ret_pow, opSub_i, opAdd_i, opNeg_i, opLt_i, opLe_i, opGt_i, opGe_i, opMax_i, opMax_i3, opMin_i, opAbs_i, opInt_i, opInt_b, truW_bl, truW_int, Option.some.injEq, exists_eq_left', W.bl.injEq, W.int.injEq, W.tup.injEq, List.cons.injEq, and_true, true_and, List.length_cons, List.length_nil, Nat.reduceAdd, reduceCtorEq, false_and, or_false, false_or, exists_false, nth_0, nth_1, nth_2, nth_3, nth_4, nth_5, nth_6, nth_7, nth_8, nth_9, nth_10, nth_11, nth_12, nth_13, setL_0, setL_1, setL_2, setL_3, setL_4, setL_5, setL_6, setL_7, setL_8, setL_9, setL_10, setL_11, setL_12, setL_13]
      refine sw_seq.mpr (sw_asg.mpr ?_)
      try simp only [wp_ok, wp_then, wp_lift, wp_c, wp_var, wp_gvar, wp_op2, wp_op1, wp_bool, wp_tru, wp_and, wp_or, wp_notT, wp_if, wp_andV, wp_orV, wp_not, wp_nil, wp_cons, wp_tup, wp_lst, wp_call, wp_fn, wp_gnil, wp_gcons, wp_gtup, wp_gsub, wp_chain, wp_comp, wp_yes, wp_seqI, wp_rng1, wp_noPart, wp_part, wp_sl, wp_pnil, wp_pcons, ret_some, ret_mod, ret_fdiv, ret_mul, ret_pow, opSub_i, opAdd_i, opNeg_i, opLt_i, opLe_i, opGt_i, opGe_i, opMax_i, opMax_i3, opMin_i, opAbs_i, opInt_i, opInt_b, truW_bl, truW_int, Option.some.injEq, exists_eq_left', W.bl.injEq, W.int.injEq, W.tup.injEq, List.cons.injEq, and_true, true_and, List.length_cons, List.length_nil, Nat.reduceAdd, reduceCtorEq, false_and, or_false, false_or, exists_false, nth_0, nth_1, nth_2, nth_3, nth_4, nth_5, nth_6, nth_7, nth_8, nth_9, nth_10, nth_11, nth_12, nth_13, setL_0, setL_1, setL_2, setL_3, setL_4, setL_5, setL_6, setL_7, setL_8, setL_9, setL_10, setL_11, setL_12, setL_13]
      refine wp_roll (B := 1) d3 (by decide) (by decide) fun v s4 hv d4 o4 => ?_
      try simp only [wp_ok, wp_then, wp_lift, wp_c, wp_var, wp_gvar, wp_op2, wp_op1, wp_bool, wp_tru, wp_and, wp_or, wp_notT, wp_if, wp_andV, wp_orV, wp_not, wp_nil, wp_cons, wp_tup, wp_lst, wp_call, wp_fn, wp_gnil, wp_gcons, wp_gtup, wp_gsub, wp_chain, wp_comp, wp_yes, wp_seqI, wp_rng1, wp_noPart, wp_part, wp_sl, wp_pnil, wp_pcons, ret_some, ret_mod, ret_fdiv, ret_mul, ret_pow, opSub_i, opAdd_i, opNeg_i, opLt_i, opLe_i, opGt_i, opGe_i, opMax_i, opMax_i3, opMin_i, opAbs_i, opInt_i, opInt_b, truW_bl, truW_int, Option.some.injEq, exists_eq_left', W.bl.injEq, W.int.injEq, W.tup.injEq, List.cons.injEq, and_true, true_and, List.length_cons, List.length_nil, Nat.reduceAdd, reduceCtorEq, false_and, or_false, false_or, exists_false, nth_0, nth_1, nth_2, nth_3, nth_4, nth_5, nth_6, nth_7, nth_8, nth_9, nth_10, nth_11, nth_12, nth_13, setL_0, setL_1, setL_2, setL_3, setL_4, setL_5, setL_6, setL_7, setL_8, setL_9, setL_10, setL_11, setL_12, setL_13]
      refine wp_roll (B := 0) d4 (by decide) (by decide) fun w s5 hw d5 o5 => ?_
      have mp : (0 : Int) < 1 + w := by omega
      have v16 : ((v : Int) - 4).natAbs < 2 ^ 4 := by omega
      have w16 : ((1 : Int) + w).natAbs < 2 ^ 4 := by omega
      have nv : Num ((v : Int) - 4) := num_of (by omega) (by omega)
      have nw : Num ((1 : Int) + w) := num_of (by omega) (by omega)
      try simp only [wp_ok, wp_then, wp_lift, wp_c, wp_var, wp_gvar, wp_op2, wp_op1, wp_bool, wp_tru, wp_and, wp_or, wp_notT, wp_if, wp_andV, wp_orV, wp_not, wp_nil, wp_cons, wp_tup, wp_lst, wp_call, wp_fn, wp_gnil, wp_gcons, wp_gtup, wp_gsub, wp_chain, wp_comp, wp_yes, wp_seqI, wp_rng1, wp_noPart, wp_part, wp_sl, wp_pnil, wp_pcons, ret_some, ret_mod, ret_fdiv, ret_mul, ret_pow, opSub_i, opAdd_i, opNeg_i, opLt_i, opLe_i, opGt_i, opGe_i, opMax_i, opMax_i3, opMin_i, opAbs_i, opInt_i, opInt_b, truW_bl, truW_int, Option.some.injEq, exists_eq_left', W.bl.injEq, W.int.injEq, W.tup.injEq, List.cons.injEq, and_true, true_and, List.length_cons, List.length_nil, Nat.reduceAdd, reduceCtorEq, false_and, or_false, false_or, exists_false, nth_0, nth_1, nth_2, nth_3, nth_4, nth_5, nth_6, nth_7, nth_8, nth_9, nth_10, nth_11, nth_12, nth_13, setL_0, setL_1, setL_2, setL_3, setL_4, setL_5, setL_6, setL_7, setL_8, setL_9, setL_10, setL_11, setL_12, setL_13]
      refine (fr_least_wp mp (big9 w16 (by decide))).mono ?_
      rintro _ _ ⟨rfl, rfl⟩
      rename_i s5
      obtain ⟨a, b, e, F, -, -⟩ := frI_ok nv mp nw
      obtain ⟨sa, sb⟩ := frI_small mp v16 w16
      have ee : W.tup [.int (((v : Int) - 4) / Int.gcd ((v : Int) - 4) (1 + w)), .int ((1 + w) / Int.gcd ((v : Int) - 4) (1 + w))] = .tup [.int a, .int b] := e
      simp only [W.tup.injEq, List.cons.injEq, W.int.injEq, and_true] at ee
      rw [ee.1] at sa
      rw [ee.2] at sb
      rw [e]
      have la := log_lo F.lo.1
      have lb := log_lo F.lo.2
      have ht2 : ∃ u : Nat, (1 : Int) + t = u ∧ u ≤ 1000 := ⟨t + 1, by omega, by omega⟩
      obtain ⟨u, hu, hu2⟩ := ht2
      rw [hu]
      refine sw_seq.mpr (sw_for.mpr ?_)
      try simp only [wp_ok, wp_then, wp_lift, wp_c, wp_var, wp_gvar, wp_op2, wp_op1, wp_bool, wp_tru, wp_and, wp_or, wp_notT, wp_if, wp_andV, wp_orV, wp_not, wp_nil, wp_cons, wp_tup, wp_lst, wp_call, wp_fn, wp_gnil, wp_gcons, wp_gtup, wp_gsub, wp_chain, wp_comp, wp_yes, wp_seqI, wp_rng1, wp_noPart, wp_part, wp_sl, wp_pnil, wp_pcons, ret_some, ret_mod, ret_fdiv, ret_mul, ret_pow, opSub_i, opAdd_i, opNeg_i, opLt_i, opLe_i, opGt_i, opGe_i, opMax_i, opMax_i3, opMin_i, opAbs_i, opInt_i, opInt_b, truW_bl, truW_int, Option.some.injEq, exists_eq_left', W.bl.injEq, W.int.injEq, W.tup.injEq, List.cons.injEq, and_true, true_and, List.length_cons, List.length_nil, Nat.reduceAdd, reduceCtorEq, false_and, or_false, false_or, exists_false, nth_0, nth_1, nth_2, nth_3, nth_4, nth_5, nth_6, nth_7, nth_8, nth_9, nth_10, nth_11, nth_12, nth_13, setL_0, setL_1, setL_2, setL_3, setL_4, setL_5, setL_6, setL_7, setL_8, setL_9, setL_10, setL_11, setL_12, setL_13]
      refine ⟨by omega, ?_⟩
      rw [Int.toNat_natCast]
      refine sw_forI u (fun j l s => (∃ x3, l = [some (.scr ns), some (.int i), some (.obj n), x3, some (.int u), some (.tup [.int (a ^ j), .int (b ^ j)]), some (.tup [.int a, .int b]), x7]) ∧ s = s5) ?_ ?_ lotN 0 _ _ ⟨⟨_, by rw [Int.pow_zero, Int.pow_zero]⟩, rfl⟩ (Nat.zero_le _) (by rw [Nat.zero_add]; exact Nat.lt_of_le_of_lt hu2 (by decide))
      · rintro l s6 ⟨⟨z3, rfl⟩, rfl⟩
        refine ⟨rng_end, ?_⟩
        refine sw_if.mpr ?_
        try simp only [wp_ok, wp_then, wp_lift, wp_c, wp_var, wp_gvar, wp_op2, wp_op1, wp_bool, wp_tru, wp_and, wp_or, wp_notT, wp_if, wp_andV, wp_orV, wp_not, wp_nil, wp_cons, wp_tup, wp_lst, wp_call, wp_fn, wp_gnil, wp_gcons, wp_gtup, wp_gsub, wp_chain, wp_comp, wp_yes, wp_seqI, wp_rng1, wp_noPart, wp_part, wp_sl, wp_pnil, wp_pcons, ret_some, ret_mod, ret_fdiv, ret_mul, ret_pow, opSub_i, opAdd_i, opNeg_i, opLt_i, opLe_i, opGt_i, opGe_i, opMax_i, opMax_i3, opMin_i, opAbs_i, opInt_i, opInt_b, truW_bl, truW_int, Option.some.injEq, exists_eq_left', W.bl.injEq, W.int.injEq, W.tup.injEq, List.cons.injEq, and_true, true_and, List.length_cons, List.length_nil, Nat.reduceAdd, reduceCtorEq, false_and, or_false, false_or, exists_false, nth_0, nth_1, nth_2, nth_3, nth_4, nth_5, nth_6, nth_7, nth_8, nth_9, nth_10, nth_11, nth_12, nth_13, setL_0, setL_1, setL_2, setL_3, setL_4, setL_5, setL_6, setL_7, setL_8, setL_9, setL_10, setL_11, setL_12, setL_13, ret_of ix0, ret_of ix1]
        refine (power_wp F hu2).mono ?_
        rintro _ s7 ⟨rfl, -⟩
        have bp : (b ^ u).natAbs < 2 ^ 9000 := by
          rw [Int.natAbs_pow]
          have h1 : b.natAbs ^ u ≤ (2 ^ 4) ^ u := Nat.pow_le_pow_left (Nat.le_of_lt sb) u
          rw [← Nat.pow_mul] at h1
          exact Nat.lt_of_le_of_lt h1 (Nat.pow_lt_pow_right (by decide) (by omega))
        refine (fr_least_wp (Int.pow_pos F.p) bp).mono ?_
        rintro _ _ ⟨rfl, rfl⟩
        rw [frI_one (Int.pow_gcd_pow_of_gcd_eq_one F.g), ret_of ne_pair]
        refine ⟨_, rfl, ?_⟩
        rw [if_neg Bool.false_ne_true]
        exact ⟨_, _, _, _, _, _, _, rfl⟩
      · rintro j l s6 hj ⟨⟨z3, rfl⟩, rfl⟩
        refine ⟨_, rng_next hj, ?_⟩
        simp only [wp_gvar, setL_3]
        refine sw_asg.mpr ?_
        try simp only [wp_ok, wp_then, wp_lift, wp_c, wp_var, wp_gvar, wp_op2, wp_op1, wp_bool, wp_tru, wp_and, wp_or, wp_notT, wp_if, wp_andV, wp_orV, wp_not, wp_nil, wp_cons, wp_tup, wp_lst, wp_call, wp_fn, wp_gnil, wp_gcons, wp_gtup, wp_gsub, wp_chain, wp_comp, wp_yes, wp_seqI, wp_rng1, wp_noPart, wp_part, wp_sl, wp_pnil, wp_pcons, ret_some, ret_mod, ret_fdiv, ret_mul, ret_pow, opSub_i, opAdd_i, opNeg_i, opLt_i, opLe_i, opGt_i, opGe_i, opMax_i, opMax_i3, opMin_i, opAbs_i, opInt_i, opInt_b, truW_bl, truW_int, Option.some.injEq, exists_eq_left', W.bl.injEq, W.int.injEq, W.tup.injEq, List.cons.injEq, and_true, true_and, List.length_cons, List.length_nil, Nat.reduceAdd, reduceCtorEq, false_and, or_false, false_or, exists_false, nth_0, nth_1, nth_2, nth_3, nth_4, nth_5, nth_6, nth_7, nth_8, nth_9, nth_10, nth_11, nth_12, nth_13, setL_0, setL_1, setL_2, setL_3, setL_4, setL_5, setL_6, setL_7, setL_8, setL_9, setL_10, setL_11, setL_12, setL_13, ret_of ix0, ret_of ix1]
        have l1 := log_pow F.lo.1 j
        have l2 := log_pow F.lo.2 j
        refine ⟨by omega, by omega, by decide, ?_⟩
        rw [← Int.pow_succ, ← Int.pow_succ]
        exact ⟨rfl, rfl⟩
    · rintro j l s2 hj ⟨⟨y3, rfl⟩, d2⟩
      refine ⟨_, rng_next hj, ?_⟩
      simp only [wp_gvar, setL_3]
      refine sw_if.mpr ?_
      try simp only [wp_ok, wp_then, wp_lift, wp_c, wp_var, wp_gvar, wp_op2, wp_op1, wp_bool, wp_tru, wp_and, wp_or, wp_notT, wp_if, wp_andV, wp_orV, wp_not, wp_nil, wp_cons, wp_tup, wp_lst, wp_call, wp_fn, wp_gnil, wp_gcons, wp_gtup, wp_gsub, wp_chain, wp_comp, wp_yes, wp_seqI, wp_rng1, wp_noPart, wp_part, wp_sl, wp_pnil, wp_pcons, ret_some, ret_mod, ret_fdiv, ret_mul, ret_pow, opSub_i, opAdd_i, opNeg_i, opLt_i, opLe_i, opGt_i, opGe_i, opMax_i, opMax_i3, opMin_i, opAbs_i, opInt_i, opInt_b, truW_bl, truW_int, Option.some.injEq, exists_eq_left', W.bl.injEq, W.int.injEq, W.tup.injEq, List.cons.injEq, and_true, true_and, List.length_cons, List.length_nil, Nat.reduceAdd, reduceCtorEq, false_and, or_false, false_or, exists_false, nth_0, nth_1, nth_2, nth_3, nth_4, nth_5, nth_6, nth_7, nth_8, nth_9, nth_10, nth_11, nth_12, nth_13, setL_0, setL_1, setL_2, setL_3, setL_4, setL_5, setL_6, setL_7, setL_8, setL_9, setL_10, setL_11, setL_12, setL_13]
      have d2 : Dz s2 n (25 * (3 - (j + 1)) + 3 + 25) := d2.mono (by omega)
      refine (is_right_wp d2).mono ?_
      rintro _ s3 ⟨rfl, d3, o3⟩
      try simp only [wp_ok, wp_then, wp_lift, wp_c, wp_var, wp_gvar, wp_op2, wp_op1, wp_bool, wp_tru, wp_and, wp_or, wp_notT, wp_if, wp_andV, wp_orV, wp_not, wp_nil, wp_cons, wp_tup, wp_lst, wp_call, wp_fn, wp_gnil, wp_gcons, wp_gtup, wp_gsub, wp_chain, wp_comp, wp_yes, wp_seqI, wp_rng1, wp_noPart, wp_part, wp_sl, wp_pnil, wp_pcons, ret_some, ret_mod, ret_fdiv, ret_mul, ret_pow, opSub_i, opAdd_i, opNeg_i, opLt_i, opLe_i, opGt_i, opGe_i, opMax_i, opMax_i3, opMin_i, opAbs_i, opInt_i, opInt_b, truW_bl, truW_int, Option.some.injEq, exists_eq_left', W.bl.injEq, W.int.injEq, W.tup.injEq, List.cons.injEq, and_true, true_and, List.length_cons, List.length_nil, Nat.reduceAdd, reduceCtorEq, false_and, or_false, false_or, exists_false, nth_0, nth_1, nth_2, nth_3, nth_4, nth_5, nth_6, nth_7, nth_8, nth_9, nth_10, nth_11, nth_12, nth_13, setL_0, setL_1, setL_2, setL_3, setL_4, setL_5, setL_6, setL_7, setL_8, setL_9, setL_10, setL_11, setL_12, setL_13, Bool.not_true, Bool.false_eq_true, if_false, sw_skip]
      exact ⟨⟨_, rfl⟩, d3⟩
end Lw
end

set_option autoImplicit false
set_option maxRecDepth 100000
namespace Lw
open PySem PySem.Spec PyProof.Rows L2 MM
set_option maxHeartbeats 4000000 in
theorem all_mk {K : PySem.W.Frag} {h : Heap} {P : Program} {w : World} {mg : Str → Option Value} {fa : Addr} (X : K.In h) (G : h.Ns mainGlobals mg) (hfa : mg "law" = some (.ref fa))
    {f0 : Addr} {od0 an0 : Option Addr} {sl0 : Array (Option Value)} {oc0 kV0 dc0 pm0 cd0 ct0 : Value}
    (qa0 : PySem.W.nsIn K mainGlobals "is_whole" = some (some (.ref f0))) (ql0 : K.lookup f0 = some ⟨oc0, od0, .func (PySem.W.fnOf "is_whole" "is_whole" (defArgs t_is_whole) (defBody t_is_whole) (defScope t_is_whole) .none kV0 dc0 pm0 an0 cd0 ct0), sl0⟩) (qc0 : PySem.W.codeIn K cd0 "is_whole" = true) (qk0 : PySem.W.keepIn K (.ref f0) = true)
    {f1 : Addr} {od1 an1 : Option Addr} {sl1 : Array (Option Value)} {oc1 kV1 dc1 pm1 cd1 ct1 : Value}
    (qa1 : PySem.W.nsIn K mainGlobals "is_from" = some (some (.ref f1))) (ql1 : K.lookup f1 = some ⟨oc1, od1, .func (PySem.W.fnOf "is_from" "is_from" (defArgs t_is_from) (defBody t_is_from) (defScope t_is_from) .none kV1 dc1 pm1 an1 cd1 ct1), sl1⟩) (qc1 : PySem.W.codeIn K cd1 "is_from" = true) (qk1 : PySem.W.keepIn K (.ref f1) = true)
    {f2 : Addr} {od2 an2 : Option Addr} {sl2 : Array (Option Value)} {oc2 kV2 dc2 pm2 cd2 ct2 : Value}
    (qa2 : PySem.W.nsIn K mainGlobals "divisor_of" = some (some (.ref f2))) (ql2 : K.lookup f2 = some ⟨oc2, od2, .func (PySem.W.fnOf "divisor_of" "divisor_of" (defArgs t_divisor_of) (defBody t_divisor_of) (defScope t_divisor_of) .none kV2 dc2 pm2 an2 cd2 ct2), sl2⟩) (qc2 : PySem.W.codeIn K cd2 "divisor_of" = true) (qk2 : PySem.W.keepIn K (.ref f2) = true)
    {f3 : Addr} {od3 an3 : Option Addr} {sl3 : Array (Option Value)} {oc3 kV3 dc3 pm3 cd3 ct3 : Value}
    (qa3 : PySem.W.nsIn K mainGlobals "is_fraction" = some (some (.ref f3))) (ql3 : K.lookup f3 = some ⟨oc3, od3, .func (PySem.W.fnOf "is_fraction" "is_fraction" (defArgs t_is_fraction) (defBody t_is_fraction) (defScope t_is_fraction) .none kV3 dc3 pm3 an3 cd3 ct3), sl3⟩) (qc3 : PySem.W.codeIn K cd3 "is_fraction" = true) (qk3 : PySem.W.keepIn K (.ref f3) = true)
    {f4 : Addr} {od4 an4 : Option Addr} {sl4 : Array (Option Value)} {oc4 kV4 dc4 pm4 cd4 ct4 : Value}
    (qa4 : PySem.W.nsIn K mainGlobals "fraction_in" = some (some (.ref f4))) (ql4 : K.lookup f4 = some ⟨oc4, od4, .func (PySem.W.fnOf "fraction_in" "fraction_in" (defArgs t_fraction_in) (defBody t_fraction_in) (defScope t_fraction_in) .none kV4 dc4 pm4 an4 cd4 ct4), sl4⟩) (qc4 : PySem.W.codeIn K cd4 "fraction_in" = true) (qk4 : PySem.W.keepIn K (.ref f4) = true)
    {f5 : Addr} {od5 an5 : Option Addr} {sl5 : Array (Option Value)} {oc5 kV5 dc5 pm5 cd5 ct5 : Value}
    (qa5 : PySem.W.nsIn K mainGlobals "power_in" = some (some (.ref f5))) (ql5 : K.lookup f5 = some ⟨oc5, od5, .func (PySem.W.fnOf "power_in" "power_in" (defArgs t_power_in) (defBody t_power_in) (defScope t_power_in) .none kV5 dc5 pm5 an5 cd5 ct5), sl5⟩) (qc5 : PySem.W.codeIn K cd5 "power_in" = true) (qk5 : PySem.W.keepIn K (.ref f5) = true)
    {f6 : Addr} {od6 an6 : Option Addr} {sl6 : Array (Option Value)} {oc6 kV6 dc6 pm6 cd6 ct6 : Value}
    (qa6 : PySem.W.nsIn K mainGlobals "rest_in" = some (some (.ref f6))) (ql6 : K.lookup f6 = some ⟨oc6, od6, .func (PySem.W.fnOf "rest_in" "rest_in" (defArgs t_rest_in) (defBody t_rest_in) (defScope t_rest_in) .none kV6 dc6 pm6 an6 cd6 ct6), sl6⟩) (qc6 : PySem.W.codeIn K cd6 "rest_in" = true) (qk6 : PySem.W.keepIn K (.ref f6) = true)
    {f7 : Addr} {od7 an7 : Option Addr} {sl7 : Array (Option Value)} {oc7 kV7 dc7 pm7 cd7 ct7 : Value}
    (qa7 : PySem.W.nsIn K mainGlobals "require_fraction" = some (some (.ref f7))) (ql7 : K.lookup f7 = some ⟨oc7, od7, .func (PySem.W.fnOf "require_fraction" "require_fraction" (defArgs t_require_fraction) (defBody t_require_fraction) (defScope t_require_fraction) .none kV7 dc7 pm7 an7 cd7 ct7), sl7⟩) (qc7 : PySem.W.codeIn K cd7 "require_fraction" = true) (qk7 : PySem.W.keepIn K (.ref f7) = true)
    {f8 : Addr} {od8 an8 : Option Addr} {sl8 : Array (Option Value)} {oc8 kV8 dc8 pm8 cd8 ct8 : Value}
    (qa8 : PySem.W.nsIn K mainGlobals "fraction" = some (some (.ref f8))) (ql8 : K.lookup f8 = some ⟨oc8, od8, .func (PySem.W.fnOf "fraction" "fraction" (defArgs t_fraction) (defBody t_fraction) (defScope t_fraction) .none kV8 dc8 pm8 an8 cd8 ct8), sl8⟩) (qc8 : PySem.W.codeIn K cd8 "fraction" = true) (qk8 : PySem.W.keepIn K (.ref f8) = true)
    {f9 : Addr} {od9 an9 : Option Addr} {sl9 : Array (Option Value)} {oc9 kV9 dc9 pm9 cd9 ct9 : Value}
    (qa9 : PySem.W.nsIn K mainGlobals "added" = some (some (.ref f9))) (ql9 : K.lookup f9 = some ⟨oc9, od9, .func (PySem.W.fnOf "added" "added" (defArgs t_added) (defBody t_added) (defScope t_added) .none kV9 dc9 pm9 an9 cd9 ct9), sl9⟩) (qc9 : PySem.W.codeIn K cd9 "added" = true) (qk9 : PySem.W.keepIn K (.ref f9) = true)
    {f10 : Addr} {od10 an10 : Option Addr} {sl10 : Array (Option Value)} {oc10 kV10 dc10 pm10 cd10 ct10 : Value}
    (qa10 : PySem.W.nsIn K mainGlobals "multiplied" = some (some (.ref f10))) (ql10 : K.lookup f10 = some ⟨oc10, od10, .func (PySem.W.fnOf "multiplied" "multiplied" (defArgs t_multiplied) (defBody t_multiplied) (defScope t_multiplied) .none kV10 dc10 pm10 an10 cd10 ct10), sl10⟩) (qc10 : PySem.W.codeIn K cd10 "multiplied" = true) (qk10 : PySem.W.keepIn K (.ref f10) = true)
    {f11 : Addr} {od11 an11 : Option Addr} {sl11 : Array (Option Value)} {oc11 kV11 dc11 pm11 cd11 ct11 : Value}
    (qa11 : PySem.W.nsIn K mainGlobals "power" = some (some (.ref f11))) (ql11 : K.lookup f11 = some ⟨oc11, od11, .func (PySem.W.fnOf "power" "power" (defArgs t_power) (defBody t_power) (defScope t_power) .none kV11 dc11 pm11 an11 cd11 ct11), sl11⟩) (qc11 : PySem.W.codeIn K cd11 "power" = true) (qk11 : PySem.W.keepIn K (.ref f11) = true)
    {f12 : Addr} {od12 an12 : Option Addr} {sl12 : Array (Option Value)} {oc12 kV12 dc12 pm12 cd12 ct12 : Value}
    (qa12 : PySem.W.nsIn K mainGlobals "rest" = some (some (.ref f12))) (ql12 : K.lookup f12 = some ⟨oc12, od12, .func (PySem.W.fnOf "rest" "rest" (defArgs t_rest) (defBody t_rest) (defScope t_rest) .none kV12 dc12 pm12 an12 cd12 ct12), sl12⟩) (qc12 : PySem.W.codeIn K cd12 "rest" = true) (qk12 : PySem.W.keepIn K (.ref f12) = true)
    {f13 : Addr} {od13 an13 : Option Addr} {sl13 : Array (Option Value)} {oc13 kV13 dc13 pm13 cd13 ct13 : Value}
    (qa13 : PySem.W.nsIn K mainGlobals "_law_dice" = some (some (.ref f13))) (ql13 : K.lookup f13 = some ⟨oc13, od13, .func (PySem.W.fnOf "_law_dice" "_law_dice" (defArgs t__law_dice) (defBody t__law_dice) (defScope t__law_dice) .none kV13 dc13 pm13 an13 cd13 ct13), sl13⟩) (qc13 : PySem.W.codeIn K cd13 "_law_dice" = true) (qk13 : PySem.W.keepIn K (.ref f13) = true)
    {f14 : Addr} {od14 an14 : Option Addr} {sl14 : Array (Option Value)} {oc14 kV14 dc14 pm14 cd14 ct14 : Value}
    (qa14 : PySem.W.nsIn K mainGlobals "_law_roll" = some (some (.ref f14))) (ql14 : K.lookup f14 = some ⟨oc14, od14, .func (PySem.W.fnOf "_law_roll" "_law_roll" (defArgs t__law_roll) (defBody t__law_roll) (defScope t__law_roll) .none kV14 dc14 pm14 an14 cd14 ct14), sl14⟩) (qc14 : PySem.W.codeIn K cd14 "_law_roll" = true) (qk14 : PySem.W.keepIn K (.ref f14) = true)
    {f15 : Addr} {od15 an15 : Option Addr} {sl15 : Array (Option Value)} {oc15 kV15 dc15 pm15 cd15 ct15 : Value}
    (qa15 : PySem.W.nsIn K mainGlobals "_law_pick" = some (some (.ref f15))) (ql15 : K.lookup f15 = some ⟨oc15, od15, .func (PySem.W.fnOf "_law_pick" "_law_pick" (defArgs t__law_pick) (defBody t__law_pick) (defScope t__law_pick) .none kV15 dc15 pm15 an15 cd15 ct15), sl15⟩) (qc15 : PySem.W.codeIn K cd15 "_law_pick" = true) (qk15 : PySem.W.keepIn K (.ref f15) = true)
    {f16 : Addr} {od16 an16 : Option Addr} {sl16 : Array (Option Value)} {oc16 kV16 dc16 pm16 cd16 ct16 : Value}
    (qa16 : PySem.W.nsIn K mainGlobals "_law_fr_gcd" = some (some (.ref f16))) (ql16 : K.lookup f16 = some ⟨oc16, od16, .func (PySem.W.fnOf "_law_fr_gcd" "_law_fr_gcd" (defArgs t__law_fr_gcd) (defBody t__law_fr_gcd) (defScope t__law_fr_gcd) .none kV16 dc16 pm16 an16 cd16 ct16), sl16⟩) (qc16 : PySem.W.codeIn K cd16 "_law_fr_gcd" = true) (qk16 : PySem.W.keepIn K (.ref f16) = true)
    {f17 : Addr} {od17 an17 : Option Addr} {sl17 : Array (Option Value)} {oc17 kV17 dc17 pm17 cd17 ct17 : Value}
    (qa17 : PySem.W.nsIn K mainGlobals "_law_fr_least" = some (some (.ref f17))) (ql17 : K.lookup f17 = some ⟨oc17, od17, .func (PySem.W.fnOf "_law_fr_least" "_law_fr_least" (defArgs t__law_fr_least) (defBody t__law_fr_least) (defScope t__law_fr_least) .none kV17 dc17 pm17 an17 cd17 ct17), sl17⟩) (qc17 : PySem.W.codeIn K cd17 "_law_fr_least" = true) (qk17 : PySem.W.keepIn K (.ref f17) = true)
    {f18 : Addr} {od18 an18 : Option Addr} {sl18 : Array (Option Value)} {oc18 kV18 dc18 pm18 cd18 ct18 : Value}
    (qa18 : PySem.W.nsIn K mainGlobals "_law_fr_number" = some (some (.ref f18))) (ql18 : K.lookup f18 = some ⟨oc18, od18, .func (PySem.W.fnOf "_law_fr_number" "_law_fr_number" (defArgs t__law_fr_number) (defBody t__law_fr_number) (defScope t__law_fr_number) .none kV18 dc18 pm18 an18 cd18 ct18), sl18⟩) (qc18 : PySem.W.codeIn K cd18 "_law_fr_number" = true) (qk18 : PySem.W.keepIn K (.ref f18) = true)
    {f19 : Addr} {od19 an19 : Option Addr} {sl19 : Array (Option Value)} {oc19 kV19 dc19 pm19 cd19 ct19 : Value}
    (qa19 : PySem.W.nsIn K mainGlobals "_law_fr_drawn" = some (some (.ref f19))) (ql19 : K.lookup f19 = some ⟨oc19, od19, .func (PySem.W.fnOf "_law_fr_drawn" "_law_fr_drawn" (defArgs t__law_fr_drawn) (defBody t__law_fr_drawn) (defScope t__law_fr_drawn) .none kV19 dc19 pm19 an19 cd19 ct19), sl19⟩) (qc19 : PySem.W.codeIn K cd19 "_law_fr_drawn" = true) (qk19 : PySem.W.keepIn K (.ref f19) = true)
    {f20 : Addr} {od20 an20 : Option Addr} {sl20 : Array (Option Value)} {oc20 kV20 dc20 pm20 cd20 ct20 : Value}
    (qa20 : PySem.W.nsIn K mainGlobals "_law_is_right" = some (some (.ref f20))) (ql20 : K.lookup f20 = some ⟨oc20, od20, .func (PySem.W.fnOf "_law_is_right" "_law_is_right" (defArgs t__law_is_right) (defBody t__law_is_right) (defScope t__law_is_right) .none kV20 dc20 pm20 an20 cd20 ct20), sl20⟩) (qc20 : PySem.W.codeIn K cd20 "_law_is_right" = true) (qk20 : PySem.W.keepIn K (.ref f20) = true)
    {f21 : Addr} {od21 an21 : Option Addr} {sl21 : Array (Option Value)} {oc21 kV21 dc21 pm21 cd21 ct21 : Value}
    (qa21 : PySem.W.nsIn K mainGlobals "law" = some (some (.ref f21))) (ql21 : K.lookup f21 = some ⟨oc21, od21, .func (PySem.W.fnOf "law" "law" (defArgs t_law) (defBody t_law) (defScope t_law) .none kV21 dc21 pm21 an21 cd21 ct21), sl21⟩) (qc21 : PySem.W.codeIn K cd21 "law" = true) (qk21 : PySem.W.keepIn K (.ref f21) = true)
    (qz0 : PySem.W.nsIn K mainGlobals "isinstance" = some none)
    (qz1 : PySem.W.nsIn K mainGlobals "bool" = some none)
    (qz2 : PySem.W.nsIn K mainGlobals "int" = some none)
    (qz3 : PySem.W.nsIn K mainGlobals "max" = some none)
    (qz4 : PySem.W.nsIn K mainGlobals "all" = some none)
    (qz5 : PySem.W.nsIn K mainGlobals "len" = some none)
    (qz6 : PySem.W.nsIn K mainGlobals "tuple" = some none)
    (qz7 : PySem.W.nsIn K mainGlobals "range" = some none)
    (qz8 : PySem.W.nsIn K mainGlobals "abs" = some none)
    (qz9 : PySem.W.nsIn K mainGlobals "repr" = some none)
    (qz10 : PySem.W.nsIn K mainGlobals "list" = some none)
    (qz11 : PySem.W.nsIn K mainGlobals "min" = some none)
    {y0 : Tok} (qg0 : PySem.W.nsIn K mainGlobals "PAIR" = some (some (.int 2 y0)))
    {y1 : Tok} (qg1 : PySem.W.nsIn K mainGlobals "GREAT" = some (some (.int 10000000000000000000000000000000000000000000000000000000000000000000000000000000000000000000000000000 y1)))
    {y2 : Tok} (qg2 : PySem.W.nsIn K mainGlobals "MOST_POWER" = some (some (.int 1000 y2))) :
    ∃ T : Tb, T.K = K ∧ T.fa 21 = fa ∧ ∀ base : Heap, K.In base → base.Ns mainGlobals mg → FK P w mg base T 6 "law" 21 1 m_law := by
  have e := hfa.symm.trans (PySem.W.mg_of X G qa21)
  cases e
  refine ⟨⟨K, fun i => ([f0, f1, f2, f3, f4, f5, f6, f7, f8, f9, f10, f11, f12, f13, f14, f15, f16, f17, f18, f19, f20, fa] : List Addr).getD i 0, fun _ => 0⟩, rfl, rfl, fun base _ _ => ?_⟩
  have b_isinstance := PySem.W.mg_none_of X G qz0
  have b_bool := PySem.W.mg_none_of X G qz1
  have b_int := PySem.W.mg_none_of X G qz2
  have b_max := PySem.W.mg_none_of X G qz3
  have b_all := PySem.W.mg_none_of X G qz4
  have b_len := PySem.W.mg_none_of X G qz5
  have b_tuple := PySem.W.mg_none_of X G qz6
  have b_range := PySem.W.mg_none_of X G qz7
  have b_abs := PySem.W.mg_none_of X G qz8
  have b_repr := PySem.W.mg_none_of X G qz9
  have b_list := PySem.W.mg_none_of X G qz10
  have b_min := PySem.W.mg_none_of X G qz11
  have g_PAIR : GC mg "PAIR" (.int 2) := GC.int (PySem.W.mg_of X G qg0)
  have g_GREAT : GC mg "GREAT" (.int 10000000000000000000000000000000000000000000000000000000000000000000000000000000000000000000000000000) := GC.int (PySem.W.mg_of X G qg1)
  have g_MOST_POWER : GC mg "MOST_POWER" (.int 1000) := GC.int (PySem.W.mg_of X G qg2)
  have r_is_whole := ok_is_whole (P := P) (w := w) (mg := mg) (base := base) (T := ⟨K, fun i => ([f0, f1, f2, f3, f4, f5, f6, f7, f8, f9, f10, f11, f12, f13, f14, f15, f16, f17, f18, f19, f20, fa] : List Addr).getD i 0, fun _ => 0⟩) ⟨⟨_, fun_mk (st := t_is_whole) ql0 qc0 qk0⟩, PySem.W.mg_of X G qa0⟩ b_isinstance b_bool b_int
  have r_is_from := ok_is_from (P := P) (w := w) (mg := mg) (base := base) (T := ⟨K, fun i => ([f0, f1, f2, f3, f4, f5, f6, f7, f8, f9, f10, f11, f12, f13, f14, f15, f16, f17, f18, f19, f20, fa] : List Addr).getD i 0, fun _ => 0⟩) ⟨⟨_, fun_mk (st := t_is_from) ql1 qc1 qk1⟩, PySem.W.mg_of X G qa1⟩ r_is_whole
  have r_divisor_of := ok_divisor_of (P := P) (w := w) (mg := mg) (base := base) (T := ⟨K, fun i => ([f0, f1, f2, f3, f4, f5, f6, f7, f8, f9, f10, f11, f12, f13, f14, f15, f16, f17, f18, f19, f20, fa] : List Addr).getD i 0, fun _ => 0⟩) ⟨⟨_, fun_mk (st := t_divisor_of) ql2 qc2 qk2⟩, PySem.W.mg_of X G qa2⟩ b_max
  have r_is_fraction := ok_is_fraction (P := P) (w := w) (mg := mg) (base := base) (T := ⟨K, fun i => ([f0, f1, f2, f3, f4, f5, f6, f7, f8, f9, f10, f11, f12, f13, f14, f15, f16, f17, f18, f19, f20, fa] : List Addr).getD i 0, fun _ => 0⟩) ⟨⟨_, fun_mk (st := t_is_fraction) ql3 qc3 qk3⟩, PySem.W.mg_of X G qa3⟩ b_all b_len b_isinstance b_tuple g_PAIR r_is_whole r_divisor_of
  have r_fraction_in := ok_fraction_in (P := P) (w := w) (mg := mg) (base := base) (T := ⟨K, fun i => ([f0, f1, f2, f3, f4, f5, f6, f7, f8, f9, f10, f11, f12, f13, f14, f15, f16, f17, f18, f19, f20, fa] : List Addr).getD i 0, fun _ => 0⟩) ⟨⟨_, fun_mk (st := t_fraction_in) ql4 qc4 qk4⟩, PySem.W.mg_of X G qa4⟩ r_divisor_of
  have r_power_in := ok_power_in (P := P) (w := w) (mg := mg) (base := base) (T := ⟨K, fun i => ([f0, f1, f2, f3, f4, f5, f6, f7, f8, f9, f10, f11, f12, f13, f14, f15, f16, f17, f18, f19, f20, fa] : List Addr).getD i 0, fun _ => 0⟩) ⟨⟨_, fun_mk (st := t_power_in) ql5 qc5 qk5⟩, PySem.W.mg_of X G qa5⟩ b_range
  have r_rest_in := ok_rest_in (P := P) (w := w) (mg := mg) (base := base) (T := ⟨K, fun i => ([f0, f1, f2, f3, f4, f5, f6, f7, f8, f9, f10, f11, f12, f13, f14, f15, f16, f17, f18, f19, f20, fa] : List Addr).getD i 0, fun _ => 0⟩) ⟨⟨_, fun_mk (st := t_rest_in) ql6 qc6 qk6⟩, PySem.W.mg_of X G qa6⟩ r_fraction_in
  have r_require_fraction := ok_require_fraction (P := P) (w := w) (mg := mg) (base := base) (T := ⟨K, fun i => ([f0, f1, f2, f3, f4, f5, f6, f7, f8, f9, f10, f11, f12, f13, f14, f15, f16, f17, f18, f19, f20, fa] : List Addr).getD i 0, fun _ => 0⟩) ⟨⟨_, fun_mk (st := t_require_fraction) ql7 qc7 qk7⟩, PySem.W.mg_of X G qa7⟩ b_all g_GREAT r_is_fraction
  have r_fraction := ok_fraction (P := P) (w := w) (mg := mg) (base := base) (T := ⟨K, fun i => ([f0, f1, f2, f3, f4, f5, f6, f7, f8, f9, f10, f11, f12, f13, f14, f15, f16, f17, f18, f19, f20, fa] : List Addr).getD i 0, fun _ => 0⟩) ⟨⟨_, fun_mk (st := t_fraction) ql8 qc8 qk8⟩, PySem.W.mg_of X G qa8⟩ g_GREAT r_is_from r_fraction_in
  have r_added := ok_added (P := P) (w := w) (mg := mg) (base := base) (T := ⟨K, fun i => ([f0, f1, f2, f3, f4, f5, f6, f7, f8, f9, f10, f11, f12, f13, f14, f15, f16, f17, f18, f19, f20, fa] : List Addr).getD i 0, fun _ => 0⟩) ⟨⟨_, fun_mk (st := t_added) ql9 qc9 qk9⟩, PySem.W.mg_of X G qa9⟩ r_require_fraction r_fraction_in
  have r_multiplied := ok_multiplied (P := P) (w := w) (mg := mg) (base := base) (T := ⟨K, fun i => ([f0, f1, f2, f3, f4, f5, f6, f7, f8, f9, f10, f11, f12, f13, f14, f15, f16, f17, f18, f19, f20, fa] : List Addr).getD i 0, fun _ => 0⟩) ⟨⟨_, fun_mk (st := t_multiplied) ql10 qc10 qk10⟩, PySem.W.mg_of X G qa10⟩ r_require_fraction r_fraction_in
  have r_power := ok_power (P := P) (w := w) (mg := mg) (base := base) (T := ⟨K, fun i => ([f0, f1, f2, f3, f4, f5, f6, f7, f8, f9, f10, f11, f12, f13, f14, f15, f16, f17, f18, f19, f20, fa] : List Addr).getD i 0, fun _ => 0⟩) ⟨⟨_, fun_mk (st := t_power) ql11 qc11 qk11⟩, PySem.W.mg_of X G qa11⟩ g_MOST_POWER r_require_fraction r_is_from r_power_in
  have r_rest := ok_rest (P := P) (w := w) (mg := mg) (base := base) (T := ⟨K, fun i => ([f0, f1, f2, f3, f4, f5, f6, f7, f8, f9, f10, f11, f12, f13, f14, f15, f16, f17, f18, f19, f20, fa] : List Addr).getD i 0, fun _ => 0⟩) ⟨⟨_, fun_mk (st := t_rest) ql12 qc12 qk12⟩, PySem.W.mg_of X G qa12⟩ r_require_fraction r_rest_in
  have r__law_dice := ok__law_dice (P := P) (w := w) (mg := mg) (base := base) (T := ⟨K, fun i => ([f0, f1, f2, f3, f4, f5, f6, f7, f8, f9, f10, f11, f12, f13, f14, f15, f16, f17, f18, f19, f20, fa] : List Addr).getD i 0, fun _ => 0⟩) ⟨⟨_, fun_mk (st := t__law_dice) ql13 qc13 qk13⟩, PySem.W.mg_of X G qa13⟩ b_len b_int b_abs b_max
  have r__law_roll := ok__law_roll (P := P) (w := w) (mg := mg) (base := base) (T := ⟨K, fun i => ([f0, f1, f2, f3, f4, f5, f6, f7, f8, f9, f10, f11, f12, f13, f14, f15, f16, f17, f18, f19, f20, fa] : List Addr).getD i 0, fun _ => 0⟩) ⟨⟨_, fun_mk (st := t__law_roll) ql14 qc14 qk14⟩, PySem.W.mg_of X G qa14⟩ b_int
  have r__law_pick := ok__law_pick (P := P) (w := w) (mg := mg) (base := base) (T := ⟨K, fun i => ([f0, f1, f2, f3, f4, f5, f6, f7, f8, f9, f10, f11, f12, f13, f14, f15, f16, f17, f18, f19, f20, fa] : List Addr).getD i 0, fun _ => 0⟩) ⟨⟨_, fun_mk (st := t__law_pick) ql15 qc15 qk15⟩, PySem.W.mg_of X G qa15⟩ b_len r__law_roll
  have r__law_fr_gcd := ok__law_fr_gcd (P := P) (w := w) (mg := mg) (base := base) (T := ⟨K, fun i => ([f0, f1, f2, f3, f4, f5, f6, f7, f8, f9, f10, f11, f12, f13, f14, f15, f16, f17, f18, f19, f20, fa] : List Addr).getD i 0, fun _ => 0⟩) ⟨⟨_, fun_mk (st := t__law_fr_gcd) ql16 qc16 qk16⟩, PySem.W.mg_of X G qa16⟩ b_max b_int
  have r__law_fr_least := ok__law_fr_least (P := P) (w := w) (mg := mg) (base := base) (T := ⟨K, fun i => ([f0, f1, f2, f3, f4, f5, f6, f7, f8, f9, f10, f11, f12, f13, f14, f15, f16, f17, f18, f19, f20, fa] : List Addr).getD i 0, fun _ => 0⟩) ⟨⟨_, fun_mk (st := t__law_fr_least) ql17 qc17 qk17⟩, PySem.W.mg_of X G qa17⟩ b_max r__law_fr_gcd
  have r__law_fr_number := ok__law_fr_number (P := P) (w := w) (mg := mg) (base := base) (T := ⟨K, fun i => ([f0, f1, f2, f3, f4, f5, f6, f7, f8, f9, f10, f11, f12, f13, f14, f15, f16, f17, f18, f19, f20, fa] : List Addr).getD i 0, fun _ => 0⟩) ⟨⟨_, fun_mk (st := t__law_fr_number) ql18 qc18 qk18⟩, PySem.W.mg_of X G qa18⟩ b_int r__law_roll r__law_pick
  have r__law_fr_drawn := ok__law_fr_drawn (P := P) (w := w) (mg := mg) (base := base) (T := ⟨K, fun i => ([f0, f1, f2, f3, f4, f5, f6, f7, f8, f9, f10, f11, f12, f13, f14, f15, f16, f17, f18, f19, f20, fa] : List Addr).getD i 0, fun _ => 0⟩) ⟨⟨_, fun_mk (st := t__law_fr_drawn) ql19 qc19 qk19⟩, PySem.W.mg_of X G qa19⟩ b_max r__law_fr_number r__law_fr_least
  have r__law_is_right := ok__law_is_right (P := P) (w := w) (mg := mg) (base := base) (T := ⟨K, fun i => ([f0, f1, f2, f3, f4, f5, f6, f7, f8, f9, f10, f11, f12, f13, f14, f15, f16, f17, f18, f19, f20, fa] : List Addr).getD i 0, fun _ => 0⟩) ⟨⟨_, fun_mk (st := t__law_is_right) ql20 qc20 qk20⟩, PySem.W.mg_of X G qa20⟩ b_max b_repr b_range b_list r__law_fr_number r__law_fr_drawn r__law_fr_least r_rest r_multiplied r_added r_fraction r__law_roll r_power r_is_fraction
  have r_law := ok_law (P := P) (w := w) (mg := mg) (base := base) (T := ⟨K, fun i => ([f0, f1, f2, f3, f4, f5, f6, f7, f8, f9, f10, f11, f12, f13, f14, f15, f16, f17, f18, f19, f20, fa] : List Addr).getD i 0, fun _ => 0⟩) ⟨⟨_, fun_mk (st := t_law) ql21 qc21 qk21⟩, PySem.W.mg_of X G qa21⟩ b_range b_max b_min b_len r__law_dice r__law_is_right r__law_roll r__law_fr_least r_power r_rest r_fraction r_added
  exact r_law
end Lw
open PySem PySem.W PyProof.Rows
set_option maxHeartbeats 0 in
theorem PySem.Challenge.cw_keytoall_k00_whole_fractions_holds : PySem.Challenge.rw_keytoall_k00_whole_fractions.Holds := by
  w_on; o_law; k_head; (case hw => w_witness2)
  k_fill
  refine MM.lawG (l := PySem.Challenge.rw_keytoall_k00_whole_fractions) (n := 63) (k := 6) (i := 21) (F := Lw.m_law) rfl (by decide) rfl ⟨rfl, by decide, by decide⟩ (fun w h Y => PySem.W.kIn_of Y) ?F Lw.says
  case F =>
    intro w mg fa h KX G hmg
    refine' Lw.all_mk KX G hmg ?qa0 ?ql0 ?qc0 ?qk0 ?qa1 ?ql1 ?qc1 ?qk1 ?qa2 ?ql2 ?qc2 ?qk2 ?qa3 ?ql3 ?qc3 ?qk3 ?qa4 ?ql4 ?qc4 ?qk4 ?qa5 ?ql5 ?qc5 ?qk5 ?qa6 ?ql6 ?qc6 ?qk6 ?qa7 ?ql7 ?qc7 ?qk7 ?qa8 ?ql8 ?qc8 ?qk8 ?qa9 ?ql9 ?qc9 ?qk9 ?qa10 ?ql10 ?qc10 ?qk10 ?qa11 ?ql11 ?qc11 ?qk11 ?qa12 ?ql12 ?qc12 ?qk12 ?qa13 ?ql13 ?qc13 ?qk13 ?qa14 ?ql14 ?qc14 ?qk14 ?qa15 ?ql15 ?qc15 ?qk15 ?qa16 ?ql16 ?qc16 ?qk16 ?qa17 ?ql17 ?qc17 ?qk17 ?qa18 ?ql18 ?qc18 ?qk18 ?qa19 ?ql19 ?qc19 ?qk19 ?qa20 ?ql20 ?qc20 ?qk20 ?qa21 ?ql21 ?qc21 ?qk21 ?qz0 ?qz1 ?qz2 ?qz3 ?qz4 ?qz5 ?qz6 ?qz7 ?qz8 ?qz9 ?qz10 ?qz11 ?qg0 ?qg1 ?qg2
    (case qa0 => k_is); (case ql0 => k_is); (case qc0 => k_is); (case qk0 => k_is); (case qa1 => k_is); (case ql1 => k_is); (case qc1 => k_is); (case qk1 => k_is); (case qa2 => k_is); (case ql2 => k_is); (case qc2 => k_is); (case qk2 => k_is); (case qa3 => k_is); (case ql3 => k_is); (case qc3 => k_is); (case qk3 => k_is); (case qa4 => k_is); (case ql4 => k_is); (case qc4 => k_is); (case qk4 => k_is); (case qa5 => k_is); (case ql5 => k_is); (case qc5 => k_is); (case qk5 => k_is); (case qa6 => k_is); (case ql6 => k_is); (case qc6 => k_is); (case qk6 => k_is); (case qa7 => k_is); (case ql7 => k_is); (case qc7 => k_is); (case qk7 => k_is); (case qa8 => k_is); (case ql8 => k_is); (case qc8 => k_is); (case qk8 => k_is); (case qa9 => k_is); (case ql9 => k_is); (case qc9 => k_is); (case qk9 => k_is); (case qa10 => k_is); (case ql10 => k_is); (case qc10 => k_is); (case qk10 => k_is); (case qa11 => k_is); (case ql11 => k_is); (case qc11 => k_is); (case qk11 => k_is); (case qa12 => k_is); (case ql12 => k_is); (case qc12 => k_is); (case qk12 => k_is); (case qa13 => k_is); (case ql13 => k_is); (case qc13 => k_is); (case qk13 => k_is); (case qa14 => k_is); (case ql14 => k_is); (case qc14 => k_is); (case qk14 => k_is); (case qa15 => k_is); (case ql15 => k_is); (case qc15 => k_is); (case qk15 => k_is); (case qa16 => k_is); (case ql16 => k_is); (case qc16 => k_is); (case qk16 => k_is); (case qa17 => k_is); (case ql17 => k_is); (case qc17 => k_is); (case qk17 => k_is); (case qa18 => k_is); (case ql18 => k_is); (case qc18 => k_is); (case qk18 => k_is); (case qa19 => k_is); (case ql19 => k_is); (case qc19 => k_is); (case qk19 => k_is); (case qa20 => k_is); (case ql20 => k_is); (case qc20 => k_is); (case qk20 => k_is); (case qa21 => k_is); (case ql21 => k_is); (case qc21 => k_is); (case qk21 => k_is); (case qz0 => k_is); (case qz1 => k_is); (case qz2 => k_is); (case qz3 => k_is); (case qz4 => k_is); (case qz5 => k_is); (case qz6 => k_is); (case qz7 => k_is); (case qz8 => k_is); (case qz9 => k_is); (case qz10 => k_is); (case qz11 => k_is); (case qg0 => k_is); (case qg1 => k_is); (case qg2 => k_is)
