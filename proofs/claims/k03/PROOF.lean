import PyProof.Rows.All
import Wide.All
import OpenK.AllK
import Wide.FinOn
import HandS.ForMost
import HandS.ForExc
import HandS.SortInts
import HandS.IsInst
import HandS.Evl
import HandS.Steps
import HandS.Style
import PySem.Challenge.RW_slimbody_k03_many_added
set_option Elab.async false
set_option linter.all false
set_option maxRecDepth 100000
set_option maxHeartbeats 4000000
namespace SB
open PySem PySem.Spec PyProof.Rows L2

/-! ## Results of mirrors -/
/-- the refusals -/
inductive Exn where
  | plain (c : Nat) | ring (l : List Int) | many (n : Int) | atRow (n : Int)
  deriving DecidableEq
inductive Res (ω α : Type) where
  | ok (a : α) | ex (e : Exn) (w : ω) | bad
namespace Res
variable {ω ω' α β : Type}
def bind (m : Res ω α) (f : α → Res ω β) : Res ω β := match m with
  | ok a => f a
  | ex e w => ex e w
  | bad => bad
/-- an own state at a refusal in place of the callee's -/
def lift (g : ω' → ω) (m : Res ω' α) : Res ω α := match m with
  | ok a => ok a
  | ex e w => ex e (g w)
  | bad => bad
/-- no refusal is looked for -/
def noex (m : Res ω' α) : Res ω α := match m with
  | ok a => ok a
  | _ => bad
def wp (m : Res ω α) (Q : α → Prop) (E : Exn → ω → Prop) : Prop := match m with
  | ok a => Q a
  | ex e w => E e w
  | bad => False
theorem wp_bind {m : Res ω α} {f : α → Res ω β} {Q : β → Prop} {E : Exn → ω → Prop} (h : (bind m f).wp Q E) : m.wp (fun a => (f a).wp Q E) E := by
  cases m <;> exact h
theorem wp_mono {m : Res ω α} {Q Q' : α → Prop} {E E' : Exn → ω → Prop} (h : m.wp Q E) (hQ : ∀ a, Q a → Q' a) (hE : ∀ e w, E e w → E' e w) : m.wp Q' E' := by
  cases m with
  | ok a => exact hQ a h
  | ex e w => exact hE e w h
  | bad => exact h
theorem wp_lift {m : Res ω' α} {g : ω' → ω} {Q : α → Prop} {E : Exn → ω → Prop} (h : (lift g m).wp Q E) : m.wp Q (fun e w => E e (g w)) := by
  cases m <;> exact h
theorem wp_noex {m : Res ω' α} {Q : α → Prop} {E : Exn → ω → Prop} (h : (noex m : Res ω α).wp Q E) : m.wp Q (fun _ _ => False) := by
  cases m <;> exact h
end Res
open Res

/-! ## Heaps in pieces -/
def Dj (A B : Hp) : Prop := ∀ a o u, A a = some o → B a = some u → False
theorem Dj.symm {A B : Hp} (h : Dj A B) : Dj B A := fun a o u e e' => h a u o e' e
def one (p : Addr) (o : HO) : Hp := fun b => if b = p then some o else none
theorem one_same {p : Addr} {o : HO} : one p o p = some o := by unfold one; rw [if_pos rfl]
theorem one_some {p b : Addr} {o u : HO} (h : one p o b = some u) : b = p ∧ u = o := by
  unfold one at h
  by_cases e : b = p
  · rw [if_pos e] at h
    exact ⟨e, (Option.some.inj h).symm⟩
  · rw [if_neg e] at h
    cases h
def join (A B : Hp) : Hp := fun b => match A b with
  | some o => some o
  | none => B b
def St (H : Hp) : List Hp → Prop
  | [] => True
  | m :: ms => Same m H ∧ (∀ n ∈ ms, Dj m n) ∧ St H ms
theorem upd_none_ne {H : Hp} {p b : Addr} {o u : HO} (hp : H p = none) (h : H b = some u) : upd H p o b = some u := by
  rw [upd_ne (ne_of_none h hp)]
  exact h
theorem same_upd {H : Hp} {p : Addr} {o : HO} (hp : H p = none) : Same H (upd H p o) := fun b u e => upd_none_ne hp e
theorem Same.none_of {A B : Hp} {p : Addr} (h : Same A B) (hp : B p = none) : A p = none := h.free hp
theorem same_join_l {A B : Hp} : Same A (join A B) := fun a o e => by
  unfold join
  rw [e]
theorem same_join_r {A B : Hp} (d : Dj A B) : Same B (join A B) := fun a o e => by
  unfold join
  cases h : A a with
  | none => exact e
  | some u => exact (d a u o h e).elim
theorem join_some {A B : Hp} {a : Addr} {o : HO} (h : join A B a = some o) : A a = some o ∨ B a = some o := by
  unfold join at h
  cases e : A a with
  | none =>
    rw [e] at h
    exact .inr h
  | some u =>
    rw [e] at h
    exact .inl h
theorem upd_some {H : Hp} {a b : Addr} {o u : HO} (h : upd H a o b = some u) : (b = a ∧ u = o) ∨ (b ≠ a ∧ H b = some u) := by
  by_cases e : b = a
  · subst e
    rw [upd_same] at h
    exact .inl ⟨rfl, (Option.some.inj h).symm⟩
  · rw [upd_ne e] at h
    exact .inr ⟨e, h⟩
section
variable {H H' Hi m n : Hp} {R l l' : List Hp} {p a : Addr} {o u : HO}
theorem St.head (S : St H (m :: R)) : Same m H := S.1
theorem St.tail (S : St H (m :: R)) : St H R := S.2.2
theorem St.mem : ∀ {R : List Hp}, St H R → ∀ n ∈ R, Same n H
  | [], _, _, h => by cases h
  | m :: R, S, n, h => by
    cases h with
    | head => exact S.1
    | tail _ h => exact St.mem S.2.2 n h
theorem St.perm (q : l.Perm l') : St H l → St H l' := by
  induction q with
  | nil => exact id
  | cons x q ih => exact fun S => ⟨S.1, fun n hn => S.2.1 n (q.mem_iff.mpr hn), ih S.2.2⟩
  | swap x y l =>
    exact fun S => ⟨S.2.2.1, fun n hn => by
      cases hn with
      | head => exact (S.2.1 x List.mem_cons_self).symm
      | tail _ h => exact S.2.2.2.1 n h, S.1, fun n hn => S.2.1 n (List.mem_cons_of_mem _ hn), S.2.2.2.2⟩
  | trans _ _ i1 i2 => exact fun S => i2 (i1 S)
theorem perm_pick : ∀ (R : List Hp) (k : Nat) (hk : k < R.length), R.Perm (R[k] :: R.eraseIdx k)
  | [], _, h => absurd h (Nat.not_lt_zero _)
  | _ :: _, 0, _ => List.Perm.refl _
  | m :: R, k + 1, h => ((perm_pick R k (Nat.lt_of_succ_lt_succ h)).cons m).trans (List.Perm.swap _ _ _)
/-- the k-th piece behind the first is brought to the second place -/
theorem St.pick (S : St H (m :: R)) (k : Nat) (hk : k < R.length) : St H (m :: R[k] :: R.eraseIdx k) :=
  S.perm (List.Perm.cons m (perm_pick R k hk))
/-- a wider heap -/
theorem St.grow (S : St H R) (g : Same H H') : St H' R := by
  induction R with
  | nil => trivial
  | cons m R ih => exact ⟨S.1.trans g, S.2.1, ih S.2.2⟩
theorem St.new (S : St H (m :: R)) (hp : H p = none) : St (upd H p o) (upd m p o :: R) := by
  refine ⟨fun b u e => ?_, fun n hn b u v e e' => ?_, S.2.2.grow (same_upd hp)⟩
  · rcases upd_some e with ⟨rfl, rfl⟩ | ⟨hb, e⟩
    · exact upd_same
    · exact upd_none_ne hp (S.1 _ _ e)
  · rcases upd_some e with ⟨rfl, rfl⟩ | ⟨hb, e⟩
    · have z := St.mem S.2.2 n hn _ _ e'
      rw [hp] at z
      cases z
    · exact S.2.1 n hn b u v e e'
theorem St.newM (S : St H (m :: R)) (hp : H p = none) : St (upd H p o) (m :: one p o :: R) := by
  refine ⟨S.1.trans (same_upd hp), fun n hn => ?_, ?_, ?_, S.2.2.grow (same_upd hp)⟩
  · cases hn with
    | head =>
      exact fun b u v e e' => by
        obtain ⟨rfl, _⟩ := one_some e'
        have z := S.1 _ _ e
        rw [hp] at z
        cases z
    | tail _ hn => exact S.2.1 n hn
  · intro b u e
    obtain ⟨rfl, rfl⟩ := one_some e
    exact upd_same
  · intro n hn b u v e e'
    obtain ⟨rfl, _⟩ := one_some e
    have z := St.mem S.2.2 n hn _ _ e'
    rw [hp] at z
    cases z
/-- a new object that a call has made: frozen | owned -/
theorem St.got (S : St H (m :: R)) (g : Same H H') (hp : H p = none) (h : H' p = some o) : St H' (upd m p o :: R) := by
  refine ⟨fun b u e => ?_, fun n hn b u v e e' => ?_, S.2.2.grow g⟩
  · rcases upd_some e with ⟨rfl, rfl⟩ | ⟨hb, e⟩
    · exact h
    · exact g _ _ (S.1 _ _ e)
  · rcases upd_some e with ⟨rfl, rfl⟩ | ⟨hb, e⟩
    · have z := St.mem S.2.2 n hn _ _ e'
      rw [hp] at z
      cases z
    · exact S.2.1 n hn b u v e e'
/-- an object of the second piece is changed -/
theorem St.wr (S : St H (m :: n :: R)) (h : n a = some o) : St (upd H a u) (m :: upd n a u :: R) := by
  have key : ∀ q, Dj n q → ∀ b w, q b = some w → b ≠ a := fun q d b w e z => by
    subst z
    exact d _ _ _ h e
  refine ⟨fun b w e => ?_, fun q hq => ?_, fun b w e => ?_, fun q hq b w v e e' => ?_, ?_⟩
  · rw [upd_ne (key m (S.2.1 n List.mem_cons_self).symm b w e)]
    exact S.1 _ _ e
  · cases hq with
    | head =>
      exact fun b w v e e' => by
        rcases upd_some e' with ⟨rfl, rfl⟩ | ⟨hb, e'⟩
        · exact S.2.1 n List.mem_cons_self _ _ _ e h
        · exact S.2.1 n List.mem_cons_self _ _ _ e e'
    | tail _ hq => exact S.2.1 q (List.mem_cons_of_mem _ hq)
  · rcases upd_some e with ⟨rfl, rfl⟩ | ⟨hb, e⟩
    · exact upd_same
    · rw [upd_ne hb]
      exact S.2.2.1 _ _ e
  · rcases upd_some e with ⟨rfl, rfl⟩ | ⟨hb, e⟩
    · exact S.2.2.2.1 q hq _ _ _ h e'
    · exact S.2.2.2.1 q hq _ _ _ e e'
  · have : ∀ R : List Hp, (∀ q ∈ R, Dj n q) → St H R → St (upd H a u) R := by
      intro R
      induction R with
      | nil => exact fun _ _ => trivial
      | cons q R ih =>
        exact fun d S => ⟨fun b w e => by
          rw [upd_ne (key q (d q List.mem_cons_self) b w e)]
          exact S.1 _ _ e, S.2.1, ih (fun q hq => d q (List.mem_cons_of_mem _ hq)) S.2.2⟩
    exact this R S.2.2.2.1 S.2.2.2.2
theorem upd_one {p : Addr} {o u : HO} : upd (one p o) p u = one p u := by
  funext b
  unfold upd one
  split <;> rfl
theorem St.wr1 (S : St H (m :: one a o :: R)) : St (upd H a u) (m :: one a u :: R) := by
  have z := S.wr (u := u) one_same
  rw [upd_one] at z
  exact z
/-- the second piece is frozen -/
theorem St.frz (S : St H (m :: n :: R)) : St H (join m n :: R) := by
  refine ⟨fun b w e => ?_, fun q hq b w v e e' => ?_, S.2.2.2.2⟩
  · rcases join_some e with e | e
    · exact S.1 _ _ e
    · exact S.2.2.1 _ _ e
  · rcases join_some e with e | e
    · exact S.2.1 q (List.mem_cons_of_mem _ hq) _ _ _ e e'
    · exact S.2.2.2.1 q hq _ _ _ e e'
theorem St.dj (S : St H (m :: n :: R)) : Dj m n := S.2.1 n List.mem_cons_self
theorem St.second (S : St H (m :: n :: R)) : Same n H := S.2.2.1
/-- a piece that was lent as frozen is taken back -/
def minus (A B : Hp) : Hp := fun b => match B b with
  | some _ => none
  | none => A b
theorem minus_some {A B : Hp} {a : Addr} {o : HO} (h : minus A B a = some o) : A a = some o ∧ B a = none := by
  unfold minus at h
  cases e : B a with
  | none =>
    rw [e] at h
    exact ⟨h, rfl⟩
  | some u =>
    rw [e] at h
    cases h
theorem minus_of {A B : Hp} {a : Addr} {o : HO} (h : A a = some o) (hb : B a = none) : minus A B a = some o := by
  unfold minus
  rw [hb]
  exact h
theorem St.back (S : St H (m :: R)) (g : Same n m) (d : ∀ q ∈ R, Dj n q) : St H (minus m n :: n :: R) := by
  refine ⟨fun b w e => S.1 _ _ (minus_some e).1, fun q hq => ?_, g.trans S.1, d, S.2.2⟩
  cases hq with
  | head =>
    exact fun b w v e e' => by
      rw [(minus_some e).2] at e'
      cases e'
  | tail _ hq => exact fun b w v e e' => S.2.1 q hq _ _ _ (minus_some e).1 e'
theorem St.back1 (S : St H (m :: R)) (g : Same n m) : St H (minus m n :: n :: R) := S.back g fun q hq a o u e e' => S.2.1 q hq a o u (g _ _ e) e'
theorem same_minus (S : St H (m :: n :: R)) (g : Same (join m n) Hi) : Same m (minus Hi n) := fun b w e => by
  refine minus_of (g _ _ (same_join_l _ _ e)) ?_
  cases h : n b with
  | none => rfl
  | some v => exact (S.dj _ _ _ e h).elim
end

/-! ## Data and how the heap bears it -/
def All2 {α : Type} (P : V → α → Prop) : List V → List α → Prop
  | [], [] => True
  | v :: vs, x :: xs => P v x ∧ All2 P vs xs
  | _, _ => False
section
variable {α : Type} {P P' : V → α → Prop}
theorem All2.mono (f : ∀ v x, P v x → P' v x) : ∀ {vs : List V} {xs : List α}, All2 P vs xs → All2 P' vs xs
  | [], [], h => h
  | _ :: _, _ :: _, h => ⟨f _ _ h.1, All2.mono f h.2⟩
  | [], _ :: _, h => h.elim
  | _ :: _, [], h => h.elim
theorem All2.len : ∀ {vs : List V} {xs : List α}, All2 P vs xs → vs.length = xs.length
  | [], [], _ => rfl
  | _ :: vs, _ :: xs, h => by
    show vs.length + 1 = xs.length + 1
    rw [All2.len h.2]
  | [], _ :: _, h => h.elim
  | _ :: _, [], h => h.elim
theorem All2.get : ∀ {vs : List V} {xs : List α} {i : Nat} {x : α}, All2 P vs xs → xs[i]? = some x → ∃ v, vs[i]? = some v ∧ P v x
  | [], [], _, _, _, e => by cases e
  | v :: _, y :: _, 0, x, h, e => by
    cases e
    exact ⟨v, rfl, h.1⟩
  | _ :: vs, _ :: xs, i + 1, x, h, e => All2.get (i := i) h.2 e
  | [], _ :: _, _, _, h, _ => h.elim
  | _ :: _, [], _, _, h, _ => h.elim
theorem All2.getV : ∀ {vs : List V} {xs : List α} {i : Nat} {v : V}, All2 P vs xs → vs[i]? = some v → ∃ x, xs[i]? = some x ∧ P v x
  | [], [], _, _, _, e => by cases e
  | v :: _, y :: _, 0, x, h, e => by
    cases e
    exact ⟨y, rfl, h.1⟩
  | _ :: vs, _ :: xs, i + 1, x, h, e => All2.getV (i := i) h.2 e
  | [], _ :: _, _, _, h, _ => h.elim
  | _ :: _, [], _, _, h, _ => h.elim
theorem All2.append : ∀ {vs ws : List V} {xs ys : List α}, All2 P vs xs → All2 P ws ys → All2 P (vs ++ ws) (xs ++ ys)
  | [], _, [], _, _, h => h
  | _ :: _, _, _ :: _, _, h, k => ⟨h.1, All2.append h.2 k⟩
  | [], _, _ :: _, _, h, _ => h.elim
  | _ :: _, _, [], _, h, _ => h.elim
theorem All2.set {v : V} {x : α} (hp : P v x) : ∀ {vs : List V} {xs : List α} (i : Nat), All2 P vs xs → All2 P (vs.set i v) (xs.set i x)
  | [], [], _, h => h
  | _ :: _, _ :: _, 0, h => ⟨hp, h.2⟩
  | _ :: _, _ :: _, i + 1, h => ⟨h.1, All2.set hp i h.2⟩
  | [], _ :: _, _, h => h.elim
  | _ :: _, [], _, h => h.elim
theorem All2.take : ∀ {vs : List V} {xs : List α} (n : Nat), All2 P vs xs → All2 P (vs.take n) (xs.take n)
  | _, _, 0, _ => trivial
  | [], [], _ + 1, h => h
  | _ :: _, _ :: _, n + 1, h => ⟨h.1, All2.take n h.2⟩
  | [], _ :: _, _ + 1, h => h.elim
  | _ :: _, [], _ + 1, h => h.elim
theorem All2.drop : ∀ {vs : List V} {xs : List α} (n : Nat), All2 P vs xs → All2 P (vs.drop n) (xs.drop n)
  | _, _, 0, h => h
  | [], [], _ + 1, h => h
  | _ :: _, _ :: _, n + 1, h => All2.drop n h.2
  | [], _ :: _, _ + 1, h => h.elim
  | _ :: _, [], _ + 1, h => h.elim
end
class Rep (α : Type) where
  is : Hp → V → α → Prop
  mono : ∀ {A B : Hp} {v : V} {x : α}, Same A B → is A v x → is B v x
abbrev Is {α : Type} [Rep α] (A : Hp) (v : V) (x : α) : Prop := Rep.is A v x
theorem up {α : Type} [Rep α] {A B : Hp} {v : V} {x : α} (h : Is A v x) (e : Same A B) : Is B v x := Rep.mono e h
instance : Rep Int := ⟨fun _ v x => v = .int x, fun _ h => h⟩
instance : Rep Bool := ⟨fun _ v x => v = .bl x, fun _ h => h⟩
instance : Rep Unit := ⟨fun _ v _ => v = .non, fun _ h => h⟩
instance : Rep Str := ⟨fun _ v x => v = .str x, fun _ h => h⟩
instance {α : Type} [Rep α] : Rep (Option α) := ⟨fun A v x => match x with
  | none => v = .non
  | some y => v ≠ .non ∧ Rep.is A v y, fun {A B v x} e h => match x, h with
  | none, h => h
  | some _, h => ⟨h.1, Rep.mono e h.2⟩⟩
instance {α β : Type} [Rep α] [Rep β] : Rep (α × β) := ⟨fun A v x => ∃ a u w, v = .ref a ∧ A a = some (.tup [u, w]) ∧ Rep.is A u x.1 ∧ Rep.is A w x.2,
  fun e ⟨a, u, w, h1, h2, h3, h4⟩ => ⟨a, u, w, h1, e _ _ h2, Rep.mono e h3, Rep.mono e h4⟩⟩
/-- the items of a list, and its size -/
def OL {α : Type} [Rep α] (A : Hp) (vs : List V) (xs : List α) : Prop := All2 (Rep.is A) vs xs ∧ xs.length ≤ sizeLine
theorem OL.up {α : Type} [Rep α] {A B : Hp} {vs : List V} {xs : List α} (h : OL A vs xs) (e : Same A B) : OL B vs xs := ⟨h.1.mono fun _ _ h => Rep.mono e h, h.2⟩
theorem OL.len {α : Type} [Rep α] {A : Hp} {vs : List V} {xs : List α} (h : OL A vs xs) : vs.length = xs.length := h.1.len
theorem OL.szV {α : Type} [Rep α] {A : Hp} {vs : List V} {xs : List α} (h : OL A vs xs) : vs.length ≤ sizeLine := by
  rw [h.len]
  exact h.2
instance {α : Type} [Rep α] : Rep (List α) := ⟨fun A v xs => ∃ a vs, v = .ref a ∧ A a = some (.lst vs) ∧ OL A vs xs,
  fun e ⟨a, vs, h1, h2, h3⟩ => ⟨a, vs, h1, e _ _ h2, h3.up e⟩⟩
theorem all2_int {A : Hp} : ∀ {vs : List V} {ns : List Int}, All2 (Rep.is A) vs ns → vs = ns.map V.int
  | [], [], _ => rfl
  | v :: vs, n :: ns, h => by
    have h1 : v = .int n := h.1
    rw [h1, all2_int h.2]
    rfl
  | [], _ :: _, h => h.elim
  | _ :: _, [], h => h.elim
theorem int_all2 {A : Hp} : ∀ (ns : List Int), All2 (Rep.is A) (ns.map V.int) ns
  | [] => trivial
  | _ :: ns => ⟨rfl, int_all2 ns⟩
theorem OL.int {A : Hp} {vs : List V} {ns : List Int} (h : OL A vs ns) : vs = ns.map V.int := all2_int h.1
theorem int_ol {A : Hp} {ns : List Int} (h : ns.length ≤ sizeLine) : OL A (ns.map V.int) ns := ⟨int_all2 ns, h⟩
/-- a list of ints does not hang on the heap -/
theorem OL.any {A B : Hp} {vs : List V} {ns : List Int} (h : OL A vs ns) : OL B vs ns := by
  rw [h.int]
  exact int_ol h.2
/-- a list that is read at v in H, its items borne by A -/
def LA {α : Type} [Rep α] (A H : Hp) (v : V) (xs : List α) : Prop := ∃ a vs, v = .ref a ∧ H a = some (.lst vs) ∧ OL A vs xs
section
variable {α β : Type} [Rep α] [Rep β] {A B H H' : Hp} {v : V} {xs : List α} {R : List Hp} {p : Addr}
theorem la_of (S : St H (A :: R)) (h : Is A v xs) : LA A H v xs := by
  obtain ⟨a, vs, e, h1, h2⟩ := h
  exact ⟨a, vs, e, S.1 _ _ h1, h2⟩
theorem LA.up (h : LA A H v xs) (e : Same A B) (g : Same H H') : LA B H' v xs := by
  obtain ⟨a, vs, e1, h1, h2⟩ := h
  exact ⟨a, vs, e1, g _ _ h1, h2.up e⟩
theorem is_new {vs : List V} (h : OL A vs xs) (hp : A p = none) : Is (upd A p (.lst vs)) (.ref p) xs :=
  ⟨p, vs, rfl, upd_same, h.up (same_upd hp)⟩
theorem is_tup {x : α} {y : β} {u w : V} (h1 : Is A u x) (h2 : Is A w y) (hp : A p = none) : Is (upd A p (.tup [u, w])) (.ref p) (x, y) :=
  ⟨p, u, w, rfl, upd_same, Rep.mono (same_upd hp) h1, Rep.mono (same_upd hp) h2⟩
end
end SB

namespace SB
open PySem PySem.Spec PyProof.Rows L2 Res

/-! ## mirrors' words -/
section
variable {ω α β σT γ : Type}
def rangeL (lo hi : Int) : List Int := (List.range (hi - lo).toNat).map fun (i : Nat) => lo + (i : Int)
@[irreducible] def ixR (xs : List α) (i : Int) : Res ω α := match atI xs i with
  | some x => .ok x
  | none => .bad
@[irreducible] def mulR (a b : Int) : Res ω Int := if (-(2 ^ 64) < a ∧ a < 2 ^ 64) ∨ (-(2 ^ 64) < b ∧ b < 2 ^ 64) then .ok (a * b) else .bad
@[irreducible] def modR (a b : Int) : Res ω Int := if 0 < b then .ok (a % b) else .bad
@[irreducible] def divR (a b : Int) : Res ω Int := if 0 < b ∧ b < 1073741824 then .ok (a / b) else .bad
@[irreducible] def catR (xs ys : List α) : Res ω (List α) := if xs.length + ys.length ≤ sizeLine then .ok (xs ++ ys) else .bad
@[irreducible] def appR (xs : List α) (x : α) : Res ω (List α) := if xs.length < sizeLine then .ok (xs ++ [x]) else .bad
/-- a range's ends, in bounds -/
@[irreducible] def rgR (lo hi : Int) : Res ω (List Int) := if -(2 ^ 62) ≤ lo ∧ lo < 2 ^ 62 ∧ -(2 ^ 62) ≤ hi ∧ hi < 2 ^ 62 then .ok (rangeL lo hi) else .bad
/-- a range that a list may be made of -/
@[irreducible] def rlR (n : Int) : Res ω (List Int) := if n ≤ 1000000 ∧ -1000000 ≤ n then .ok (rangeL 0 n) else .bad
def andR (c : Bool) (m : Res ω Bool) : Res ω Bool := if c = true then m else .ok false
def orR (c : Bool) (m : Res ω Bool) : Res ω Bool := if c = true then .ok true else m
@[irreducible] def getR (x : Option α) : Res ω α := match x with
  | some y => .ok y
  | none => .bad
/-- a loop's turn: goes on, or hands back -/
inductive Fl (β σT : Type) where
  | next (s : σT) | ret (y : β)
def forM (body : α → σT → Res ω (Fl β σT)) : List α → σT → Res ω (Fl β σT)
  | [], s => .ok (.next s)
  | x :: xs, s => bind (body x s) fun r => match r with
    | .next s' => forM body xs s'
    | .ret y => .ok (.ret y)
def compM (t : α → Res ω Bool) (e : α → Res ω β) : List α → Res ω (List β)
  | [] => .ok []
  | x :: xs => bind (t x) fun b => if b = true then bind (e x) fun y => bind (compM t e xs) fun ys => .ok (y :: ys) else compM t e xs
end
def insI (x : Int) : List Int → List Int
  | [] => [x]
  | y :: ys => if x ≤ y then x :: y :: ys else y :: insI x ys
def sortI : List Int → List Int
  | [] => []
  | x :: xs => insI x (sortI xs)
theorem insI_perm (x : Int) : ∀ ys : List Int, (insI x ys).Perm (x :: ys)
  | [] => List.Perm.refl _
  | y :: ys => by
    unfold insI
    split
    · exact List.Perm.refl _
    · exact ((insI_perm x ys).cons y).trans (List.Perm.swap x y ys)
theorem sortI_perm : ∀ xs : List Int, (sortI xs).Perm xs
  | [] => List.Perm.refl _
  | x :: xs => (insI_perm x (sortI xs)).trans ((sortI_perm xs).cons x)
theorem insI_sorted (x : Int) : ∀ ys : List Int, ys.Pairwise (· ≤ ·) → (insI x ys).Pairwise (· ≤ ·)
  | [], _ => List.pairwise_singleton _ _
  | y :: ys, h => by
    unfold insI
    cases h with
    | cons h1 h2 =>
      split
      · rename_i hxy
        exact .cons (fun z hz => by
          cases hz with
          | head => exact hxy
          | tail _ hz => exact Int.le_trans hxy (h1 z hz)) (.cons h1 h2)
      · rename_i hxy
        refine .cons (fun z hz => ?_) (insI_sorted x ys h2)
        have hz' := (insI_perm x ys).mem_iff.mp hz
        cases hz' with
        | head => omega
        | tail _ hz => exact h1 z hz
theorem sortI_sorted : ∀ xs : List Int, (sortI xs).Pairwise (· ≤ ·)
  | [] => .nil
  | x :: xs => insI_sorted x _ (sortI_sorted xs)
theorem sorted_eq : ∀ {xs ys : List Int}, xs.Perm ys → xs.Pairwise (· ≤ ·) → ys.Pairwise (· ≤ ·) → xs = ys
  | [], ys, p, _, _ => (List.Perm.nil_eq p)
  | x :: xs, [], p, _, _ => absurd p.length_eq (by simp)
  | x :: xs, y :: ys, p, .cons h1 h2, .cons k1 k2 => by
    have e : x = y := by
      have a : y ∈ x :: xs := p.mem_iff.mpr List.mem_cons_self
      have b : x ∈ y :: ys := p.mem_iff.mp List.mem_cons_self
      cases a with
      | head => rfl
      | tail _ a =>
        cases b with
        | head => rfl
        | tail _ b => exact Int.le_antisymm (h1 y a) (k1 x b)
    subst e
    rw [sorted_eq (List.Perm.cons_inv p) h2 k2]

/-! ## steps -/
section
variable {ω ω' α β γ σT : Type} [Rep α] [Rep β] {A B H H' : Hp} {v u : V} {xs ys : List α} {ns ms : List Int} {R : List Hp} {p : Addr} {K : PySem.W.Frag} {Q : VK}
  {Qr : γ → Prop} {Er : Exn → ω → Prop}
def NewL (Q : VK) (xs : List V) (H : Hp) : Prop := xs.length ≤ sizeLine ∧ ∀ p, H p = none → Q (.ref p) (upd H p (.lst xs))
def NewT (Q : VK) (xs : List V) (H : Hp) : Prop := xs.length ≤ sizeLine ∧ ∀ p, H p = none → Q (.ref p) (upd H p (.tup xs))
/-- a raw new list -/
def RawL (A H : Hp) (Q : VK) (xs : List α) : Prop := ∀ p vs, H p = none → OL A vs xs → Q (.ref p) (upd H p (.lst vs))
theorem fz (S : St H (A :: R)) (k : ∀ p A' H', Same A A' → St H' (A' :: R) → Is A' (.ref p) xs → Q (.ref p) H') : RawL A H Q xs := fun p vs hp h =>
  k p _ _ (same_upd (S.1.free hp)) (S.new hp) (is_new h (S.1.free hp))
theorem ow (S : St H (A :: R)) (k : ∀ p vs H', St H' (A :: one p (.lst vs) :: R) → OL A vs xs → Q (.ref p) H') : RawL A H Q xs := fun p vs hp h =>
  k p vs _ (S.newM hp) h
theorem c_len (h : LA A H v xs) (k : Q (.int xs.length) H) : Evl.rLenS K [v] H Q := by
  obtain ⟨a, vs, rfl, h1, h2⟩ := h
  refine ⟨a, vs, rfl, .inl (SqL.of h1), ?_⟩
  rw [h2.len]
  exact k
theorem ixN_at {n : Nat} {i : Int} {j : Nat} (h : ixN n i = some j) {α : Type} {l : List α} (hl : l.length = n) : atI l i = l[j]? := by
  unfold atI
  rw [hl, h]
  rfl
theorem at_all {P : V → α → Prop} {vs : List V} {i : Int} {x : α} (h : All2 P vs xs) (e : atI xs i = some x) : ∃ w, atI vs i = some w ∧ P w x := by
  unfold atI at e
  cases hj : ixN xs.length i with
  | none =>
    rw [hj] at e
    cases e
  | some j =>
    rw [hj] at e
    have e' : xs[j]? = some x := e
    obtain ⟨w, h1, h2⟩ := h.get e'
    refine ⟨w, ?_, h2⟩
    rw [ixN_at (by rw [← hj, ← h.len]) rfl]
    exact h1
theorem c_ix {i : Int} {f : α → Res ω γ} (h : LA A H v xs) (hm : (bind (ixR xs i) f).wp Qr Er) (k : ∀ x w, Is A w x → (f x).wp Qr Er → Q w H) : rIxL K v (.int i) H Q := by
  obtain ⟨a, vs, rfl, h1, h2⟩ := h
  unfold ixR at hm
  cases e : atI xs i with
  | none =>
    rw [e] at hm
    exact hm.elim
  | some x =>
    rw [e] at hm
    obtain ⟨w, h3, h4⟩ := at_all h2.1 e
    exact ⟨a, vs, i, w, rfl, rfl, SqL.of h1, h3, k x w h4 hm⟩
theorem c_ixI {i : Int} {f : Int → Res ω γ} (h : LA A H v ns) (hm : (bind (ixR ns i) f).wp Qr Er) (k : ∀ x : Int, (f x).wp Qr Er → Q (.int x) H) : rIxL K v (.int i) H Q :=
  c_ix h hm fun x w hw hm => by
    obtain rfl : w = .int x := hw
    exact k x hm
theorem inV_int (x : Int) : ∀ ns : List Int, inV (.int x) (ns.map V.int) = decide (x ∈ ns)
  | [] => by
    unfold inV
    simp
  | n :: ns => by
    have ih := inV_int x ns
    unfold inV at ih ⊢
    rw [List.map_cons, List.any_cons, ih]
    show (decide _ || _) = _
    by_cases e : x = n
    · subst e
      simp [eqV]
    · have : ¬ n = x := fun z => e z.symm
      simp [eqV, e, this]
theorem flat_ints (ns : List Int) : (ns.map V.int).all flatV = true := by
  rw [List.all_map]
  exact List.all_eq_true.mpr fun _ _ => rfl
theorem c_in {x : Int} (h : LA A H v ns) (k : Q (.bl (decide (x ∈ ns))) H) : rIn K false (.int x) v H Q := by
  obtain ⟨a, vs, rfl, h1, h2⟩ := h
  rw [h2.int] at h1
  refine ⟨a, _, rfl, .inl (SqL.of h1), rfl, flat_ints ns, ?_⟩
  rw [inV_int]
  exact k
theorem c_notin {x : Int} (h : LA A H v ns) (k : Q (.bl (!decide (x ∈ ns))) H) : rIn K true (.int x) v H Q := by
  obtain ⟨a, vs, rfl, h1, h2⟩ := h
  rw [h2.int] at h1
  refine ⟨a, _, rfl, .inl (SqL.of h1), rfl, flat_ints ns, ?_⟩
  rw [inV_int]
  exact k
theorem c_cat {f : List α → Res ω γ} (h : LA A H v xs) (h' : LA A H u ys) (hm : (bind (catR xs ys) f).wp Qr Er) (k : ∀ zs, (f zs).wp Qr Er → RawL A H Q zs) : rCat v u H Q := by
  obtain ⟨a, vs, rfl, h1, h2⟩ := h
  obtain ⟨b, ws, rfl, h3, h4⟩ := h'
  unfold catR at hm
  by_cases c : xs.length + ys.length ≤ sizeLine
  · rw [if_pos c] at hm
    exact ⟨a, b, vs, ws, rfl, rfl, h1, h3, by rw [h2.len, h4.len]; exact c, fun p hp => k _ hm p _ hp ⟨h2.1.append h4.1, by rw [List.length_append]; exact c⟩⟩
  · rw [if_neg c] at hm
    exact hm.elim
theorem c_sorted {f : List Int → Res ω γ} (h : LA A H v ns) (hm : (bind (.ok (sortI ns)) f).wp Qr Er) (k : ∀ zs, (f zs).wp Qr Er → RawL A H Q zs) : rSortedI K [v] H Q := by
  obtain ⟨a, vs, rfl, h1, h2⟩ := h
  rw [h2.int] at h1
  refine ⟨a, ns, rfl, SqL.of h1, fun ns' p q s hp => ?_⟩
  have e : ns' = sortI ns := sorted_eq (q.trans (sortI_perm ns).symm) s (sortI_sorted ns)
  rw [e]
  exact k _ hm p _ hp (int_ol (by rw [(sortI_perm ns).length_eq]; exact h2.2))
theorem c_list (h : LA A H v xs) (k : RawL A H Q xs) : Evl.rListS K [v] H Q := by
  obtain ⟨a, vs, rfl, h1, h2⟩ := h
  exact ⟨a, vs, rfl, .inl (SqL.of h1), fun l hl => k l vs hl h2⟩
theorem c_lst {vs : List V} (hz : vs.length ≤ 1000) (h : All2 (Rep.is A) vs xs) (k : RawL A H Q xs) : NewL Q vs H :=
  ⟨Nat.le_of_lt (small1000 hz), fun p hp => k p vs hp ⟨h, by rw [← h.len]; exact Nat.le_of_lt (small1000 hz)⟩⟩
theorem c_tup {x : α} {y : β} {w : V} (S : St H (A :: R)) (h1 : Is A u x) (h2 : Is A w y) (k : ∀ p A' H', Same A A' → St H' (A' :: R) → Is A' (.ref p) (x, y) → Q (.ref p) H') :
    NewT Q [u, w] H :=
  ⟨Nat.le_of_lt (small1000 (show 2 ≤ 1000 by decide)), fun p hp => k p _ _ (same_upd (S.1.free hp)) (S.new hp) (is_tup h1 h2 (S.1.free hp))⟩
theorem c_if {c : Bool} {m1 m2 : Res ω γ} {P1 P2 : Prop} (hm : (if c = true then m1 else m2).wp Qr Er) (h1 : c = true → m1.wp Qr Er → P1) (h2 : c = false → m2.wp Qr Er → P2) : if c = true then P1 else P2 := by
  cases c with
  | true => exact h1 rfl hm
  | false => exact h2 rfl hm
theorem c_eqI {x y : Int} (k : Q (.bl (decide (x = y))) H) : rEq (.int x) (.int y) H Q := by
  refine ⟨rfl, ?_⟩
  have e : decide ((V.int x) = .int y) = decide (x = y) := by
    by_cases z : x = y
    · subst z
      simp
    · have : ¬ V.int x = .int y := fun q => z (V.int.inj q)
      rw [decide_eq_false this, decide_eq_false z]
  rw [e]
  exact k
theorem c_neI {x y : Int} (k : Q (.bl (!decide (x = y))) H) : rNe (.int x) (.int y) H Q := by
  refine ⟨rfl, ?_⟩
  have e : decide ((V.int x) = .int y) = decide (x = y) := by
    by_cases z : x = y
    · subst z
      simp
    · have : ¬ V.int x = .int y := fun q => z (V.int.inj q)
      rw [decide_eq_false this, decide_eq_false z]
  rw [e]
  exact k
theorem c_eqB {x y : Bool} (k : Q (.bl (decide (x = y))) H) : rEq (.bl x) (.bl y) H Q := by
  refine ⟨rfl, ?_⟩
  have e : decide ((V.bl x) = .bl y) = decide (x = y) := by cases x <;> cases y <;> rfl
  rw [e]
  exact k
theorem c_isB {x y : Bool} (k : Q (.bl (decide (x = y))) H) : rIsB (.bl x) (.bl y) H Q := ⟨x, y, rfl, rfl, k⟩
theorem c_neB {x y : Bool} (k : Q (.bl (!decide (x = y))) H) : rNe (.bl x) (.bl y) H Q := by
  refine ⟨rfl, ?_⟩
  have e : decide ((V.bl x) = .bl y) = decide (x = y) := by cases x <;> cases y <;> rfl
  rw [e]
  exact k
theorem c_mul {a b : Int} {f : Int → Res ω γ} (hm : (bind (mulR a b) f).wp Qr Er) (k : (f (a * b)).wp Qr Er → Q (.int (a * b)) H) : rI CMul (fun i j => .int (i * j)) (.int a) (.int b) H Q := by
  unfold mulR at hm
  by_cases c : (-(2 ^ 64) < a ∧ a < 2 ^ 64) ∨ (-(2 ^ 64) < b ∧ b < 2 ^ 64)
  · rw [if_pos c] at hm
    exact ⟨a, b, rfl, rfl, c, k hm⟩
  · rw [if_neg c] at hm
    exact hm.elim
theorem c_mod {a b : Int} {f : Int → Res ω γ} (hm : (bind (modR a b) f).wp Qr Er) (k : (f (a % b)).wp Qr Er → Q (.int (a % b)) H) : rI (fun _ j => 0 < j) (fun i j => .int (i % j)) (.int a) (.int b) H Q := by
  unfold modR at hm
  by_cases c : 0 < b
  · rw [if_pos c] at hm
    exact ⟨a, b, rfl, rfl, c, k hm⟩
  · rw [if_neg c] at hm
    exact hm.elim
theorem c_div {a b : Int} {f : Int → Res ω γ} (hm : (bind (divR a b) f).wp Qr Er) (k : (f (a / b)).wp Qr Er → Q (.int (a / b)) H) : rI CDiv (fun i j => .int (i / j)) (.int a) (.int b) H Q := by
  unfold divR at hm
  by_cases c : 0 < b ∧ b < 1073741824
  · rw [if_pos c] at hm
    exact ⟨a, b, rfl, rfl, c, k hm⟩
  · rw [if_neg c] at hm
    exact hm.elim

/-! ### comprehensions -/
/-- a test, an element: what they come to, nothing but new things laid -/
def TstOk (tt : TT) (σ : L2.St) (A : Hp) (R : List Hp) (b : Bool) : Prop := ∀ A1 H1, Same A A1 → St H1 (A1 :: R) → ∀ Q : Bool → Hp → Prop, (∀ A2 H2, Same A1 A2 → St H2 (A2 :: R) → Q b H2) → tt σ H1 Q
def EltOk (te : TE) (σ : L2.St) (A : Hp) (R : List Hp) (y : β) : Prop := ∀ A1 H1, Same A A1 → St H1 (A1 :: R) → ∀ Q : VK, (∀ A2 H2 w, Same A1 A2 → St H2 (A2 :: R) → Is A2 w y → Q w H2) → te σ H1 Q
theorem yes_ok {σ : L2.St} : TstOk tYes σ A R true := fun A1 H1 _ S Q k => k A1 H1 (Same.refl _) S
theorem St.dropOwn {n : Hp} (S : St H (A :: n :: R)) : St H (A :: R) := ⟨S.1, fun q hq => S.2.1 q (List.mem_cons_of_mem _ hq), S.2.2.2.2⟩
/-- what stands while a list is filled: some of the items so far -/
def CwP (A : Hp) (R : List Hp) (f : α → Bool) (g : α → β) (xs : List α) (Dl : Addr) (i : Nat) (H' : Hp) : Prop :=
  ∃ A' vs, Same A A' ∧ St H' (A' :: one Dl (.lst vs) :: R) ∧ All2 (Rep.is A') vs (((xs.take i).filter f).map g)
theorem cw_turn {σ2 : L2.St} {tt : TT} {te : TE} {f : α → Bool} {g : α → β} {Dl : Addr} {i : Nat} {x : α} (hx : xs[i]? = some x) (hz : i < sizeLine) (p : CwP A R f g xs Dl i H')
    (ht : ∀ A1 n, Same A A1 → TstOk tt σ2 A1 (n :: R) (f x)) (he : ∀ A1 n, Same A A1 → f x = true → EltOk te σ2 A1 (n :: R) (g x)) :
    tt σ2 H' fun b H3 => if b = true then te σ2 H3 fun y H4 => ∃ acc, H4 Dl = some (.lst acc) ∧ acc.length < sizeLine ∧ CwP A R f g xs Dl (i + 1) (upd H4 Dl (.lst (acc ++ [y]))) else CwP A R f g xs Dl (i + 1) H3 := by
  obtain ⟨A', vs, eA, S, hv⟩ := p
  have et : xs.take (i + 1) = xs.take i ++ [x] := by rw [List.take_add_one, hx]; rfl
  refine ht A' (one Dl (.lst vs)) eA A' H' (Same.refl _) S _ fun A2 H2 e2 S2 => ?_
  cases hf : f x with
  | true =>
    show te σ2 H2 fun y H4 => ∃ acc, H4 Dl = some (.lst acc) ∧ acc.length < sizeLine ∧ CwP A R f g xs Dl (i + 1) (upd H4 Dl (.lst (acc ++ [y])))
    refine he A' (one Dl (.lst vs)) eA hf A2 H2 e2 S2 _ fun A3 H3 w e3 S3 hw => ⟨vs, S3.second _ _ one_same, ?_, A3, vs ++ [w], (eA.trans e2).trans e3, S3.wr1, ?_⟩
    · rw [hv.len, List.length_map]
      refine Nat.lt_of_le_of_lt (Nat.le_trans (List.length_filter_le _ _) ?_) hz
      rw [List.length_take]
      exact Nat.min_le_left _ _
    · rw [et, List.filter_append, List.map_append, List.filter_cons, if_pos hf]
      exact (hv.mono fun _ _ h => Rep.mono (e2.trans e3) h).append ⟨hw, trivial⟩
  | false =>
    show CwP A R f g xs Dl (i + 1) H2
    refine ⟨A2, vs, eA.trans e2, S2, ?_⟩
    rw [et, List.filter_append, List.map_append, List.filter_cons, if_neg (by rw [hf]; decide)]
    show All2 _ vs (_ ++ [])
    rw [List.append_nil]
    exact hv.mono fun _ _ h => Rep.mono e2 h
/-- over a frozen list: the new list is owned -/
theorem c_lcL {σ : L2.St} {tl : TE} {tt : TT} {te : TE} {j : Nat} {vs : List Nat} {fm : List β → Res ω γ} (f : α → Bool) (g : α → β) (S : St H (A :: R)) (htl : ∀ Q' : VK, Q' v H → tl σ H Q') (hx : Is A v xs) (hm : (bind (.ok ((xs.filter f).map g)) fm).wp Qr Er)
    (hw : ∀ x, wipe ((wipe σ vs).set j (some x)) vs = wipe σ vs)
    (ht : ∀ x w A1 n, x ∈ xs → Same A A1 → Is A1 w x → TstOk tt ((wipe σ vs).set j (some w)) A1 (n :: R) (f x)) (he : ∀ x w A1 n, x ∈ xs → Same A A1 → Is A1 w x → f x = true → EltOk te ((wipe σ vs).set j (some w)) A1 (n :: R) (g x))
    (k : ∀ p A' H' ws ys, (fm ys).wp Qr Er → Same A A' → St H' (A' :: one p (.lst ws) :: R) → OL A' ws ys → Q (.ref p) H') : tLc (iList K tl) (gName j) tt te vs σ H Q := by
  obtain ⟨a, us, rfl, h1, h2⟩ := hx
  refine htl _ ⟨a, rfl, ⟨us, SqL.of (S.1 _ _ h1)⟩, fun Dl hD => ?_⟩
  refine lc_list (xs := us) (CwP A R f g xs Dl) ⟨A, [], Same.refl _, S.newM hD, trivial⟩ (fun i H' _ p => ?_) (fun i w H' hi p => ?_) (fun H' p => ?_)
  · obtain ⟨A', ws, e, S', _⟩ := p
    exact SqL.of (S'.1 _ _ (e _ _ h1))
  · obtain ⟨x, hxi, hxw⟩ := h2.1.getV hi
    have hm : x ∈ xs := List.mem_of_getElem? hxi
    have hlt : i < xs.length := (List.getElem?_eq_some_iff.mp hxi).1
    exact ⟨hw w, cw_turn hxi (Nat.lt_of_lt_of_le hlt h2.2) p (fun A1 n e => ht x w A1 n hm e (Rep.mono e hxw)) (fun A1 n e hf => he x w A1 n hm e (Rep.mono e hxw) hf)⟩
  · obtain ⟨A', ws, e, S', h⟩ := p
    rw [h2.len, List.take_length] at h
    exact k Dl A' H' ws _ hm e S' ⟨h, by
      rw [List.length_map]
      exact Nat.le_trans (List.length_filter_le _ _) h2.2⟩
/-- over a range -/
theorem c_lcR {σ : L2.St} {ta : TA} {tt : TT} {te : TE} {j : Nat} {vs : List Nat} {n : Int} {fm : List β → Res ω γ} (f : Int → Bool) (g : Int → β) (S : St H (A :: R)) (hta : ∀ Q' : List V → Hp → Prop, Q' [.int n] H → ta σ H Q') (hm : (bind (bind (rlR n) fun l => .ok ((l.filter f).map g)) fm).wp Qr Er)
    (hw : ∀ x, wipe ((wipe σ vs).set j (some x)) vs = wipe σ vs)
    (ht : ∀ (x : Int) A1 m, x ∈ rangeL 0 n → Same A A1 → TstOk tt ((wipe σ vs).set j (some (.int x))) A1 (m :: R) (f x)) (he : ∀ (x : Int) A1 m, x ∈ rangeL 0 n → Same A A1 → f x = true → EltOk te ((wipe σ vs).set j (some (.int x))) A1 (m :: R) (g x))
    (k : ∀ p A' H' ws ys, (fm ys).wp Qr Er → Same A A' → St H' (A' :: one p (.lst ws) :: R) → OL A' ws ys → Q (.ref p) H') : tLc (iRng1 ta) (gName j) tt te vs σ H Q := by
  unfold rlR at hm
  by_cases hz : n ≤ 1000000 ∧ -1000000 ≤ n
  case neg =>
    rw [if_neg hz] at hm
    exact hm.elim
  rw [if_pos hz] at hm
  have hsz : (1000000 : Nat) < sizeLine := by decide
  have hlen : (rangeL 0 n).length = n.toNat := by unfold rangeL; rw [List.length_map, List.length_range]; omega
  refine hta _ ⟨n, rfl, by omega, by omega, fun Dl hD => ?_⟩
  refine lc_range (lo := 0) (n := n.toNat) (CwP A R f g (rangeL 0 n) Dl) ⟨A, [], Same.refl _, S.newM hD, trivial⟩ (fun i H' hi p => ?_) (fun H' p => ?_)
  · have hxi : (rangeL 0 n)[i]? = some (0 + (i : Int)) := by
      unfold rangeL
      rw [List.getElem?_map, List.getElem?_range (by omega)]
      rfl
    have hm := List.mem_of_getElem? hxi
    exact ⟨hw _, cw_turn hxi (Nat.lt_of_le_of_lt (by omega) hsz) p (fun A1 m e => ht _ A1 m hm e) (fun A1 m e hf => he _ A1 m hm e hf)⟩
  · obtain ⟨A', ws, e, S', h⟩ := p
    rw [← hlen, List.take_length] at h
    exact k Dl A' H' ws _ hm e S' ⟨h, by
      rw [List.length_map]
      exact Nat.le_trans (List.length_filter_le _ _) (by rw [hlen]; exact Nat.le_of_lt (Nat.lt_of_le_of_lt (by omega) hsz))⟩
theorem frz_is {A : Hp} {p : Addr} {ws : List V} (h : OL A ws xs) (S : St H (A :: one p (.lst ws) :: R)) : Is (join A (one p (.lst ws))) (.ref p) xs :=
  ⟨p, ws, rfl, same_join_r S.dj _ _ one_same, h.up same_join_l⟩

/-! ### loops -/
/-- for x in a frozen list -/
theorem c_forL {σ : L2.St} {tl : TE} {tu : TS} {j : Nat} {D : Ends} {s0 : σT} {body : α → σT → Res ω (Fl β' σT)} {f : Fl β' σT → Res ω γ} (Rel : Hp → L2.St → List Hp → σT → Prop)
    (S : St H (A :: R)) (htl : ∀ Q' : VK, Q' v H → tl σ H Q') (hx : Is A v xs) (h0 : Rel A σ R s0) (hm : (bind (forM body xs s0) f).wp Qr Er)
    (step : ∀ x w A' H' σ' R' s (C : σT → Prop) (N : L2.St → Hp → Prop), x ∈ xs → Same A A' → St H' (A' :: R') → Is A' w x → Rel A' σ' R' s →
      (∀ A'' H'' σ'' R'' s', Same A A'' → St H'' (A'' :: R'') → Rel A'' σ'' R'' s' → C s' → N σ'' H'') →
      (body x s).wp (fun r => match r with | .next s' => C s' | .ret y => (f (.ret y)).wp Qr Er) Er → tu { D with nx := N, ct := N, bk := D.nx } (σ'.set j (some w)) H')
    (done : ∀ A' H' σ' R' s, Same A A' → St H' (A' :: R') → Rel A' σ' R' s → (f (.next s)).wp Qr Er → D.nx σ' H') : tFor (iList K tl) (gName j) tu D σ H := by
  obtain ⟨a, us, rfl, h1, h2⟩ := hx
  refine htl _ ⟨a, rfl, ⟨us, SqL.of (S.1 _ _ h1)⟩, ?_⟩
  refine for_list (xs := us) (fun i σ' H' => ∃ A' R' s, Same A A' ∧ St H' (A' :: R') ∧ Rel A' σ' R' s ∧ (bind (forM body (xs.drop i) s) f).wp Qr Er) ⟨A, R, s0, Same.refl _, S, h0, hm⟩ (fun i σ' H' _ ⟨A', R', s, e, S', _⟩ => SqL.of (S'.1 _ _ (e _ _ h1))) (fun i w σ' H' hi ⟨A', R', s, e, S', hr, hw⟩ => ?_) (fun σ' H' ⟨A', R', s, e, S', hr, hw⟩ => ?_)
  · obtain ⟨x, hxi, hxw⟩ := h2.1.getV hi
    have ed : xs.drop i = x :: xs.drop (i + 1) := by
      obtain ⟨hlt, hg⟩ := List.getElem?_eq_some_iff.mp hxi
      rw [← hg]
      exact List.drop_eq_getElem_cons hlt
    rw [ed] at hw
    refine step x w A' H' σ' R' s (fun s' => (bind (forM body (xs.drop (i + 1)) s') f).wp Qr Er) _ (List.mem_of_getElem? hxi) e S' (Rep.mono e hxw) hr (fun A'' H'' σ'' R'' s' e' S'' hr' hc => ⟨A'', R'', s', e', S'', hr', hc⟩) ?_
    unfold forM at hw
    cases hb : body x s with
    | ok r =>
      rw [hb] at hw
      cases r with
      | next s' => exact hw
      | ret y => exact hw
    | ex e w =>
      rw [hb] at hw
      exact hw
    | bad =>
      rw [hb] at hw
      exact hw
  · rw [h2.len, List.drop_length] at hw
    exact done A' H' σ' R' s e S' hr hw
/-- for k in range(lo, hi) -/
theorem c_forR2 {σ : L2.St} {ta : TA} {tu : TS} {j : Nat} {D : Ends} {lo hi : Int} {s0 : σT} {body : Int → σT → Res ω (Fl β' σT)} {f : Fl β' σT → Res ω γ} (Rel : Hp → L2.St → List Hp → σT → Prop)
    (S : St H (A :: R)) (hta : ∀ Q' : List V → Hp → Prop, Q' [.int lo, .int hi] H → ta σ H Q') (h0 : Rel A σ R s0) (hm : (bind (bind (rgR lo hi) fun l => forM body l s0) f).wp Qr Er)
    (step : ∀ (x : Int) A' H' σ' R' s (C : σT → Prop) (N : L2.St → Hp → Prop), lo ≤ x → x < hi → Same A A' → St H' (A' :: R') → Rel A' σ' R' s →
      (∀ A'' H'' σ'' R'' s', Same A A'' → St H'' (A'' :: R'') → Rel A'' σ'' R'' s' → C s' → N σ'' H'') →
      (body x s).wp (fun r => match r with | .next s' => C s' | .ret y => (f (.ret y)).wp Qr Er) Er → tu { D with nx := N, ct := N, bk := D.nx } (σ'.set j (some (.int x))) H')
    (done : ∀ A' H' σ' R' s, Same A A' → St H' (A' :: R') → Rel A' σ' R' s → (f (.next s)).wp Qr Er → D.nx σ' H') : tFor (iRng2 ta) (gName j) tu D σ H := by
  unfold rgR at hm
  by_cases hb : -(2 ^ 62) ≤ lo ∧ lo < 2 ^ 62 ∧ -(2 ^ 62) ≤ hi ∧ hi < 2 ^ 62
  case neg =>
    rw [if_neg hb] at hm
    exact hm.elim
  rw [if_pos hb] at hm
  have hm : (bind (forM body (rangeL lo hi) s0) f).wp Qr Er := hm
  have hlen : (rangeL lo hi).length = (hi - lo).toNat := by unfold rangeL; rw [List.length_map, List.length_range]
  refine hta _ ⟨lo, hi, rfl, hb, ?_⟩
  refine for_range (lo := lo) (n := (hi - lo).toNat) (fun i σ' H' => ∃ A' R' s, Same A A' ∧ St H' (A' :: R') ∧ Rel A' σ' R' s ∧ (bind (forM body ((rangeL lo hi).drop i) s) f).wp Qr Er) ⟨A, R, s0, Same.refl _, S, h0, hm⟩ (fun i σ' H' hi' ⟨A', R', s, e, S', hr, hw⟩ => ?_) (fun σ' H' ⟨A', R', s, e, S', hr, hw⟩ => ?_)
  · have hxi : (rangeL lo hi)[i]? = some (lo + (i : Int)) := by
      unfold rangeL
      rw [List.getElem?_map, List.getElem?_range hi']
      rfl
    have ed : (rangeL lo hi).drop i = (lo + (i : Int)) :: (rangeL lo hi).drop (i + 1) := by
      obtain ⟨hlt, hg⟩ := List.getElem?_eq_some_iff.mp hxi
      rw [← hg]
      exact List.drop_eq_getElem_cons hlt
    rw [ed] at hw
    refine step (lo + (i : Int)) A' H' σ' R' s (fun s' => (bind (forM body ((rangeL lo hi).drop (i + 1)) s') f).wp Qr Er) _ (by omega) (by omega) e S' hr (fun A'' H'' σ'' R'' s' e' S'' hr' hc => ⟨A'', R'', s', e', S'', hr', hc⟩) ?_
    unfold forM at hw
    cases hb : body (lo + (i : Int)) s with
    | ok r =>
      rw [hb] at hw
      cases r with
      | next s' => exact hw
      | ret y => exact hw
    | ex e w =>
      rw [hb] at hw
      exact hw
    | bad =>
      rw [hb] at hw
      exact hw
  · rw [← hlen, List.drop_length] at hw
    exact done A' H' σ' R' s e S' hr hw
theorem c_forR1 {σ : L2.St} {ta : TA} {tu : TS} {j : Nat} {D : Ends} {hi : Int} {s0 : σT} {body : Int → σT → Res ω (Fl β' σT)} {f : Fl β' σT → Res ω γ} (Rel : Hp → L2.St → List Hp → σT → Prop)
    (S : St H (A :: R)) (hta : ∀ Q' : List V → Hp → Prop, Q' [.int hi] H → ta σ H Q') (h0 : Rel A σ R s0) (hm : (bind (bind (rgR 0 hi) fun l => forM body l s0) f).wp Qr Er)
    (step : ∀ (x : Int) A' H' σ' R' s (C : σT → Prop) (N : L2.St → Hp → Prop), 0 ≤ x → x < hi → Same A A' → St H' (A' :: R') → Rel A' σ' R' s →
      (∀ A'' H'' σ'' R'' s', Same A A'' → St H'' (A'' :: R'') → Rel A'' σ'' R'' s' → C s' → N σ'' H'') →
      (body x s).wp (fun r => match r with | .next s' => C s' | .ret y => (f (.ret y)).wp Qr Er) Er → tu { D with nx := N, ct := N, bk := D.nx } (σ'.set j (some (.int x))) H')
    (done : ∀ A' H' σ' R' s, Same A A' → St H' (A' :: R') → Rel A' σ' R' s → (f (.next s)).wp Qr Er → D.nx σ' H') : tFor (iRng1 ta) (gName j) tu D σ H := by
  have t := c_forR2 (σ := σ) (ta := fun _ H Q' => Q' [.int 0, .int hi] H) (tu := tu) (j := j) (D := D) Rel S (fun Q' q => q) h0 hm step done
  obtain ⟨i', j', e, hb, W⟩ := t
  cases e
  refine hta _ ⟨hi, rfl, hb.2.2.1, hb.2.2.2, ?_⟩
  have e0 : (hi - 0).toNat = hi.toNat := by omega
  rw [e0] at W
  exact W
end
end SB
namespace SB
open PySem PySem.Spec PyProof.Rows L2 Res
/-! ## statements, one by one (all by unfolding) -/
section
variable {te tv : TE} {tz t u : TS} {c : TT} {D : Ends} {σ : L2.St} {H : Hp} {i : Nat} {wi : TI} {g : TG}
theorem q_asg (h : te σ H fun v H' => tz D (σ.set i (some v)) H') : tSeq (tAsg te (gName i)) tz D σ H := h
theorem s_asg (h : te σ H fun v H' => D.nx (σ.set i (some v)) H') : tAsg te (gName i) D σ H := h
theorem q_drop (h : te σ H fun _ H' => tz D σ H') : tSeq (tDrop te) tz D σ H := h
theorem s_drop (h : te σ H fun _ H' => D.nx σ H') : tDrop te D σ H := h
theorem s_ret (h : te σ H D.rt) : tRet te D σ H := h
theorem s_next (h : D.nx σ H) : tNext D σ H := h
theorem q_next (h : tz D σ H) : tSeq tNext tz D σ H := h
theorem q_if (h : c σ H fun b H1 => if b = true then t { D with nx := tz D } σ H1 else u { D with nx := tz D } σ H1) : tSeq (tIfS c t u) tz D σ H := h
theorem q_when (h : c σ H fun b H1 => if b = true then t { D with nx := tz D } σ H1 else tz D σ H1) : tSeq (tIfS c t tNext) tz D σ H := h
theorem s_if (h : c σ H fun b H1 => if b = true then t D σ H1 else u D σ H1) : tIfS c t u D σ H := h
theorem s_when (h : c σ H fun b H1 => if b = true then t D σ H1 else D.nx σ H1) : tIfS c t tNext D σ H := h
theorem q_for (h : tFor wi g t { D with nx := tz D } σ H) : tSeq (tFor wi g t) tz D σ H := h
theorem q_seq (h : t { D with nx := tz D } σ H) : tSeq t tz D σ H := h
theorem c_not {b : Bool} {Q : Bool → Hp → Prop} (h : c σ H fun b H1 => Q (!b) H1) : tNot c σ H Q := h
theorem c_and {d : TT} {Q : Bool → Hp → Prop} (h : c σ H fun b H1 => if b = true then d σ H1 Q else Q false H1) : tAnd c d σ H Q := h
theorem c_or {d : TT} {Q : Bool → Hp → Prop} (h : c σ H fun b H1 => if b = true then Q true H1 else d σ H1 Q) : tOr c d σ H Q := h
end
section
variable {ω γ β' σT : Type} {A H : Hp} {R : List Hp} {Qr : γ → Prop} {Er : Exn → ω → Prop}
/-- a test whose ways meet -/
theorem q_test {c : TT} {P : Bool → Hp → Prop} {σ : L2.St} {m : Res ω Bool} {f : Bool → Res ω γ} (hm : (bind m f).wp Qr Er)
    (h1 : ∀ Qb : Bool → Hp → Prop, (∀ b A' H', Same A A' → St H' (A' :: R) → (f b).wp Qr Er → Qb b H') → m.wp (fun b => (f b).wp Qr Er) Er → c σ H Qb)
    (h2 : ∀ b A' H', Same A A' → St H' (A' :: R) → (f b).wp Qr Er → P b H') : c σ H P := h1 P h2 (wp_bind hm)
/-- two statements with a word between them -/
theorem q_cut {t u : TS} {D : Ends} {σ : L2.St} {m : Res ω (Fl β' σT)} {f : Fl β' σT → Res ω γ} (Rel : Hp → L2.St → List Hp → σT → Prop) (hm : (bind m f).wp Qr Er)
    (h1 : ∀ (C : σT → Prop) (N : L2.St → Hp → Prop), (∀ A' H' σ' R' s, Same A A' → St H' (A' :: R') → Rel A' σ' R' s → C s → N σ' H') →
      m.wp (fun r => match r with | .next s => C s | .ret y => (f (.ret y)).wp Qr Er) Er → t { D with nx := N } σ H)
    (h2 : ∀ A' H' σ' R' s, Same A A' → St H' (A' :: R') → Rel A' σ' R' s → (f (.next s)).wp Qr Er → u D σ' H') : Evl.tCut t u D σ H := by
  refine ⟨fun σ' H' => ∃ A' R' s, Same A A' ∧ St H' (A' :: R') ∧ Rel A' σ' R' s ∧ (f (.next s)).wp Qr Er, ?_, fun σ' H' ⟨A', R', s, e, S', hr, hw⟩ => h2 A' H' σ' R' s e S' hr hw⟩
  refine h1 (fun s => (f (.next s)).wp Qr Er) _ (fun A' H' σ' R' s e S' hr hc => ⟨A', R', s, e, S', hr, hc⟩) ?_
  refine wp_mono (wp_bind hm) (fun r h => ?_) (fun _ _ h => h)
  cases r with
  | next s => exact h
  | ret y => exact h
theorem c_andR {c : Bool} {m : Res ω Bool} {Q : Bool → Prop} {P1 P2 : Prop} (hm : (andR c m).wp Q Er) (h1 : c = true → m.wp Q Er → P1) (h2 : c = false → Q false → P2) : if c = true then P1 else P2 := by
  cases c with
  | true => exact h1 rfl hm
  | false => exact h2 rfl hm
theorem c_orR {c : Bool} {m : Res ω Bool} {Q : Bool → Prop} {P1 P2 : Prop} (hm : (orR c m).wp Q Er) (h1 : c = true → Q true → P1) (h2 : c = false → m.wp Q Er → P2) : if c = true then P1 else P2 := by
  cases c with
  | true => exact h1 rfl hm
  | false => exact h2 rfl hm
end
/-! ## kinds of values -/
section
variable {K : PySem.W.Frag} {H A : Hp} {Q : VK}
theorem c_isi {x : V} {t : String} {b : Bool} {T : Value} (hx : TyX K H x T) (hk : PySem.W.kitOne K T (.type t) = some b) (k : Q (.bl b) H) : rIsi K [x, .ty t] H Q :=
  ⟨x, .ty t, T, .type t, b, rfl, .ty t, hx, hk, k⟩
theorem isi_int {x : Int} (k : Q (.bl true) H) : rIsi K [.int x, .ty "int"] H Q := c_isi (.base (.int x)) (kit_ty (by decide +kernel)) k
theorem isi_int_bool {x : Int} (k : Q (.bl false) H) : rIsi K [.int x, .ty "bool"] H Q := c_isi (.base (.int x)) (kit_ty (by decide +kernel)) k
theorem isi_bool {x : Bool} (k : Q (.bl true) H) : rIsi K [.bl x, .ty "bool"] H Q := c_isi (.base (.bl x)) (kit_ty (by decide +kernel)) k
theorem isi_bool_int {x : Bool} (k : Q (.bl true) H) : rIsi K [.bl x, .ty "int"] H Q := c_isi (.base (.bl x)) (kit_ty (by decide +kernel)) k
theorem isi_list {α : Type} [Rep α] {xs : List α} {v : V} (h : LA A H v xs) (k : Q (.bl true) H) : rIsi K [v, .ty "list"] H Q := by
  obtain ⟨a, vs, rfl, h1, h2⟩ := h
  exact c_isi (.base (.lst h1)) (kit_ty (by decide +kernel)) k
end
/-! ## equality of data -/
class RepD (α : Type) extends Rep α where
  D : α → PyData
  dp : ∀ {K : PySem.W.Frag} {A H : Hp} {v : V} {x : α}, Same A H → Rep.is A v x → Dp K H v (D x)
  deep : Nat
  shp : ∀ x, (D x).canLay0 = true ∧ (D x).depth ≤ deep
  eqv : ∀ x y, PyData.eqv (D x) (D y) = true ↔ x = y
section
variable {K : PySem.W.Frag} {A B H : Hp} {Q : VK} {α : Type} [RepD α] {x y : α} {v u : V}
theorem shaped_of (h : RepD.deep (α := α) ≤ 64) (x : α) : SeqAt.shaped (RepD.D x) = true := by
  unfold SeqAt.shaped
  obtain ⟨h1, h2⟩ := RepD.shp x
  rw [h1, decide_eq_true (Nat.le_trans h2 h)]
  rfl
theorem c_eqD [DecidableEq α] (hx : Dp K H v (RepD.D x)) (hy : Dp K H u (RepD.D y)) (hd : RepD.deep (α := α) ≤ 64) (k : Q (.bl (decide (x = y))) H) : rEqD K v u H Q := by
  refine ⟨_, _, hx, hy, shaped_of hd x, shaped_of hd y, ?_⟩
  have e : PyData.eqv (RepD.D x) (RepD.D y) = decide (x = y) := by
    by_cases z : x = y
    · rw [(RepD.eqv x y).mpr z, decide_eq_true z]
    · rw [decide_eq_false z]
      cases q : PyData.eqv (RepD.D x) (RepD.D y) with
      | true => exact absurd ((RepD.eqv x y).mp q) z
      | false => rfl
  rw [e]
  exact k
theorem c_neD [DecidableEq α] (hx : Dp K H v (RepD.D x)) (hy : Dp K H u (RepD.D y)) (hd : RepD.deep (α := α) ≤ 64) (k : Q (.bl (!decide (x = y))) H) : rNeD K v u H Q := by
  refine ⟨_, _, hx, hy, shaped_of hd x, shaped_of hd y, ?_⟩
  have e : PyData.eqv (RepD.D x) (RepD.D y) = decide (x = y) := by
    by_cases z : x = y
    · rw [(RepD.eqv x y).mpr z, decide_eq_true z]
    · rw [decide_eq_false z]
      cases q : PyData.eqv (RepD.D x) (RepD.D y) with
      | true => exact absurd ((RepD.eqv x y).mp q) z
      | false => rfl
  rw [e]
  exact k
end
end SB
namespace SB
open PySem PySem.Spec PyProof.Rows L2 Res
class NN (α : Type) [RepD α] : Prop where
  nn : ∀ x : α, RepD.D x ≠ .none
theorem dpAll_of {α : Type} [RepD α] {K : PySem.W.Frag} {A H : Hp} (e : Same A H) : ∀ {vs : List V} {xs : List α}, All2 (Rep.is A) vs xs → DpAll K H vs (xs.map RepD.D)
  | [], [], _ => .nil
  | _ :: _, _ :: _, h => .cons (RepD.dp e h.1) (dpAll_of e h.2)
  | [], _ :: _, h => h.elim
  | _ :: _, [], h => h.elim
theorem lay_all {α : Type} [RepD α] : ∀ xs : List α, PyData.canLayAll0 (xs.map RepD.D) = true ∧ PyData.depthAll (xs.map RepD.D) ≤ RepD.deep (α := α)
  | [] => ⟨rfl, Nat.zero_le _⟩
  | x :: xs => by
    obtain ⟨h1, h2⟩ := lay_all xs
    obtain ⟨k1, k2⟩ := RepD.shp x
    constructor
    · show (PyData.canLay0 (RepD.D x) && PyData.canLayAll0 (xs.map RepD.D)) = true
      rw [k1, h1]
      rfl
    · show max (PyData.depth (RepD.D x)) (PyData.depthAll (xs.map RepD.D)) ≤ _
      exact Nat.max_le.mpr ⟨k2, h2⟩
theorem eqv_all {α : Type} [RepD α] : ∀ xs ys : List α, PyData.eqvAll (xs.map RepD.D) (ys.map RepD.D) = true ↔ xs = ys
  | [], [] => by simp [PyData.eqvAll]
  | [], _ :: _ => by simp [PyData.eqvAll]
  | _ :: _, [] => by simp [PyData.eqvAll]
  | x :: xs, y :: ys => by
    show (PyData.eqv (RepD.D x) (RepD.D y) && PyData.eqvAll (xs.map RepD.D) (ys.map RepD.D)) = true ↔ _
    rw [Bool.and_eq_true, RepD.eqv, eqv_all xs ys]
    constructor
    · rintro ⟨rfl, rfl⟩
      rfl
    · intro h
      injection h with h1 h2
      exact ⟨h1, h2⟩
instance : RepD Int where
  D := .int
  dp := fun _ h => by
    cases h
    exact .int _
  deep := 0
  shp := fun _ => ⟨rfl, Nat.le_refl _⟩
  eqv := fun x y => by
    show (x == y) = true ↔ x = y
    exact beq_iff_eq
instance : RepD Bool where
  D := .bool
  dp := fun _ h => by
    cases h
    exact .bl _
  deep := 0
  shp := fun _ => ⟨rfl, Nat.le_refl _⟩
  eqv := fun x y => by
    show (x == y) = true ↔ x = y
    exact beq_iff_eq
instance : NN Int := ⟨fun _ h => nomatch h⟩
instance : NN Bool := ⟨fun _ h => nomatch h⟩
instance instDList {α : Type} [RepD α] : RepD (List α) where
  D := fun xs => .list (xs.map RepD.D)
  dp := fun e ⟨a, vs, h1, h2, h3⟩ => by
    subst h1
    exact .lst (SqL.of (e _ _ h2)) (dpAll_of e h3.1)
  deep := RepD.deep (α := α) + 1
  shp := fun xs => by
    obtain ⟨h1, h2⟩ := lay_all xs
    exact ⟨h1, Nat.succ_le_succ h2⟩
  eqv := fun xs ys => eqv_all xs ys
instance {α : Type} [RepD α] : NN (List α) := ⟨fun _ h => nomatch h⟩
instance instDProd {α β : Type} [RepD α] [RepD β] : RepD (α × β) where
  D := fun x => .tuple [RepD.D x.1, RepD.D x.2]
  dp := fun e ⟨a, u, w, h1, h2, h3, h4⟩ => by
    subst h1
    exact .tup (SqT.of (e _ _ h2)) (.cons (RepD.dp e h3) (.cons (RepD.dp e h4) .nil))
  deep := max (RepD.deep (α := α)) (RepD.deep (α := β)) + 1
  shp := fun x => by
    obtain ⟨h1, h2⟩ := RepD.shp x.1
    obtain ⟨k1, k2⟩ := RepD.shp x.2
    constructor
    · show (PyData.canLay0 (RepD.D x.1) && (PyData.canLay0 (RepD.D x.2) && true)) = true
      rw [h1, k1]
      rfl
    · show max (PyData.depth (RepD.D x.1)) (max (PyData.depth (RepD.D x.2)) 0) + 1 ≤ _
      omega
  eqv := fun x y => by
    show (PyData.eqv (RepD.D x.1) (RepD.D y.1) && (PyData.eqv (RepD.D x.2) (RepD.D y.2) && true)) = true ↔ _
    rw [Bool.and_true, Bool.and_eq_true, RepD.eqv, RepD.eqv]
    exact ⟨fun ⟨h1, h2⟩ => Prod.ext h1 h2, fun h => by rw [h]; exact ⟨rfl, rfl⟩⟩
instance {α β : Type} [RepD α] [RepD β] : NN (α × β) := ⟨fun _ h => nomatch h⟩
instance instDOpt {α : Type} [RepD α] [NN α] : RepD (Option α) where
  D := fun x => match x with
    | none => .none
    | some y => RepD.D y
  dp := fun {K A H v x} e h => by
    cases x with
    | none =>
      cases h
      exact .non
    | some y => exact RepD.dp e h.2
  deep := RepD.deep (α := α)
  shp := fun x => by
    cases x with
    | none => exact ⟨rfl, Nat.zero_le _⟩
    | some y => exact RepD.shp y
  eqv := fun x y => by
    cases x with
    | none =>
      cases y with
      | none => simp [PyData.eqv]
      | some y =>
        have h := NN.nn y
        show PyData.eqv .none (RepD.D y) = true ↔ _
        cases e : RepD.D y <;> simp_all [PyData.eqv]
    | some x =>
      cases y with
      | none =>
        have h := NN.nn x
        show PyData.eqv (RepD.D x) .none = true ↔ _
        cases e : RepD.D x <;> simp_all [PyData.eqv]
      | some y =>
        show PyData.eqv (RepD.D x) (RepD.D y) = true ↔ _
        rw [RepD.eqv]
        exact ⟨fun h => by rw [h], fun h => Option.some.inj h⟩
section
variable {K : PySem.W.Frag} {A H : Hp} {R : List Hp} {α : Type} [RepD α] {x : α} {v : V}
theorem dp_of (S : St H (A :: R)) (h : Is A v x) : Dp K H v (RepD.D x) := RepD.dp S.1 h
theorem dp_la {xs : List α} (S : St H (A :: R)) (h : LA A H v xs) : Dp K H v (RepD.D xs) := by
  obtain ⟨a, vs, rfl, h1, h2⟩ := h
  exact .lst (SqL.of h1) (dpAll_of S.1 h2.1)
end
end SB
namespace SB
open PySem PySem.Spec PyProof.Rows L2 Res
/-- what is handed in, already reckoned -/
def tArgs (vs : List V) : TA := fun _ H Q => Q vs H
section
variable {K : PySem.W.Frag} {tl : TE} {ta : TA} {tu tz : TS} {tt : TT} {te : TE} {g : TG} {D : Ends} {σ : L2.St} {H : Hp} {Q : VK} {v : V} {vs : List Nat}
theorem c_c (h : Q v H) : tC v σ H Q := h
theorem q_forL (h : tl σ H fun v H1 => tFor (iList K (tC v)) g tu { D with nx := tz D } σ H1) : tSeq (tFor (iList K tl) g tu) tz D σ H := h
theorem s_forL (h : tl σ H fun v H1 => tFor (iList K (tC v)) g tu D σ H1) : tFor (iList K tl) g tu D σ H := h
theorem q_forR1 (h : ta σ H fun us H1 => tFor (iRng1 (tArgs us)) g tu { D with nx := tz D } σ H1) : tSeq (tFor (iRng1 ta) g tu) tz D σ H := h
theorem s_forR1 (h : ta σ H fun us H1 => tFor (iRng1 (tArgs us)) g tu D σ H1) : tFor (iRng1 ta) g tu D σ H := h
theorem q_forR2 (h : ta σ H fun us H1 => tFor (iRng2 (tArgs us)) g tu { D with nx := tz D } σ H1) : tSeq (tFor (iRng2 ta) g tu) tz D σ H := h
theorem s_forR2 (h : ta σ H fun us H1 => tFor (iRng2 (tArgs us)) g tu D σ H1) : tFor (iRng2 ta) g tu D σ H := h
theorem c_lcE (h : tl σ H fun v H1 => tLc (iList K (tC v)) g tt te vs σ H1 Q) : tLc (iList K tl) g tt te vs σ H Q := h
theorem c_lcER (h : ta σ H fun us H1 => tLc (iRng1 (tArgs us)) g tt te vs σ H1 Q) : tLc (iRng1 ta) g tt te vs σ H Q := h
end
/-- what is kept of the pieces -/
theorem St.drop {H : Hp} {m : Hp} {R : List Hp} (S : St H (m :: R)) (k : Nat) (hk : k < R.length) : St H (m :: R.eraseIdx k) := by
  have z := S.pick k hk
  exact ⟨z.1, fun n hn => z.2.1 n (List.mem_cons_of_mem _ hn), z.2.2.2.2⟩
/-! ## objects -/
class Ob (S : Type) where
  isAt : Hp → Hp → V → S → Prop
  mono : ∀ {A B m : Hp} {v : V} {s : S}, Same A B → isAt A m v s → isAt B m v s
theorem upO {S : Type} [Ob S] {A B m : Hp} {v : V} {s : S} (h : Ob.isAt A m v s) (e : Same A B) : Ob.isAt B m v s := Ob.mono e h
/-! ## refusals -/
structure Cs where
  ex : Nat → Addr
  ring : Addr
  many : Addr
  row : Addr
def XA (T : Cs) (e : Exn) (cls : Value) (d : Option Addr) (A : Hp) : Prop := match e with
  | .plain c => cls = .ref (T.ex c) ∧ d = none
  | .ring l => ∃ dd v, cls = .ref T.ring ∧ d = some dd ∧ A dd = some (.xd [("ring", v)]) ∧ Is A v l
  | .many n => ∃ dd, cls = .ref T.many ∧ d = some dd ∧ A dd = some (.xd [("many", .int n)])
  | .atRow n => ∃ dd, cls = .ref T.row ∧ d = some dd ∧ A dd = some (.xd [("at", .int n)])
/-- a def that is called by its name -/
structure Glob (P : Program) (w : World) (K : PySem.W.Frag) (mg : Str → Option Value) (base : Heap) (X : CXT) (k : Nat) (x : Str) (ps : List Str) (sp : Sp) (f : Addr) (fd : FuncData) : Prop where
  ok : FnOk P w K mg base X k f fd ps sp
  g : mg x = some (.ref f)
  kp : PySem.W.keepIn K (.ref f) = true
  b : Binds K fd ps []
/-- an own class of refusals without fields -/
structure ExC (K : PySem.W.Frag) (mg : Str → Option Value) (x : Str) (C : Addr) : Prop where
  g : mg x = some (.ref C)
  x : PySem.W.excIn K C [.type "ValueError", .type "Exception", .type "BaseException", .type "object"] "ValueError.__new__" = true
  kp : PySem.W.keepIn K (.ref C) = true
  b : PySem.W.subIn K (.ref C) (.type "BaseException") = some true
  t : PySem.W.typeIn K (.ref C) = some (.type "type")
def tRaise0 (E : XK) (C : Addr) : TS := fun _ _ H => E (.ref C) none H
theorem s_raise {E : XK} {C : Addr} {D : Ends} {σ : L2.St} {H : Hp} (h : E (.ref C) none H) : tRaise0 E C D σ H := h
end SB
namespace SB
open PySem PySem.Spec PyProof.Rows L2 Res
def cutL {α : Type} (xs : List α) (lo hi : Option Int) : List α := (xs.drop (HT.sIx xs.length 0 lo)).take (HT.sIx xs.length xs.length hi - HT.sIx xs.length 0 lo)
section
variable {ω α β γ : Type} [Rep α] [Rep β] {A H : Hp} {v u : V} {xs : List α} {R : List Hp} {K : PySem.W.Frag} {Q : VK} {Qr : γ → Prop} {Er : Exn → ω → Prop}
theorem c_slice {lo hi : Option Int} (h : LA A H v xs) (k : RawL A H Q (cutL xs lo hi)) : rSlL K v lo hi H Q := by
  obtain ⟨a, vs, rfl, h1, h2⟩ := h
  refine ⟨a, vs, rfl, SqL.of h1, fun p hp => k p _ hp ?_⟩
  have e : cutV vs lo hi = (vs.drop (HT.sIx xs.length 0 lo)).take (HT.sIx xs.length xs.length hi - HT.sIx xs.length 0 lo) := by
    unfold cutV
    rw [h2.len]
  rw [e]
  refine ⟨(h2.1.drop _).take _, ?_⟩
  unfold cutL
  rw [List.length_take, List.length_drop]
  have := h2.2
  omega
theorem c_ixT0 {x : α × β} (S : St H (A :: R)) (h : Is A v x) (k : ∀ w, Is A w x.1 → Q w H) : rIxT K v (.int 0) H Q := by
  obtain ⟨a, u, w, rfl, h1, h2, h3⟩ := h
  exact ⟨a, [u, w], 0, u, rfl, rfl, SqT.of (S.1 _ _ h1), rfl, k u h2⟩
theorem c_ixT1 {x : α × β} (S : St H (A :: R)) (h : Is A v x) (k : ∀ w, Is A w x.2 → Q w H) : rIxT K v (.int 1) H Q := by
  obtain ⟨a, u, w, rfl, h1, h2, h3⟩ := h
  exact ⟨a, [u, w], 1, w, rfl, rfl, SqT.of (S.1 _ _ h1), rfl, k w h3⟩
theorem c_ixO0 {x : Option (α × β)} {f : α × β → Res ω γ} (S : St H (A :: R)) (h : Is A v x) (hm : (bind (getR x) f).wp Qr Er) (k : ∀ y w, Is A w y.1 → (f y).wp Qr Er → Q w H) : rIxT K v (.int 0) H Q := by
  cases x with
  | none =>
    unfold getR at hm
    exact hm.elim
  | some y =>
    unfold getR at hm
    exact c_ixT0 S h.2 fun w hw => k y w hw hm
theorem c_ixO1 {x : Option (α × β)} {f : α × β → Res ω γ} (S : St H (A :: R)) (h : Is A v x) (hm : (bind (getR x) f).wp Qr Er) (k : ∀ y w, Is A w y.2 → (f y).wp Qr Er → Q w H) : rIxT K v (.int 1) H Q := by
  cases x with
  | none =>
    unfold getR at hm
    exact hm.elim
  | some y =>
    unfold getR at hm
    exact c_ixT1 S h.2 fun w hw => k y w hw hm
theorem opt_dec {x : Option α} (h : Is A v x) : decide (v = .non) = x.isNone := by
  cases x with
  | none =>
    have h : v = .non := h
    rw [h]
    rfl
  | some y => exact decide_eq_false h.1
theorem c_isN {x : Option α} (h : Is A v x) (k : Q (.bl x.isNone) H) : L2.rIsN v .non H Q := by
  refine ⟨rfl, ?_⟩
  rw [opt_dec h]
  exact k
theorem c_notN {x : Option α} (h : Is A v x) (k : Q (.bl (!x.isNone)) H) : L2.rNotN v .non H Q := by
  refine ⟨rfl, ?_⟩
  rw [opt_dec h]
  exact k
theorem c_app {p : Addr} {ws : List V} {x : α} {f : List α → Res ω γ} (S : St H (A :: one p (.lst ws) :: R)) (h : OL A ws xs) (hx : Is A u x) (hm : (bind (appR xs x) f).wp Qr Er)
    (k : ∀ zs us, (f zs).wp Qr Er → ∀ H', St H' (A :: one p (.lst us) :: R) → OL A us zs → Q .non H') : rAppend (.ref p) [u] H Q := by
  unfold appR at hm
  by_cases c : xs.length < sizeLine
  · rw [if_pos c] at hm
    exact ⟨p, ws, u, rfl, rfl, S.second _ _ one_same, by rw [h.len]; exact c, k _ _ hm _ S.wr1 ⟨h.1.append ⟨hx, trivial⟩, by rw [List.length_append]; exact c⟩⟩
  · rw [if_neg c] at hm
    exact hm.elim
end
end SB
namespace SB
open PySem PySem.Spec PyProof.Rows L2 Res
/-! ## readings, one step each -/
section
variable {K : PySem.W.Frag} {σ : L2.St} {H : Hp} {Q : VK} {ta tb te : TE} {r : R2} {v : V} {i : Nat} {t tr : TA} {rc : List V → Hp → VK → Prop} {sp : Sp} {dvs : List V} {E : XK}
theorem c_var (hi : σ[i]? = some (some v)) (h : Q v H) : tVar i σ H Q := ⟨v, hi, h⟩
theorem c_op (h : ta σ H fun x H1 => tb σ H1 fun y H2 => r x y H2 Q) : tOp r ta tb σ H Q := h
theorem c_un {r : V → Hp → VK → Prop} (h : ta σ H fun x H1 => r x H1 Q) : tUn r ta σ H Q := h
theorem c_cb (h : t σ H fun vs H1 => rc vs H1 Q) : tCB rc t σ H Q := h
theorem c_nil {Q : List V → Hp → Prop} (h : Q [] H) : tNil σ H Q := h
theorem c_cons {Q : List V → Hp → Prop} (h : te σ H fun x H1 => tr σ H1 fun xs H2 => Q (x :: xs) H2) : tCons te tr σ H Q := h
theorem c_tst {Q : Bool → Hp → Prop} (h : te σ H fun x H' => ∃ k, x = .bl k ∧ Q k H') : tTest te σ H Q := h
theorem c_tb {Q : Bool → Hp → Prop} (h : te σ H fun x H' => ∃ k, x = .bl k ∧ Q k H') : tB te σ H Q := h
theorem c_bl {b : Bool} {P : Bool → Prop} (h : P b) : ∃ c, V.bl b = .bl c ∧ P c := ⟨b, rfl, h⟩
theorem c_int {n : Int} {P : Int → Prop} (h : P n) : ∃ c, V.int n = .int c ∧ P c := ⟨n, rfl, h⟩
theorem c_I0 {g : Int → Int → V} {a b : Int} (h : Q (g a b) H) : rI0 g (.int a) (.int b) H Q := ⟨a, b, rfl, rfl, h⟩
theorem c_I {C : Int → Int → Prop} {g : Int → Int → V} {a b : Int} (hc : C a b) (h : Q (g a b) H) : rI C g (.int a) (.int b) H Q := ⟨a, b, rfl, rfl, hc, h⟩
theorem c_U {g : Int → V} {a : Int} (h : Q (g a) H) : rU g (.int a) H Q := ⟨a, rfl, h⟩
theorem c_notV (h : ta σ H fun x H1 => ∃ c, x = .bl c ∧ Q (.bl (!c)) H1) : tNotV ta σ H Q := h
theorem c_andV (h : ta σ H fun x H1 => ∃ c, x = .bl c ∧ if c = true then tb σ H1 Q else Q (.bl false) H1) : tAndV ta tb σ H Q := h
theorem c_orV (h : ta σ H fun x H1 => ∃ c, x = .bl c ∧ if c = true then Q (.bl true) H1 else tb σ H1 Q) : tOrV ta tb σ H Q := h
theorem c_tlst (h : t σ H fun xs H1 => NewL Q xs H1) : tLst t σ H Q := h
theorem c_ttup (h : t σ H fun xs H1 => NewT Q xs H1) : tTup t σ H Q := h
theorem c_sl {rs : V → Option Int → Option Int → Hp → VK → Prop} {tl th : TO} (h : te σ H fun x H1 => tl σ H1 fun l H2 => th σ H2 fun u H3 => rs x l u H3 Q) : tSl rs te tl th σ H Q := h
theorem c_nopart {Q : Option Int → Hp → Prop} (h : Q none H) : tNoPart σ H Q := h
theorem c_part {Q : Option Int → Hp → Prop} (h : te σ H fun x H1 => ∃ i, x = .int i ∧ Q (some i) H1) : tPart te σ H Q := h
theorem c_call (h : t σ H fun vs H1 => sp (vs ++ dvs) H1 Q E) : tCall sp dvs E t σ H Q := h
theorem c_bm {T : String} {rm : V → List V → Hp → VK → Prop} (h : te σ H fun x H1 => tyV K T x H1 ∧ t σ H1 fun xs H2 => rm x xs H2 Q) : tBM K T rm te t σ H Q := h
theorem c_bm0 {T : String} {rm : V → List V → Hp → VK → Prop} (h : te σ H fun x H1 => tyV K T x H1 ∧ rm x [] H1 Q) : tBM0 K T rm te σ H Q := h
theorem nx_mk {a d c : L2.St → Hp → Prop} {b : VK} (h : a σ H) : (Ends.mk a b c d).nx σ H := h
theorem c_and2 {P1 P2 : Prop} (h1 : P1) (h2 : P2) : P1 ∧ P2 := ⟨h1, h2⟩
theorem s_aug {f : Int → Int → Int} {x : V} {D : Ends} (hi : σ[i]? = some (some x)) (h : te σ H fun y H1 => ipI f x y H1 fun z H2 => D.nx (σ.set i (some z)) H2) : tAug i te (ipI f) D σ H := ⟨x, hi, h⟩
theorem q_aug {f : Int → Int → Int} {x : V} {D : Ends} {tz : TS} (hi : σ[i]? = some (some x)) (h : te σ H fun y H1 => ipI f x y H1 fun z H2 => tz D (σ.set i (some z)) H2) : tSeq (tAug i te (ipI f)) tz D σ H := ⟨x, hi, h⟩
theorem c_ip {f : Int → Int → Int} {a b : Int} (h : Q (.int (f a b)) H) : ipI f (.int a) (.int b) H Q := ⟨a, b, rfl, rfl, h⟩
end
end SB
namespace SB
open PySem PySem.Spec PyProof.Rows L2 Res
/-! ## comprehensions whose parts may stop, or change an object -/
def compG {ω α β σT : Type} (body : α → σT → Res ω (Option β × σT)) : List α → σT → Res ω (List β × σT)
  | [], s => .ok ([], s)
  | x :: xs, s => match body x s with
    | .ok (r, s') => bind (compG body xs s') fun y => match r with
      | some b => .ok (b :: y.1, y.2)
      | none => .ok y
    | _ => .bad
def andS {ω σT : Type} (c : Bool) (s : σT) (m : Res ω (Bool × σT)) : Res ω (Bool × σT) := if c = true then m else .ok (false, s)
def orS {ω σT : Type} (c : Bool) (s : σT) (m : Res ω (Bool × σT)) : Res ω (Bool × σT) := if c = true then .ok (true, s) else m
theorem c_yes {σ : L2.St} {H : Hp} {te : TE} {K1 : VK} {K0 : Hp → Prop} (h : te σ H K1) : tYes σ H (fun b H3 => if b = true then te σ H3 K1 else K0 H3) := by
  show (if true = true then te σ H K1 else K0 H)
  rw [if_pos rfl]
  exact h
section
variable {ω α β γ σT : Type} [Rep α] [Rep β] {A H : Hp} {v : V} {xs : List α} {R : List Hp} {K : PySem.W.Frag} {Q : VK} {Qr : γ → Prop} {Er : Exn → ω → Prop}
theorem compG_cons {body : α → σT → Res ω (Option β × σT)} {x : α} {l : List α} {s : σT} {f : List β × σT → Res ω γ} (h : (bind (compG body (x :: l) s) f).wp Qr Er) :
    (body x s).wp (fun r => (bind (compG body l r.2) fun y => f (match r.1 with | some b => (b :: y.1, y.2) | none => y)).wp Qr Er) (fun _ _ => False) := by
  unfold compG at h
  cases hb : body x s with
  | bad =>
    rw [hb] at h
    exact h
  | ex e w =>
    rw [hb] at h
    exact h.elim
  | ok r =>
    obtain ⟨r, s'⟩ := r
    rw [hb] at h
    show (bind (compG body l s') _).wp Qr Er
    have h : (bind (bind (compG body l s') fun y => match r with | some b => .ok (b :: y.1, y.2) | none => .ok y) f).wp Qr Er := h
    cases hc : compG body l s' with
    | bad =>
      rw [hc] at h
      exact h
    | ex e w =>
      rw [hc] at h
      exact h
    | ok y =>
      rw [hc] at h
      cases r with
      | none => exact h
      | some b => exact h
/-- the step of such a comprehension -/
def StepG (A : Hp) (tt : TT) (te : TE) (σ2 : V → L2.St) (body : α → σT → Res ω (Option β × σT)) (Rel : Hp → List Hp → σT → Prop) (P : V → α → Hp → Prop) : Prop :=
  ∀ x w A' H' R' s n (C : Option β → σT → Prop) (K1 : VK) (K0 : Hp → Prop), P w x A' → Same A A' → St H' (A' :: n :: R') → Rel A' R' s →
    (∀ A'' H'' R'' y u s', Same A' A'' → St H'' (A'' :: n :: R'') → Rel A'' R'' s' → Is A'' u y → C (some y) s' → K1 u H'') →
    (∀ A'' H'' R'' s', Same A' A'' → St H'' (A'' :: n :: R'') → Rel A'' R'' s' → C none s' → K0 H'') →
    (body x s).wp (fun r => C r.1 r.2) (fun _ _ => False) → tt (σ2 w) H' (fun b H3 => if b = true then te (σ2 w) H3 K1 else K0 H3)
/-- what stands while it goes: what is made so far, and what is still to come -/
def CgP (A : Hp) (Rel : Hp → List Hp → σT → Prop) (body : α → σT → Res ω (Option β × σT)) (f : List β × σT → Res ω γ) (Qr : γ → Prop) (Er : Exn → ω → Prop) (xs : List α) (Dl : Addr) (i : Nat) (H' : Hp) : Prop :=
  ∃ A' R' ws ys s, Same A A' ∧ St H' (A' :: one Dl (.lst ws) :: R') ∧ Rel A' R' s ∧ All2 (Rep.is A') ws ys ∧ ys.length ≤ i ∧ (bind (compG body (xs.drop i) s) fun y => f (ys ++ y.1, y.2)).wp Qr Er
theorem cg_turn {tt : TT} {te : TE} {σ2 : V → L2.St} {body : α → σT → Res ω (Option β × σT)} {Rel : Hp → List Hp → σT → Prop} {P : V → α → Hp → Prop} {f : List β × σT → Res ω γ} {Dl : Addr} {i : Nat} {x : α} {w : V} {H' : Hp}
    (step : StepG A tt te σ2 body Rel P) (hx : xs[i]? = some x) (hi : i < sizeLine) (hP : ∀ A', Same A A' → P w x A') (p : CgP A Rel body f Qr Er xs Dl i H') :
    tt (σ2 w) H' fun b H3 => if b = true then te (σ2 w) H3 fun y H4 => ∃ acc, H4 Dl = some (.lst acc) ∧ acc.length < sizeLine ∧ CgP A Rel body f Qr Er xs Dl (i + 1) (upd H4 Dl (.lst (acc ++ [y]))) else CgP A Rel body f Qr Er xs Dl (i + 1) H3 := by
  obtain ⟨A', R', ws, ys, s, e, S, hr, hv, hl, hw⟩ := p
  have ed : xs.drop i = x :: xs.drop (i + 1) := by
    obtain ⟨hlt, hg⟩ := List.getElem?_eq_some_iff.mp hx
    rw [← hg]
    exact List.drop_eq_getElem_cons hlt
  rw [ed] at hw
  refine step x w A' H' R' s (one Dl (.lst ws)) (fun r s' => (bind (compG body (xs.drop (i + 1)) s') fun y => f (ys ++ (match r with | some b => (b :: y.1, y.2) | none => y).1, (match r with | some b => (b :: y.1, y.2) | none => y).2)).wp Qr Er) _ _ (hP A' e) e S hr ?_ ?_ (compG_cons (f := fun y => f (ys ++ y.1, y.2)) hw)
  · intro A'' H'' R'' y u s' e' S' hr' hu hc
    refine ⟨ws, S'.second _ _ one_same, ?_, A'', R'', ws ++ [u], ys ++ [y], s', e.trans e', S'.wr1, hr', ?_, ?_, ?_⟩
    · rw [hv.len]
      omega
    · exact (hv.mono fun _ _ h => Rep.mono e' h).append ⟨hu, trivial⟩
    · rw [List.length_append, List.length_singleton]
      omega
    · have hc : (bind (compG body (xs.drop (i + 1)) s') fun z => f (ys ++ y :: z.1, z.2)).wp Qr Er := hc
      have e1 : (fun z : List β × σT => f (ys ++ [y] ++ z.1, z.2)) = fun z => f (ys ++ y :: z.1, z.2) := by
        funext z
        rw [List.append_assoc]
        rfl
      rw [e1]
      exact hc
  · intro A'' H'' R'' s' e' S' hr' hc
    exact ⟨A'', R'', ws, ys, s', e.trans e', S', hr', hv.mono fun _ _ h => Rep.mono e' h, by omega, hc⟩
theorem c_lcGL {σ : L2.St} {tl : TE} {tt : TT} {te : TE} {j : Nat} {vs : List Nat} {s0 : σT} {body : α → σT → Res ω (Option β × σT)} {f : List β × σT → Res ω γ} (Rel : Hp → List Hp → σT → Prop)
    (S : St H (A :: R)) (htl : ∀ Q' : VK, Q' v H → tl σ H Q') (hx : Is A v xs) (h0 : Rel A R s0) (hm : (bind (compG body xs s0) f).wp Qr Er) (hw : ∀ x, wipe ((wipe σ vs).set j (some x)) vs = wipe σ vs)
    (step : StepG A tt te (fun w => (wipe σ vs).set j (some w)) body Rel (fun w x A' => x ∈ xs ∧ Is A' w x))
    (k : ∀ p A' H' R' ws y, (f y).wp Qr Er → Same A A' → St H' (A' :: one p (.lst ws) :: R') → Rel A' R' y.2 → OL A' ws y.1 → Q (.ref p) H') : tLc (iList K tl) (gName j) tt te vs σ H Q := by
  obtain ⟨a, us, rfl, h1, h2⟩ := hx
  refine htl _ ⟨a, rfl, ⟨us, SqL.of (S.1 _ _ h1)⟩, fun Dl hD => ?_⟩
  refine lc_list (xs := us) (CgP A Rel body f Qr Er xs Dl) ⟨A, R, [], [], s0, Same.refl _, S.newM hD, h0, trivial, Nat.le_refl _, hm⟩ (fun i H' _ p => ?_) (fun i w H' hi p => ?_) (fun H' p => ?_)
  · obtain ⟨A', R', ws, ys, s, e, S', _⟩ := p
    exact SqL.of (S'.1 _ _ (e _ _ h1))
  · obtain ⟨x, hxi, hxw⟩ := h2.1.getV hi
    have hlt : i < xs.length := (List.getElem?_eq_some_iff.mp hxi).1
    exact ⟨hw w, cg_turn step hxi (Nat.lt_of_lt_of_le hlt h2.2) (fun A' e => ⟨List.mem_of_getElem? hxi, Rep.mono e hxw⟩) p⟩
  · obtain ⟨A', R', ws, ys, s, e, S', hr, hv, hl, hc⟩ := p
    rw [h2.len, List.drop_length] at hc
    have hc : (f (ys ++ [], s)).wp Qr Er := hc
    rw [List.append_nil] at hc
    exact k Dl A' H' R' ws (ys, s) hc e S' hr ⟨hv, by rw [h2.len] at hl; exact Nat.le_trans hl h2.2⟩
theorem c_lcGR {σ : L2.St} {ta : TA} {tt : TT} {te : TE} {j : Nat} {vs : List Nat} {n : Int} {s0 : σT} {body : Int → σT → Res ω (Option β × σT)} {f : List β × σT → Res ω γ} (Rel : Hp → List Hp → σT → Prop)
    (S : St H (A :: R)) (hta : ∀ Q' : List V → Hp → Prop, Q' [.int n] H → ta σ H Q') (h0 : Rel A R s0) (hm : (bind (bind (rlR n) fun l => compG body l s0) f).wp Qr Er) (hw : ∀ x, wipe ((wipe σ vs).set j (some x)) vs = wipe σ vs)
    (step : StepG A tt te (fun w => (wipe σ vs).set j (some w)) body Rel (fun w x _ => x ∈ rangeL 0 n ∧ w = .int x))
    (k : ∀ p A' H' R' ws y, (f y).wp Qr Er → Same A A' → St H' (A' :: one p (.lst ws) :: R') → Rel A' R' y.2 → OL A' ws y.1 → Q (.ref p) H') : tLc (iRng1 ta) (gName j) tt te vs σ H Q := by
  unfold rlR at hm
  by_cases hz : n ≤ 1000000 ∧ -1000000 ≤ n
  case neg =>
    rw [if_neg hz] at hm
    exact hm.elim
  rw [if_pos hz] at hm
  have hm : (bind (compG body (rangeL 0 n) s0) f).wp Qr Er := hm
  have hsz : (1000000 : Nat) < sizeLine := by decide
  have hlen : (rangeL 0 n).length = n.toNat := by unfold rangeL; rw [List.length_map, List.length_range]; omega
  refine hta _ ⟨n, rfl, by omega, by omega, fun Dl hD => ?_⟩
  refine lc_range (lo := 0) (n := n.toNat) (CgP A Rel body f Qr Er (rangeL 0 n) Dl) ⟨A, R, [], [], s0, Same.refl _, S.newM hD, h0, trivial, Nat.le_refl _, hm⟩ (fun i H' hi p => ?_) (fun H' p => ?_)
  · have hxi : (rangeL 0 n)[i]? = some (0 + (i : Int)) := by
      unfold rangeL
      rw [List.getElem?_map, List.getElem?_range (by omega)]
      rfl
    exact ⟨hw _, cg_turn step hxi (Nat.lt_of_le_of_lt (by omega) hsz) (fun A' e => ⟨List.mem_of_getElem? hxi, rfl⟩) p⟩
  · obtain ⟨A', R', ws, ys, s, e, S', hr, hv, hl, hc⟩ := p
    rw [← hlen, List.drop_length] at hc
    have hc : (f (ys ++ [], s)).wp Qr Er := hc
    rw [List.append_nil] at hc
    exact k Dl A' H' R' ws (ys, s) hc e S' hr ⟨hv, Nat.le_trans hl (Nat.le_of_lt (Nat.lt_of_le_of_lt (by omega) hsz))⟩
/-- a test that changes objects -/
theorem q_testS {c : TT} {P : Bool → Hp → Prop} {σ : L2.St} {m : Res ω (Bool × σT)} {f : Bool × σT → Res ω γ} (Rel : Hp → List Hp → σT → Prop) (hm : (bind m f).wp Qr Er)
    (h1 : ∀ Qb : Bool → Hp → Prop, (∀ b s A' H' R', Same A A' → St H' (A' :: R') → Rel A' R' s → (f (b, s)).wp Qr Er → Qb b H') → m.wp (fun r => (f r).wp Qr Er) Er → c σ H Qb)
    (h2 : ∀ r A' H' R', Same A A' → St H' (A' :: R') → Rel A' R' r.2 → (f r).wp Qr Er → P r.1 H') : c σ H P := h1 P (fun b s A' H' R' e S hr h => h2 (b, s) A' H' R' e S hr h) (wp_bind hm)
theorem c_andS {c : Bool} {s : σT} {m : Res ω (Bool × σT)} {Q : Bool × σT → Prop} {P1 P2 : Prop} (hm : (andS c s m).wp Q Er) (h1 : c = true → m.wp Q Er → P1) (h2 : c = false → Q (false, s) → P2) : if c = true then P1 else P2 := by
  cases c with
  | true => exact h1 rfl hm
  | false => exact h2 rfl hm
theorem c_orS {c : Bool} {s : σT} {m : Res ω (Bool × σT)} {Q : Bool × σT → Prop} {P1 P2 : Prop} (hm : (orS c s m).wp Q Er) (h1 : c = true → Q (true, s) → P1) (h2 : c = false → m.wp Q Er → P2) : if c = true then P1 else P2 := by
  cases c with
  | true => exact h1 rfl hm
  | false => exact h2 rfl hm
/-- xs[i] = e -/
@[irreducible] def setR (xs : List α) (i : Int) (x : α) : Res ω (List α) := match ixN xs.length i with
  | some j => .ok (xs.set j x)
  | none => .bad
theorem c_set {p : Addr} {ws : List V} {x : α} {u : V} {i : Int} {f : List α → Res ω γ} {N : Hp → Prop} (S : St H (A :: one p (.lst ws) :: R)) (h : OL A ws xs) (hx : Is A u x) (hm : (bind (setR xs i x) f).wp Qr Er)
    (k : ∀ zs us, (f zs).wp Qr Er → ∀ H', St H' (A :: one p (.lst us) :: R) → OL A us zs → N H') : rSetL (.ref p) (.int i) u H N := by
  unfold setR at hm
  cases e : ixN xs.length i with
  | none =>
    rw [e] at hm
    exact hm.elim
  | some j =>
    rw [e] at hm
    exact ⟨p, ws, i, j, rfl, rfl, S.second _ _ one_same, by rw [h.len]; exact e, k _ _ hm _ S.wr1 ⟨h.1.set hx j, by rw [List.length_set]; exact h.2⟩⟩
end
section
variable {te to ti : TE} {tz : TS} {D : Ends} {σ : L2.St} {H : Hp} {r : TSet}
theorem q_sub (h : te σ H fun v H1 => to σ H1 fun o H2 => ti σ H2 fun i H3 => r o i v H3 fun H4 => tz D σ H4) : tSeq (tAsg te (gSub to ti r)) tz D σ H := h
theorem s_sub (h : te σ H fun v H1 => to σ H1 fun o H2 => ti σ H2 fun i H3 => r o i v H3 fun H4 => D.nx σ H4) : tAsg te (gSub to ti r) D σ H := h
end
end SB

namespace SB
open PySem PySem.Spec PyProof.Rows L2 Res
/-! ## the bag of draws -/
structure Bag where
  l : List Int
  i : Int
  c : Int
  s : Int
instance : Ob Bag := ⟨fun A m v b => ∃ p u, v = .ref p ∧ m = one p (.lst [u, .int b.i, .int b.c, .int b.s]) ∧ Is A u b.l, fun e ⟨p, u, h1, h2, h3⟩ => ⟨p, u, h1, h2, up h3 e⟩⟩
/-- xs[i] op= e reads a list's item -/
theorem get_list {X : Cx} : PGet X (rIxL X.K) := by
  intro pins s σ H x y v u Q I rx ry h
  obtain ⟨p, xs, i, z, rfl, rfl, hq, he, q⟩ := h
  cases rx
  obtain ⟨t, rfl⟩ := ry
  obtain ⟨its, r, pl, hz⟩ := I.list hq
  obtain ⟨j, h1, h2, h3, h4, h5⟩ := atI_get he
  obtain ⟨w, ew, rw'⟩ := r.get h2
  have hl := r.length
  have hn := line63
  have fin : EP X pins σ Q w s := ⟨z, H, I, rw', q⟩
  by_cases h0 : 0 ≤ i
  · have hj : i.toNat = j := by
      rw [seqIndex_of h0 h5] at h1
      exact Option.some.inj h1
    exact wpAny_getItem_list pl.isList h0 (by omega) (by rw [hj]; simpa using ew) fin
  · have hj : (i + (its.toArray.size : Int)).toNat = j := by
      rw [seqIndex_neg (by omega) h4] at h1
      rw [List.size_toArray, ← hl]
      exact Option.some.inj h1
    exact wpAny_getItem_list_neg pl.isList (by omega) (by rw [List.size_toArray] <;> omega) (by omega) (by rw [hj]; simpa using ew) fin
def mixV (x i many : Int) : Int := ((x * 48271 + i * 16807 + 11) % 2147483647 * ((x * 48271 + i * 16807 + 11) % 2147483647) % 2147483629 + i) * 69621 % 998244353 / 13 % many
def pullV (b : Bag) (many : Int) : Int × Bag :=
  if b.c ≤ 1 then
    if h : b.i + 1 ≤ (b.l.length : Int) then
      if b.l.getD b.i.toNat 0 < 10 ^ 18 then (mixV (b.l.getD b.i.toNat 0) (b.i + 1) many, { b with i := b.i + 1 })
      else (b.l.getD b.i.toNat 0 % many, { b with i := b.i + 1, c := b.l.getD b.i.toNat 0 / many })
    else (mixV b.s (b.i + 1) many, { b with i := b.i + 1 })
  else (b.c % many, { b with c := b.c / many })
@[irreducible] def m_law_pull (b : Bag) (many : Int) : Res Bag (Int × Bag) := if 0 < many ∧ many < 1073741824 ∧ 0 ≤ b.i then .ok (pullV b many) else .bad
theorem mix_lt {x i many : Int} (h : 0 < many) : 0 ≤ mixV x i many ∧ mixV x i many < many := ⟨Int.emod_nonneg _ (by omega), Int.emod_lt_of_pos _ h⟩
theorem pull_ok {b : Bag} {many : Int} (hi : 0 ≤ b.i) (h : 0 < many) (h' : many < 1073741824) : ∃ r b', m_law_pull b many = .ok (r, b') ∧ 0 ≤ r ∧ r < many ∧ 0 ≤ b'.i := by
  refine ⟨(pullV b many).1, (pullV b many).2, ?_, ?_⟩
  · unfold m_law_pull
    rw [if_pos ⟨h, h', hi⟩]
  · unfold pullV
    split
    · split
      · split
        · exact ⟨(mix_lt h).1, (mix_lt h).2, by show 0 ≤ b.i + 1; omega⟩
        · exact ⟨Int.emod_nonneg _ (by omega), Int.emod_lt_of_pos _ h, by show 0 ≤ b.i + 1; omega⟩
      · exact ⟨(mix_lt h).1, (mix_lt h).2, by show 0 ≤ b.i + 1; omega⟩
    · exact ⟨Int.emod_nonneg _ (by omega), Int.emod_lt_of_pos _ h, hi⟩
def sp_law_pull (T : Cs) (K : PySem.W.Frag) : Sp := fun vs H Q E => ∃ (A : Hp) (R : List Hp) (m_bag_here : Hp) (v_bag_here : V) (x_bag_here : Bag) (x_many : Int), vs = [v_bag_here, (.int x_many)] ∧ St H (A :: m_bag_here :: R) ∧ Ob.isAt A m_bag_here v_bag_here x_bag_here ∧ (m_law_pull x_bag_here x_many).wp (fun y => ∀ (A' H' : Hp) (m0 : Hp), Same A A' → St H' (A' :: m0 :: R) → Ob.isAt A' m0 v_bag_here y.2 → Q (.int y.1) H') (fun _ _ => False)
/-- the script -/
def Scr (K : PySem.W.Frag) (A : Hp) (v : V) (ns : List Int) : Prop := ∃ a, v = .ref a ∧ SqL K A a (ns.map V.int) ∧ ns.length ≤ 63
theorem upS {K : PySem.W.Frag} {A B : Hp} {v : V} {ns : List Int} (h : Scr K A v ns) (e : Same A B) : Scr K B v ns := by
  obtain ⟨a, h1, h2, h3⟩ := h
  exact ⟨a, h1, e.seq h2, h3⟩
theorem c_sliceS {K : PySem.W.Frag} {A H : Hp} {R : List Hp} {v : V} {ns : List Int} {lo hi : Option Int} {Q : VK} (S : St H (A :: R)) (h : Scr K A v ns) (k : RawL A H Q (cutL ns lo hi)) : rSlL K v lo hi H Q := by
  obtain ⟨a, rfl, h2, h3⟩ := h
  refine ⟨a, _, rfl, S.1.seq h2, fun p hp => ?_⟩
  have e : cutV (ns.map V.int) lo hi = (cutL ns lo hi).map V.int := by
    unfold cutV cutL
    rw [List.length_map, List.map_take, List.map_drop]
  rw [e]
  refine k p _ hp (int_ol ?_)
  unfold cutL
  rw [List.length_take, List.length_drop]
  have : 63 ≤ sizeLine := by decide
  omega
theorem c_bag {A H : Hp} {R : List Hp} {u : V} {l : List Int} {i c s : Int} {Q : VK} (S : St H (A :: R)) (h : Is A u l) (k : ∀ p m H', St H' (A :: m :: R) → Ob.isAt A m (.ref p) (Bag.mk l i c s) → Q (.ref p) H') :
    NewL Q [u, .int i, .int c, .int s] H :=
  ⟨Nat.le_of_lt (small1000 (show 4 ≤ 1000 by decide)), fun p hp => k p _ _ (S.newM hp) ⟨p, u, rfl, rfl, h⟩⟩
/-- an item of a bag -/
abbrev tBx (K : PySem.W.Frag) (k : Int) : TE := tOp (rIxL K) (tVar 0) (tC (.int k))
abbrev rdMul (a b : TE) : TE := tOp (rI CMul fun i j => .int (i * j)) a b
abbrev rdAdd (a b : TE) : TE := tOp (rI0 fun i j => .int (i + j)) a b
abbrev rdMod (a b : TE) : TE := tOp (rI (fun _ j => 0 < j) fun i j => .int (i % j)) a b
abbrev rdDiv (a b : TE) : TE := tOp (rI CDiv fun i j => .int (i / j)) a b
abbrev rdLen (K : PySem.W.Frag) : TE := tCB (Evl.rLenS K) (tCons (tBx K 0) tNil)
def rd_pull_mix (K : PySem.W.Frag) : TS := tSeq (tAsg (rdMod (rdAdd (rdAdd (rdMul (tVar 2) (tC (.int 48271))) (rdMul (tBx K 1) (tC (.int 16807)))) (tC (.int 11))) (tC (.int 2147483647))) (gName 3))
  (tSeq (tAsg (rdMod (rdMul (tVar 3) (tVar 3)) (tC (.int 2147483629))) (gName 3))
  (tRet (rdMod (rdDiv (rdMod (rdMul (rdAdd (tVar 3) (tBx K 1)) (tC (.int 69621))) (tC (.int 998244353))) (tC (.int 13))) (tVar 1))))
def rd_pull_end (K : PySem.W.Frag) : TS := tSeq (tAsg (rdMod (tBx K 2) (tVar 1)) (gName 4)) (tSeq (tAsg (rdDiv (tBx K 2) (tVar 1)) (gSub (tVar 0) (tC (.int 2)) rSetL)) (tRet (tVar 4)))
def rd_law_pull (T : Cs) (K : PySem.W.Frag) (E : XK) : TS := tSeq (tIfS (tTest (tOp (rI0 fun i j => .bl (decide (i ≤ j))) (tBx K 2) (tC (.int 1))))
    (tSeq (tAugS (tVar 0) (tC (.int 1)) (tC (.int 1)) (rIxL K) (ipI fun i j => i + j) rSetL)
    (tSeq (tAsg (tBx K 3) (gName 2))
    (tSeq (tIfS (tTest (tOp (rI0 fun i j => .bl (decide (i ≤ j))) (tBx K 1) (rdLen K))) (tAsg (tOp (rIxL K) (tBx K 0) (tOp (rI0 fun i j => .int (i - j)) (tBx K 1) (tC (.int 1)))) (gName 2)) tNext)
    (tSeq (tIfS (tOr (tTest (tOp (rI0 fun i j => .bl (decide (j < i))) (tBx K 1) (rdLen K))) (tTest (tOp (rI0 fun i j => .bl (decide (i < j))) (tVar 2) (tOp (rI CPow fun i j => .int (i ^ j.toNat)) (tC (.int 10)) (tC (.int 18)))))) (rd_pull_mix K) tNext)
    (tAsg (tVar 2) (gSub (tVar 0) (tC (.int 2)) rSetL)))))) tNext) (rd_pull_end K)
section
variable {K : PySem.W.Frag} {H : Hp} {p : Addr} {u a b c : V} {Q : VK} {σ : L2.St}
theorem bx0 (hs : σ[0]? = some (some (.ref p))) (hp : H p = some (.lst [u, a, b, c])) (h : Q u H) : tBx K 0 σ H Q := ⟨_, hs, p, _, 0, u, rfl, rfl, SqL.of hp, rfl, h⟩
theorem bx1 (hs : σ[0]? = some (some (.ref p))) (hp : H p = some (.lst [u, a, b, c])) (h : Q a H) : tBx K 1 σ H Q := ⟨_, hs, p, _, 1, a, rfl, rfl, SqL.of hp, rfl, h⟩
theorem bx2 (hs : σ[0]? = some (some (.ref p))) (hp : H p = some (.lst [u, a, b, c])) (h : Q b H) : tBx K 2 σ H Q := ⟨_, hs, p, _, 2, b, rfl, rfl, SqL.of hp, rfl, h⟩
theorem bx3 (hs : σ[0]? = some (some (.ref p))) (hp : H p = some (.lst [u, a, b, c])) (h : Q c H) : tBx K 3 σ H Q := ⟨_, hs, p, _, 3, c, rfl, rfl, SqL.of hp, rfl, h⟩
end
theorem small64 {n : Int} (h0 : -4294967296 < n) (h1 : n < 4294967296) : -(2 ^ 64) < n ∧ n < 2 ^ 64 := by
  have e : (2 : Int) ^ 64 = 18446744073709551616 := by decide
  rw [e]
  omega
theorem pull_end {K : PySem.W.Frag} {H A : Hp} {R : List Hp} {p : Addr} {u y2 y3 y4 : V} {o2 o3 o4 : Option V} {D : Ends} {i c s many : Int} (hm : 0 < many) (hm' : many < 1073741824) (S : St H (A :: one p (.lst [u, .int i, .int c, .int s]) :: R))
    (k : ∀ H', St H' (A :: one p (.lst [u, .int i, .int (c / many), .int s]) :: R) → D.rt (.int (c % many)) H') : rd_pull_end K D [some (.ref p), some (.int many), o2, o3, o4] H := by
  have hp := S.second _ _ one_same
  unfold rd_pull_end
  refine q_asg (c_op (bx2 rfl hp (c_var rfl (c_I hm ?_))))
  refine q_seq ?_
  refine c_op (bx2 (p := p) rfl hp (c_var rfl (c_I ⟨hm, hm'⟩ ?_)))
  refine ⟨_, rfl, p, _, 2, 2, rfl, rfl, hp, rfl, ?_⟩
  refine s_ret (c_var rfl (k _ S.wr1))
theorem pull_mix {K : PySem.W.Frag} {H A : Hp} {R : List Hp} {p : Addr} {u : V} {o3 o4 : Option V} {D : Ends} {x i c s many : Int} (hm : 0 < many) (S : St H (A :: one p (.lst [u, .int i, .int c, .int s]) :: R))
    (k : D.rt (.int (mixV x i many)) H) : rd_pull_mix K D [some (.ref p), some (.int many), some (.int x), o3, o4] H := by
  have hp := S.second _ _ one_same
  unfold rd_pull_mix
  have b1 : ∀ y : Int, -(2 ^ 64) < y % 2147483647 ∧ y % 2147483647 < 2 ^ 64 := fun y => small64 (by have := Int.emod_nonneg y (b := 2147483647) (by decide); omega) (by have := Int.emod_lt_of_pos y (b := 2147483647) (by decide); omega)
  refine q_asg (c_op (c_op (c_op (c_op (c_var rfl (c_c (c_I (.inr ⟨by decide, by decide⟩) (c_op (bx1 rfl hp (c_c (c_I (.inr ⟨by decide, by decide⟩) (c_I0 (c_c (c_I0 (c_c (c_I (by decide) (?_)))))))))))))))))
  refine q_asg (c_op (c_op (c_var rfl (c_var rfl (c_I (.inl (b1 _)) (c_c (c_I (by decide) (?_))))))))
  refine s_ret (c_op (c_op (c_op (c_op (c_op (c_var rfl (bx1 (p := p) rfl hp (c_I0 (c_c (c_I (.inr ⟨by decide, by decide⟩) (c_c (c_I (by decide) (c_c (c_I ⟨by decide, by decide⟩ (c_var rfl (c_I hm (?_)))))))))))))))))
  exact k
theorem wk_law_pull {T : Cs} {K : PySem.W.Frag} {vs : List V} {H : Hp} {Q : VK} {E : XK} (h : sp_law_pull T K vs H Q E) : rd_law_pull T K E { nx := fun _ H' => Q .non H', rt := Q } (L2.start ["_law_bag_here", "_law_many", "_law_seed", "_law_mixed", "_law_drawn"] vs) H := by
  obtain ⟨A, R, m, v, bg, many, rfl, S, ⟨p, u, rfl, rfl, hu⟩, h⟩ := h
  unfold m_law_pull at h
  by_cases hc : 0 < many ∧ many < 1073741824 ∧ 0 ≤ bg.i
  case neg =>
    rw [if_neg hc] at h
    exact h.elim
  rw [if_pos hc] at h
  obtain ⟨hm, hm', hi⟩ := hc
  have h : ∀ (A' H' : Hp) (m0 : Hp), Same A A' → St H' (A' :: m0 :: R) → Ob.isAt A' m0 (V.ref p) (pullV bg many).2 → Q (.int (pullV bg many).1) H' := h
  have hp := S.second _ _ one_same
  show rd_law_pull T K E _ [some (.ref p), some (.int many), none, none, none] H
  unfold rd_law_pull
  refine q_when (c_tst (c_op (bx2 rfl hp (c_c (c_I0 (c_bl ?_))))))
  by_cases h1 : bg.c ≤ 1
  case neg =>
    rw [if_neg (by simpa using h1)]
    refine pull_end (y2 := u) (y3 := u) (y4 := u) hm hm' S fun H' S' => ?_
    have e : pullV bg many = (bg.c % many, { bg with c := bg.c / many }) := by unfold pullV; rw [if_neg h1]
    rw [e] at h
    exact h A H' _ (Same.refl _) S' ⟨p, u, rfl, rfl, hu⟩
  rw [if_pos (by simpa using h1)]
  refine q_seq ?_
  refine c_var rfl (c_c ⟨p, _, 1, _, rfl, rfl, SqL.of hp, rfl, c_c (c_ip ⟨p, _, 1, 1, rfl, rfl, hp, rfl, ?_⟩)⟩)
  have S1 : St (upd H p (.lst [u, .int (bg.i + 1), .int bg.c, .int bg.s])) (A :: one p (.lst [u, .int (bg.i + 1), .int bg.c, .int bg.s]) :: R) := S.wr1
  show tSeq _ _ _ _ (upd H p (.lst [u, .int (bg.i + 1), .int bg.c, .int bg.s]))
  generalize upd H p (.lst [u, .int (bg.i + 1), .int bg.c, .int bg.s]) = H1 at S1 ⊢
  have hp1 := S1.second _ _ one_same
  have hl : LA A H1 u bg.l := la_of S1 hu
  refine q_asg (bx3 rfl hp1 ?_)
  refine q_if (c_tst (c_op (bx1 (p := p) rfl hp1 (c_cb (c_cons (bx0 (p := p) rfl hp1 (c_nil (c_len hl (c_I0 (c_bl ?_))))))))))
  by_cases h2 : bg.i + 1 ≤ (bg.l.length : Int)
  · rw [if_pos (by simpa using h2)]
    obtain ⟨a, us, rfl, hu1, hu2⟩ := hl
    have hx : bg.l[bg.i.toNat]? = some (bg.l.getD bg.i.toNat 0) := by
      have hlt : bg.i.toNat < bg.l.length := by omega
      rw [List.getD_eq_getElem?_getD, List.getElem?_eq_getElem hlt]
      rfl
    have hxi : atI (bg.l.map V.int) (bg.i + 1 - 1) = some (V.int (bg.l.getD bg.i.toNat 0)) := by
      have e0 : bg.i + 1 - 1 = ((bg.i.toNat : Nat) : Int) := by omega
      rw [e0]
      refine atI_nat ?_
      rw [List.getElem?_map, hx]
      rfl
    rw [hu2.int] at hu1
    refine s_asg (c_op (bx0 (p := p) rfl hp1 (c_op (bx1 (p := p) rfl hp1 (c_c (c_I0 ⟨a, _, _, _, rfl, rfl, SqL.of hu1, hxi, ?_⟩))))))
    generalize hX : bg.l.getD bg.i.toNat 0 = X at *
    refine nx_mk ?_
    refine q_if (c_or (c_tst (c_op (bx1 (p := p) rfl hp1 (c_cb (c_cons (bx0 (p := p) rfl hp1 (c_nil (c_len (A := A) (xs := bg.l) ⟨a, _, rfl, hu1, int_ol hu2.2⟩ (c_I0 (c_bl ?_)))))))))))
    rw [if_neg (by simpa using h2)]
    refine c_tst (c_op (c_var rfl (c_op (c_c (c_c (c_I ⟨by decide, by decide, by decide⟩ (c_I0 (c_bl ?_))))))))
    by_cases h3 : X < 10 ^ 18
    · rw [if_pos (by simpa using h3)]
      refine pull_mix hm S1 ?_
      have e : pullV bg many = (mixV X (bg.i + 1) many, { bg with i := bg.i + 1 }) := by unfold pullV; rw [if_pos h1, dif_pos h2, hX, if_pos h3]
      rw [e] at h
      exact h A H1 _ (Same.refl _) S1 ⟨p, _, rfl, rfl, hu⟩
    · rw [if_neg (by simpa using h3)]
      refine s_next (nx_mk ?_)
      refine c_var (i := 2) rfl ⟨_, rfl, p, _, 2, 2, rfl, rfl, hp1, rfl, ?_⟩
      refine nx_mk ?_
      refine pull_end (y2 := V.non) (y3 := V.non) (y4 := V.non) hm hm' S1.wr1 fun H' S' => ?_
      have e : pullV bg many = (X % many, { bg with i := bg.i + 1, c := X / many }) := by unfold pullV; rw [if_pos h1, dif_pos h2, hX, if_neg h3]
      rw [e] at h
      exact h A H' _ (Same.refl _) S' ⟨p, _, rfl, rfl, hu⟩
  · rw [if_neg (by simpa using h2)]
    refine s_next (nx_mk ?_)
    refine q_if (c_or (c_tst (c_op (bx1 (p := p) rfl hp1 (c_cb (c_cons (bx0 (p := p) rfl hp1 (c_nil (c_len hl (c_I0 (c_bl ?_)))))))))))
    rw [if_pos (by simp; omega)]
    rw [if_pos rfl]
    refine pull_mix hm S1 ?_
    have e : pullV bg many = (mixV bg.s (bg.i + 1) many, { bg with i := bg.i + 1 }) := by unfold pullV; rw [if_pos h1, dif_neg h2]
    rw [e] at h
    exact h A H1 _ (Same.refl _) S1 ⟨p, _, rfl, rfl, hu⟩
end SB

namespace SB
open PySem PySem.Spec PyProof.Rows L2 Res
/-! ## mirrors that end well -/
section
variable {ω ω' α β γ σT : Type}
def Okk (m : Res ω α) (P : α → Prop) : Prop := ∃ a, m = .ok a ∧ P a
theorem okk_ok {a : α} {P : α → Prop} (h : P a) : Okk (.ok a : Res ω α) P := ⟨a, rfl, h⟩
theorem okk_bind {m : Res ω α} {f : α → Res ω β} {P : α → Prop} {Q : β → Prop} (h : Okk m P) (k : ∀ a, P a → Okk (f a) Q) : Okk (Res.bind m f) Q := by
  obtain ⟨a, rfl, h⟩ := h
  exact k a h
theorem okk_noex {m : Res ω' α} {P : α → Prop} (h : Okk m P) : Okk (Res.noex m : Res ω α) P := by
  obtain ⟨a, rfl, h⟩ := h
  exact ⟨a, rfl, h⟩
theorem okk_lift {g : ω' → ω} {m : Res ω' α} {P : α → Prop} (h : Okk m P) : Okk (Res.lift g m) P := by
  obtain ⟨a, rfl, h⟩ := h
  exact ⟨a, rfl, h⟩
theorem okk_mono {m : Res ω α} {P Q : α → Prop} (h : Okk m P) (k : ∀ a, P a → Q a) : Okk m Q := by
  obtain ⟨a, e, h⟩ := h
  exact ⟨a, e, k a h⟩
theorem okk_eq {m : Res ω α} {a : α} {P : α → Prop} (e : m = .ok a) (h : P a) : Okk m P := ⟨a, e, h⟩
theorem okk_is {m : Res ω α} {a : α} (h : Okk m (· = a)) : m = .ok a := by
  obtain ⟨b, e, rfl⟩ := h
  exact e
theorem okk_st {m : Res ω α} {f : α → Res ω β} {a : α} {Q : β → Prop} (e : m = .ok a) (k : Okk (f a) Q) : Okk (Res.bind m f) Q := by
  rw [e]
  exact k
theorem okk_stN {m : Res ω' α} {f : α → Res ω β} {a : α} {Q : β → Prop} (e : m = .ok a) (k : Okk (f a) Q) : Okk (Res.bind (Res.noex m) f) Q := by
  rw [e]
  exact k
theorem okk_stL {m : Res ω' α} {g : ω' → ω} {f : α → Res ω β} {a : α} {Q : β → Prop} (e : m = .ok a) (k : Okk (f a) Q) : Okk (Res.bind (Res.lift g m) f) Q := by
  rw [e]
  exact k
theorem okk_no {c : Bool} {m n : Res ω α} {P : α → Prop} (h : c = false) (k : Okk n P) : Okk (if c = true then m else n) P := by
  rw [h]
  exact k
theorem okk_yes {c : Bool} {m n : Res ω α} {P : α → Prop} (h : c = true) (k : Okk m P) : Okk (if c = true then m else n) P := by
  rw [h]
  exact k
theorem or_no {c : Bool} {m : Res ω Bool} (h : c = false) : orR c m = m := by
  rw [h]
  rfl
theorem and_yes {c : Bool} {m : Res ω Bool} (h : c = true) : andR c m = m := by
  rw [h]
  rfl
theorem st_st {m : Res ω α} {f : α → Res ω β} {a : α} {b : β} (e : m = .ok a) (k : f a = .ok b) : Res.bind m f = .ok b := by
  rw [e]
  exact k
theorem st_N {m : Res ω' α} {f : α → Res ω β} {a : α} {b : β} (e : m = .ok a) (k : f a = .ok b) : Res.bind (Res.noex m) f = .ok b := by
  rw [e]
  exact k
theorem okk_if {c : Bool} {m n : Res ω α} {P : α → Prop} (h1 : c = true → Okk m P) (h2 : c = false → Okk n P) : Okk (if c = true then m else n) P := by
  cases c with
  | true => exact h1 rfl
  | false => exact h2 rfl
theorem okk_and {c : Bool} {m : Res ω Bool} {P : Bool → Prop} (h1 : c = true → Okk m P) (h2 : c = false → P false) : Okk (andR c m) P := by
  cases c with
  | true => exact h1 rfl
  | false => exact ⟨false, rfl, h2 rfl⟩
theorem okk_or {c : Bool} {m : Res ω Bool} {P : Bool → Prop} (h1 : c = true → P true) (h2 : c = false → Okk m P) : Okk (orR c m) P := by
  cases c with
  | true => exact ⟨true, rfl, h1 rfl⟩
  | false => exact h2 rfl
theorem okk_andS {c : Bool} {s : σT} {m : Res ω (Bool × σT)} {P : Bool × σT → Prop} (h1 : c = true → Okk m P) (h2 : c = false → P (false, s)) : Okk (andS c s m) P := by
  cases c with
  | true => exact h1 rfl
  | false => exact ⟨_, rfl, h2 rfl⟩
theorem okk_orS {c : Bool} {s : σT} {m : Res ω (Bool × σT)} {P : Bool × σT → Prop} (h1 : c = true → P (true, s)) (h2 : c = false → Okk m P) : Okk (orS c s m) P := by
  cases c with
  | true => exact ⟨_, rfl, h1 rfl⟩
  | false => exact h2 rfl
theorem ix_eq {xs : List α} {i : Int} {x : α} (h : atI xs i = some x) : (ixR xs i : Res ω α) = .ok x := by
  unfold ixR
  rw [h]
theorem atI_of {xs : List α} {i : Int} (h0 : 0 ≤ i) (h1 : i < (xs.length : Int)) : atI xs i = xs[i.toNat]? := by
  unfold atI ixN
  rw [if_pos h0, if_pos h1]
  rfl
theorem okk_ix {xs : List α} {i : Int} {P : α → Prop} (h0 : 0 ≤ i) (h1 : i < (xs.length : Int)) (h : ∀ x, xs[i.toNat]? = some x → P x) : Okk (ixR xs i : Res ω α) P := by
  have hlt : i.toNat < xs.length := by omega
  exact ⟨xs[i.toNat], ix_eq (by rw [atI_of h0 h1, List.getElem?_eq_getElem hlt]), h _ (List.getElem?_eq_getElem hlt)⟩
theorem okk_mem {xs : List α} {i : Int} {P : α → Prop} (h0 : 0 ≤ i) (h1 : i < (xs.length : Int)) (h : ∀ x ∈ xs, P x) : Okk (ixR xs i : Res ω α) P :=
  okk_ix h0 h1 fun x e => h x (List.mem_of_getElem? e)
theorem mul_eq {a b : Int} (h : (-(2 ^ 64) < a ∧ a < 2 ^ 64) ∨ (-(2 ^ 64) < b ∧ b < 2 ^ 64)) : (mulR a b : Res ω Int) = .ok (a * b) := by
  unfold mulR
  rw [if_pos h]
theorem mod_eq {a b : Int} (h : 0 < b) : (modR a b : Res ω Int) = .ok (a % b) := by
  unfold modR
  rw [if_pos h]
theorem div_eq {a b : Int} (h : 0 < b ∧ b < 1073741824) : (divR a b : Res ω Int) = .ok (a / b) := by
  unfold divR
  rw [if_pos h]
theorem size_big : (16777216 : Nat) ≤ sizeLine := by decide
theorem cat_eq {xs ys : List α} (h : xs.length + ys.length ≤ 16777216) : (catR xs ys : Res ω (List α)) = .ok (xs ++ ys) := by
  unfold catR
  rw [if_pos (Nat.le_trans h size_big)]
theorem app_eq {xs : List α} {x : α} (h : xs.length < 16777216) : (appR xs x : Res ω (List α)) = .ok (xs ++ [x]) := by
  unfold appR
  rw [if_pos (Nat.lt_of_lt_of_le h size_big)]
theorem rg_eq {lo hi : Int} (h : -4000000000 ≤ lo ∧ lo ≤ 4000000000 ∧ -4000000000 ≤ hi ∧ hi ≤ 4000000000) : (rgR lo hi : Res ω (List Int)) = .ok (rangeL lo hi) := by
  unfold rgR
  have e : (2 : Int) ^ 62 = 4611686018427387904 := by decide
  rw [e, if_pos (by omega)]
theorem rl_eq {n : Int} (h : -1000000 ≤ n ∧ n ≤ 1000000) : (rlR n : Res ω (List Int)) = .ok (rangeL 0 n) := by
  unfold rlR
  rw [if_pos ⟨h.2, h.1⟩]
theorem mem_range {lo hi x : Int} : x ∈ rangeL lo hi ↔ lo ≤ x ∧ x < hi := by
  unfold rangeL
  rw [List.mem_map]
  constructor
  · rintro ⟨i, hi, rfl⟩
    rw [List.mem_range] at hi
    omega
  · rintro ⟨h1, h2⟩
    exact ⟨(x - lo).toNat, List.mem_range.mpr (by omega), by omega⟩
theorem range_len (lo hi : Int) : (rangeL lo hi).length = (hi - lo).toNat := by
  unfold rangeL
  rw [List.length_map, List.length_range]
/-- a loop, by what holds of the part taken and the state -/
theorem okk_for {body : α → σT → Res ω (Fl β σT)} {Qr : β → Prop} (I : List α → σT → Prop) : ∀ (xs pre : List α) (s : σT), I pre s →
    (∀ p x r s, pre ++ xs = p ++ x :: r → I p s → Okk (body x s) (fun f => match f with | .next s' => I (p ++ [x]) s' | .ret y => Qr y)) →
    Okk (forM body xs s) (fun f => match f with | .next s' => I (pre ++ xs) s' | .ret y => Qr y)
  | [], pre, s, h0, _ => ⟨.next s, rfl, by
      show I (pre ++ []) s
      rw [List.append_nil]
      exact h0⟩
  | x :: xs, pre, s, h0, step => by
    obtain ⟨f, e, hf⟩ := step pre x xs s rfl h0
    unfold forM
    rw [e]
    cases f with
    | ret y => exact ⟨.ret y, rfl, hf⟩
    | next s' =>
      have ih := okk_for I xs (pre ++ [x]) s' hf (fun p y r s hp hI => step p y r s (by rw [← hp, List.append_assoc]; rfl) hI)
      rw [List.append_assoc] at ih
      exact ih
/-- a loop that never hands back -/
theorem okk_loop {body : α → σT → Res ω (Fl β σT)} {xs : List α} {s : σT} {Q : Fl β σT → Prop} (I : List α → σT → Prop) (h0 : I [] s)
    (step : ∀ p x r s, xs = p ++ x :: r → I p s → Okk (body x s) (fun f => ∃ s', f = .next s' ∧ I (p ++ [x]) s')) (done : ∀ s, I xs s → Q (.next s)) : Okk (forM body xs s) Q := by
  refine okk_mono (okk_for (Qr := fun _ => False) I xs [] s h0 fun p x r s e h => okk_mono (step p x r s e h) fun f hf => ?_) fun f hf => ?_
  · obtain ⟨s', rfl, h⟩ := hf
    exact h
  · cases f with
    | next s' => exact done s' hf
    | ret y => exact hf.elim
/-- a loop whose state is any that fits, turn by turn -/
theorem okk_each {body : α → σT → Res ω (Fl β σT)} {xs : List α} {s : σT} {Q : Fl β σT → Prop} (I : σT → Prop) (h0 : I s)
    (step : ∀ x s, x ∈ xs → I s → Okk (body x s) (fun f => ∃ s', f = .next s' ∧ I s')) (done : ∀ s, I s → Q (.next s)) : Okk (forM body xs s) Q :=
  okk_loop (fun _ => I) h0 (fun p x r s e h => step x s (by rw [e]; simp) h) done
/-- a comprehension: what holds of its items, and the objects' state -/
theorem okk_comp {body : α → σT → Res ω (Option β × σT)} (I : σT → Prop) (P : β → Prop) : ∀ (xs : List α) (s : σT), I s →
    (∀ x s, x ∈ xs → I s → Okk (body x s) (fun r => (∀ y, r.1 = some y → P y) ∧ I r.2)) → Okk (compG body xs s) (fun y => (∀ b ∈ y.1, P b) ∧ y.1.length ≤ xs.length ∧ I y.2)
  | [], s, h0, _ => ⟨([], s), rfl, fun _ h => (nomatch h), Nat.le_refl _, h0⟩
  | x :: xs, s, h0, step => by
    obtain ⟨⟨r, s'⟩, e, h1, h2⟩ := step x s List.mem_cons_self h0
    obtain ⟨y, e2, h3, h4, h5⟩ := okk_comp I P xs s' h2 fun z s hz hs => step z s (List.mem_cons_of_mem _ hz) hs
    unfold compG
    rw [e]
    show Okk (Res.bind (compG body xs s') _) _
    rw [e2]
    cases r with
    | none => exact ⟨y, rfl, h3, Nat.le_succ_of_le h4, h5⟩
    | some b => exact ⟨(b :: y.1, y.2), rfl, fun c hc => by
        cases hc with
        | head => exact h1 _ rfl
        | tail _ hc => exact h3 c hc, Nat.succ_le_succ h4, h5⟩
theorem comp_eq {body : α → Unit → Res ω (Option β × Unit)} {g : α → Option β} : ∀ (xs : List α), (∀ x ∈ xs, body x () = .ok (g x, ())) → compG body xs () = .ok (xs.filterMap g, ())
  | [], _ => rfl
  | x :: xs, h => by
    unfold compG
    rw [h x List.mem_cons_self, List.filterMap_cons]
    show Res.bind (compG body xs ()) _ = _
    rw [comp_eq xs fun y hy => h y (List.mem_cons_of_mem _ hy)]
    cases g x <;> rfl
/-- a loop that folds -/
theorem for_fold {body : α → σT → Res ω (Fl β σT)} {f : σT → α → σT} (I : List α → σT → Prop) : ∀ (xs pre : List α) (s : σT), I pre s → (∀ p x r s, pre ++ xs = p ++ x :: r → I p s → body x s = .ok (.next (f s x)) ∧ I (p ++ [x]) (f s x)) →
    forM body xs s = .ok (.next (xs.foldl f s))
  | [], pre, s, h0, _ => rfl
  | x :: xs, pre, s, h0, step => by
    obtain ⟨e, h1⟩ := step pre x xs s rfl h0
    unfold forM
    rw [e]
    show forM body xs (f s x) = _
    exact for_fold I xs (pre ++ [x]) (f s x) h1 fun p y r s hp hI => step p y r s (by rw [← hp, List.append_assoc]; rfl) hI
end

/-! ## sums -/
def Sm (l : List Int) : Prop := l.Pairwise (· < ·)
instance (l : List Int) : Decidable (Sm l) := inferInstanceAs (Decidable (l.Pairwise (· < ·)))
def joinF (a b : List Int) : List Int := sortI (a.filter (fun x => !decide (x ∈ b)) ++ b.filter (fun x => !decide (x ∈ a)))
theorem mem_sort {x : Int} {l : List Int} : x ∈ sortI l ↔ x ∈ l := (sortI_perm l).mem_iff
theorem mem_join {x : Int} {a b : List Int} : x ∈ joinF a b ↔ (x ∈ a ∧ x ∉ b) ∨ (x ∈ b ∧ x ∉ a) := by
  unfold joinF
  rw [mem_sort, List.mem_append, List.mem_filter, List.mem_filter]
  simp
theorem Sm.nodup {l : List Int} (h : Sm l) : l.Nodup := List.Pairwise.imp (fun h => Int.ne_of_lt h) h
theorem sm_of {l : List Int} (h1 : l.Pairwise (· ≤ ·)) (h2 : l.Nodup) : Sm l := by
  unfold Sm
  have := List.pairwise_and_iff.mpr ⟨h1, h2⟩
  exact this.imp fun ⟨a, b⟩ => by omega
theorem Sm.le {l : List Int} (h : Sm l) : l.Pairwise (· ≤ ·) := List.Pairwise.imp (fun h => Int.le_of_lt h) h
theorem perm_of {a b : List Int} (ha : a.Nodup) (hb : b.Nodup) (h : ∀ x, x ∈ a ↔ x ∈ b) : a.Perm b := by
  rw [List.perm_iff_count]
  intro x
  rw [ha.count, hb.count]
  by_cases hx : x ∈ a
  · rw [if_pos hx, if_pos ((h x).mp hx)]
  · rw [if_neg hx, if_neg fun z => hx ((h x).mpr z)]
theorem Sm.ext {a b : List Int} (ha : Sm a) (hb : Sm b) (h : ∀ x, x ∈ a ↔ x ∈ b) : a = b := sorted_eq (perm_of ha.nodup hb.nodup h) ha.le hb.le
theorem sm_sort {l : List Int} (h : l.Nodup) : Sm (sortI l) := sm_of (sortI_sorted l) ((sortI_perm l).nodup_iff.mpr h)
theorem sm_join {a b : List Int} (ha : Sm a) (hb : Sm b) : Sm (joinF a b) := by
  refine sm_sort (List.nodup_append.mpr ⟨ha.nodup.filter _, hb.nodup.filter _, fun x hx y hy => ?_⟩)
  rintro rfl
  simp at hx hy
  exact hy.2 hx.1
theorem join_len (a b : List Int) : (joinF a b).length ≤ a.length + b.length := by
  unfold joinF
  rw [(sortI_perm _).length_eq, List.length_append]
  exact Nat.add_le_add (List.length_filter_le _ _) (List.length_filter_le _ _)
theorem join_comm (a b : List Int) (ha : Sm a) (hb : Sm b) : joinF a b = joinF b a := (sm_join ha hb).ext (sm_join hb ha) fun x => by
  rw [mem_join, mem_join]
  exact Or.comm
theorem join_self (a : List Int) : joinF a a = [] := by
  apply List.eq_nil_iff_forall_not_mem.mpr
  intro x
  rw [mem_join]
  simp
theorem join_nil (a : List Int) (ha : Sm a) : joinF a [] = a := (sm_join ha .nil).ext ha fun x => by
  rw [mem_join]
  simp
theorem nil_join (a : List Int) (ha : Sm a) : joinF [] a = a := (sm_join .nil ha).ext ha fun x => by
  rw [mem_join]
  simp
theorem join_assoc (a b c : List Int) (ha : Sm a) (hb : Sm b) (hc : Sm c) : joinF (joinF a b) c = joinF a (joinF b c) :=
  (sm_join (sm_join ha hb) hc).ext (sm_join ha (sm_join hb hc)) fun x => by
    simp only [mem_join]
    by_cases h1 : x ∈ a <;> by_cases h2 : x ∈ b <;> by_cases h3 : x ∈ c <;> simp [h1, h2, h3]
theorem map_id_fun (l : List Int) : l.map (fun z => z) = l := List.map_id' l
end SB

namespace SB
open PySem PySem.Spec PyProof.Rows L2 Res
def topS (i : Nat) : Stmt := PySem.Challenge.pw_slimbody_k03_many_added.main.body.getD i (.Pass ⟨0, 0, 0, 0⟩)
structure Bi (mg : Str → Option Value) : Prop where
  len : mg "len" = none
  range : mg "range" = none
  sorted : mg "sorted" = none
  list : mg "list" = none
  isinstance : mg "isinstance" = none
  int : mg "int" = none
  bool : mg "bool" = none
@[irreducible] def m_law_bag (x_script : (List Int)) : Res Unit Bag := Res.bind (forM (β := Bag) (fun z16 (s21 : Int) => Res.bind (mulR s21 (1009 : Int)) fun t40 => Res.bind (modR ((s21 * (1009 : Int)) + z16) (1000003 : Int)) fun t41 => .ok (.next (((s21 * (1009 : Int)) + z16) % (1000003 : Int)))) (cutL x_script none (some (63 : Int))) ((cutL x_script none (some (63 : Int))).length : Int)) fun r63 => (match r63 with | .next s34 => .ok (Bag.mk (cutL x_script none (some (63 : Int))) (0 : Int) (0 : Int) s34) | .ret y64 => .ok y64)
def sp_law_bag (T : Cs) (K : PySem.W.Frag) : Sp := fun vs H Q E => ∃ (A : Hp) (R : List Hp) (v_script : V) (x_script : (List Int)), vs = [v_script] ∧ St H (A :: R) ∧ Scr K A v_script x_script ∧ (m_law_bag x_script).wp (fun y => ∀ (A' H' : Hp) (v : V) (m : Hp), Same A A' → St H' (A' :: m :: R) → Ob.isAt A' m v y → Q v H') (fun _ _ => False)
def rd_law_bag (T : Cs) (K : PySem.W.Frag) (E : XK) : TS := (tSeq (tAsg (tCB (Evl.rLenS K) (tCons (tSl (rSlL K) (tVar 0) tNoPart (tPart (tC (.int 63)))) tNil)) (gName 1)) (tSeq (tFor (iList K (tSl (rSlL K) (tVar 0) tNoPart (tPart (tC (.int 63))))) (gName 2) (tAsg (tOp (rI (fun _ j => 0 < j) fun i j => .int (i % j)) (tOp (rI0 fun i j => .int (i + j)) (tOp (rI CMul fun i j => .int (i * j)) (tVar 1) (tC (.int 1009))) (tVar 2)) (tC (.int 1000003))) (gName 1))) (tRet (tLst (tCons (tCB (Evl.rListS K) (tCons (tSl (rSlL K) (tVar 0) tNoPart (tPart (tC (.int 63)))) tNil)) (tCons (tC (.int 0)) (tCons (tC (.int 0)) (tCons (tVar 1) tNil))))))))
theorem wk_law_bag {T : Cs} {K : PySem.W.Frag} {vs : List V} {H : Hp} {Q : VK} {E : XK} (h : sp_law_bag T K vs H Q E) : rd_law_bag T K E { nx := fun _ H' => Q .non H', rt := Q } (L2.start ["_law_script", "_law_salt", "_law_one"] vs) H := by
  obtain ⟨A, R, v_script, x_script, rfl, S, h_script, h⟩ := h
  unfold m_law_bag at h
  unfold rd_law_bag
  have e0 : Same A A := Same.refl _
  refine q_asg ?_
  refine c_cb (c_cons (c_sl (c_var rfl (c_nopart (c_part (c_c (c_int (c_sliceS S h_script (ow S fun p1 ws2 H3 S4 h5 => ?_)))))))))
  refine c_nil (c_len ⟨_, _, rfl, (S4.mem _ (List.mem_of_getElem? (i := 1) rfl)) _ _ one_same, h5⟩ (?_))
  refine q_forL ?_
  refine c_sl (c_var rfl (c_nopart (c_part (c_c (c_int (c_sliceS S4 h_script (ow S4 fun p6 ws7 H8 S9 h10 => ?_)))))))
  have h12 := frz_is h10 S9
  have S13 := S9.frz
  have e11 := same_join_l (A := A) (B := (one p6 (.lst ws7)))
  generalize hjA14 : join A (one p6 (.lst ws7)) = A14 at h12 S13 e11
  clear hjA14
  have e0 := e0.trans e11
  have h_script := upS h_script e11
  refine c_forL (A := A14) (fun (A_ : Hp) (σ_ : L2.St) (R_ : List Hp) (s : Int) => ∃ (y_one15 : Option V), σ_ = [some v_script, some (.int s), y_one15] ∧ (one p1 (.lst ws2)) :: R = R_) S13 (fun Q' q => q) h12 ⟨_, rfl, rfl⟩ h (fun z16 w17 A18 H19 σ30 R20 s21 C22 N23 hz24 e25 S26 h27 hR28 hN29 h => ?_) (fun A31 H32 σ38 R33 s34 e35 S36 hR37 h => ?_)
  ·
    have eL39 : Same A14 A14 := Same.refl _
    obtain ⟨y_one15, rfl, rfl⟩ := hR28
    have e0 := e0.trans e25
    have eL39 := eL39.trans e25
    have h_script := upS h_script e25
    obtain rfl : w17 = (.int z16) := h27
    refine s_asg ?_
    refine c_op (c_op (c_op (c_var rfl (c_c (c_mul h fun h => ?_)))))
    refine c_var rfl (c_I0 (c_c (c_mod h fun h => ?_)))
    exact hN29 _ _ _ _ (((s21 * (1009 : Int)) + z16) % (1000003 : Int)) eL39 S26 ⟨_, rfl, rfl⟩ h
  ·
    refine nx_mk ?_
    obtain ⟨y_one15, rfl, rfl⟩ := hR37
    have e0 := e0.trans e35
    have h_script := upS h_script e35
    refine s_ret ?_
    refine c_tlst (c_cons (c_cb (c_cons (c_sl (c_var rfl (c_nopart (c_part (c_c (c_int (c_sliceS S36 h_script (ow S36 fun p42 ws43 H44 S45 h46 => ?_)))))))))))
    refine c_nil (c_list ⟨_, _, rfl, (S45.mem _ (List.mem_of_getElem? (i := 1) rfl)) _ _ one_same, h46⟩ (ow S45 fun p47 ws48 H49 S50 h51 => ?_))
    refine c_cons (c_c (c_cons (c_c (c_cons (c_var rfl (c_nil (?_)))))))
    have h53 := frz_is h51 S50
    have S54 := S50.frz
    have e52 := same_join_l (A := A31) (B := (one p47 (.lst ws48)))
    generalize hjA55 : join A31 (one p47 (.lst ws48)) = A55 at h53 S54 e52
    clear hjA55
    have e0 := e0.trans e52
    have h_script := upS h_script e52
    refine c_bag (l := (cutL x_script none (some (63 : Int)))) S54 h53 fun p56 m57 H58 S59 h60 => ?_
    have S61 : St H58 (A55 :: m57 :: (one p1 (.lst ws2)) :: R) := S59.drop 1 (Nat.le_of_ble_eq_true rfl)
    have S62 : St H58 (A55 :: m57 :: R) := S61.drop 1 (Nat.le_of_ble_eq_true rfl)
    exact h (A55) (H58) ((.ref p56)) (m57) e0 S62 h60
abbrev s_law_bag : Stmt := topS 11
theorem sc_law_bag : FnScope ["_law_script", "_law_salt", "_law_one"] ["_law_script"] (defScope s_law_bag) := ⟨rfl, rfl, rfl, by decide +kernel, rfl, by decide +kernel, by decide +kernel⟩
theorem ok_law_bag {P : Program} {w : World} {K : PySem.W.Frag} {mg : Str → Option Value} {base : Heap} {T : Cs} {f : Addr} {fd : FuncData}  (F : Fun K "_law_bag" "_law_bag" s_law_bag f fd) (bi : Bi mg)   : FnOk P w K mg base CX0 1 f fd ["_law_script"] (sp_law_bag T K) := by
  refine F.ok sc_law_bag (fun vs H Q E h => ?_) (fun cdv A outer s H vs Q E hr h => ⟨rd_law_bag T K E, ?_, wk_law_bag h⟩)
  · obtain ⟨_, _, _, _, rfl, _⟩ := h
    rfl
  · exact (pss_cons (ps_set (i := 1) sc_law_bag.nd rfl (Or.inl rfl) (pe_callB call_len_seq (by rfl) bi.len PySem.boot_len (pa_cons (pe_slice sl_list (pv 0) po_none (po_some pe_int)) pa_nil)))
      (pss_cons (ps_for PassesOwn.never rfl (pi_list (pe_slice sl_list (pv 0) po_none (po_some pe_int))) (pg_name (i := 2) sc_law_bag.nd rfl (Or.inl rfl)) (pss_one (ps_set (i := 1) sc_law_bag.nd rfl (Or.inl rfl) (pe_op op_mod (pe_op op_add (pe_op op_mul (pv 1) pe_int) (pv 2)) pe_int))))
      (pss_one (ps_ret (pe_lst (pa_cons (pe_callTy call_list_of (by rfl) bi.list boot_list (pa_cons (pe_slice sl_list (pv 0) po_none (po_some pe_int)) pa_nil)) (pa_cons pe_int (pa_cons pe_int (pa_cons (pv 1) pa_nil)))))))))
abbrev s_law_pull : Stmt := topS 12
theorem sc_law_pull : FnScope ["_law_bag_here", "_law_many", "_law_seed", "_law_mixed", "_law_drawn"] ["_law_bag_here", "_law_many"] (defScope s_law_pull) := ⟨rfl, rfl, rfl, by decide +kernel, rfl, by decide +kernel, by decide +kernel⟩
theorem ok_law_pull {P : Program} {w : World} {K : PySem.W.Frag} {mg : Str → Option Value} {base : Heap} {T : Cs} {f : Addr} {fd : FuncData}  (F : Fun K "_law_pull" "_law_pull" s_law_pull f fd) (bi : Bi mg)   : FnOk P w K mg base CX0 1 f fd ["_law_bag_here", "_law_many"] (sp_law_pull T K) := by
  refine F.ok sc_law_pull (fun vs H Q E h => ?_) (fun cdv A outer s H vs Q E hr h => ⟨rd_law_pull T K E, ?_, wk_law_pull h⟩)
  · obtain ⟨_, _, _, _, _, _, rfl, _⟩ := h
    rfl
  · exact (pss_cons (ps_if (pt_cmpR op_le (pe_ix ix_list (pv 0) pe_int (fun _ _ => rfl)) pe_int (nomark _)) (pss_cons (ps_augS (pv 0) pe_int get_list pe_int ip_add set_list) (pss_cons (ps_set (i := 2) sc_law_pull.nd rfl (Or.inl rfl) (pe_ix ix_list (pv 0) pe_int (fun _ _ => rfl))) (pss_cons (ps_if (pt_cmpR op_le (pe_ix ix_list (pv 0) pe_int (fun _ _ => rfl)) (pe_callB call_len_seq (by rfl) bi.len PySem.boot_len (pa_cons (pe_ix ix_list (pv 0) pe_int (fun _ _ => rfl)) pa_nil)) (nomark _)) (pss_one (ps_set (i := 2) sc_law_pull.nd rfl (Or.inl rfl) (pe_ix ix_list (pe_ix ix_list (pv 0) pe_int (fun _ _ => rfl)) (pe_op op_sub (pe_ix ix_list (pv 0) pe_int (fun _ _ => rfl)) pe_int) (fun _ _ => rfl)))) pss_nil) (pss_cons (ps_if (PW.pt (pw_or (pt_cmpR op_gt (pe_ix ix_list (pv 0) pe_int (fun _ _ => rfl)) (pe_callB call_len_seq (by rfl) bi.len PySem.boot_len (pa_cons (pe_ix ix_list (pv 0) pe_int (fun _ _ => rfl)) pa_nil)) (nomark _)) (pw_or1 (pt_cmpR op_lt (pv 2) (pe_op op_pow pe_int pe_int) (nomark _))))) (pss_cons (ps_set (i := 3) sc_law_pull.nd rfl (Or.inl rfl) (pe_op op_mod (pe_op op_add (pe_op op_add (pe_op op_mul (pv 2) pe_int) (pe_op op_mul (pe_ix ix_list (pv 0) pe_int (fun _ _ => rfl)) pe_int)) pe_int) pe_int)) (pss_cons (ps_set (i := 3) sc_law_pull.nd rfl (Or.inl rfl) (pe_op op_mod (pe_op op_mul (pv 3) (pv 3)) pe_int)) (pss_one (ps_ret (pe_op op_mod (pe_op op_fdiv (pe_op op_mod (pe_op op_mul (pe_op op_add (pv 3) (pe_ix ix_list (pv 0) pe_int (fun _ _ => rfl))) pe_int) pe_int) pe_int) (pv 1)))))) pss_nil) (pss_one (ps_asg (pv 2) (pg_sub (pv 0) pe_int set_list))))))) pss_nil) (pss_cons (ps_set (i := 4) sc_law_pull.nd rfl (Or.inl rfl) (pe_op op_mod (pe_ix ix_list (pv 0) pe_int (fun _ _ => rfl)) (pv 1))) (pss_cons (ps_asg (pe_op op_fdiv (pe_ix ix_list (pv 0) pe_int (fun _ _ => rfl)) (pv 1)) (pg_sub (pv 0) pe_int set_list)) (pss_one (ps_ret (pv 4))))))
@[irreducible] def m_law_scale (x_bag_here : Bag) : Res Bag (Int × Bag) := Res.bind (Res.noex (m_law_pull x_bag_here (5 : Int))) fun y8 => Res.bind (ixR [(1 : Int), (1 : Int), (1 : Int), (1000003 : Int), ((10 : Int) ^ (30 : Int).toNat)] y8.1) fun t15 => .ok (t15, y8.2)
def sp_law_scale (T : Cs) (K : PySem.W.Frag) : Sp := fun vs H Q E => ∃ (A : Hp) (R : List Hp) (m_bag_here : Hp) (v_bag_here : V) (x_bag_here : Bag), vs = [v_bag_here] ∧ St H (A :: m_bag_here :: R) ∧ Ob.isAt A m_bag_here v_bag_here x_bag_here ∧ (m_law_scale x_bag_here).wp (fun y => ∀ (A' H' : Hp) (m0 : Hp), Same A A' → St H' (A' :: m0 :: R) → Ob.isAt A' m0 v_bag_here y.2 → Q (.int y.1) H') (fun _ _ => False)
def rd_law_scale (T : Cs) (K : PySem.W.Frag) (E : XK) : TS := (tRet (tOp (rIxL K) (tLst (tCons (tC (.int 1)) (tCons (tC (.int 1)) (tCons (tC (.int 1)) (tCons (tC (.int 1000003)) (tCons (tOp (rI CPow fun i j => .int (i ^ j.toNat)) (tC (.int 10)) (tC (.int 30))) tNil)))))) (tCall (sp_law_pull T K) [] E0 (tCons (tVar 0) (tCons (tC (.int 5)) tNil)))))
theorem wk_law_scale {T : Cs} {K : PySem.W.Frag} {vs : List V} {H : Hp} {Q : VK} {E : XK} (h : sp_law_scale T K vs H Q E) : rd_law_scale T K E { nx := fun _ H' => Q .non H', rt := Q } (L2.start ["_law_bag_here"] vs) H := by
  obtain ⟨A, R, m_bag_here, v_bag_here, x_bag_here, rfl, S, h_bag_here, h⟩ := h
  unfold m_law_scale at h
  unfold rd_law_scale
  have e0 : Same A A := Same.refl _
  refine s_ret ?_
  refine c_op (c_tlst (c_cons (c_c (c_cons (c_c (c_cons (c_c (c_cons (c_c (c_cons (c_op (c_c (c_c (c_I ⟨by decide, by decide, by decide⟩ (c_nil (c_lst (α := Int) (vs := [(.int 1), (.int 1), (.int 1), (.int 1000003), (.int ((10 : Int) ^ (30 : Int).toNat))]) (xs := [(1 : Int), (1 : Int), (1 : Int), (1000003 : Int), ((10 : Int) ^ (30 : Int).toNat)]) (Nat.le_of_ble_eq_true rfl) ⟨rfl, ⟨rfl, ⟨rfl, ⟨rfl, ⟨rfl, trivial⟩⟩⟩⟩⟩ (ow S fun p2 ws3 H4 S5 h6 => ?_)))))))))))))))))
  have S7 : St H4 (A :: m_bag_here :: (one p2 (.lst ws3)) :: R) := S5.pick 1 (Nat.le_of_ble_eq_true rfl)
  refine c_call (c_cons (c_var rfl (c_cons (c_c (c_nil (⟨A, ((one p2 (.lst ws3)) :: R), m_bag_here, v_bag_here, x_bag_here, (5 : Int), rfl, S7, h_bag_here, ?_⟩))))))
  refine Res.wp_mono (Res.wp_noex (Res.wp_bind h)) (fun y8 h A9 H10 m14 e11 S12 h13 => ?_) (fun _ _ h => h.elim)
  have e0 := e0.trans e11
  have h6 := OL.up h6 e11
  refine c_ixI ⟨_, _, rfl, (S12.mem _ (List.mem_of_getElem? (i := 2) rfl)) _ _ one_same, h6⟩ h fun t15 h => ?_
  have S16 : St H10 (A9 :: m14 :: R) := S12.drop 1 (Nat.le_of_ble_eq_true rfl)
  exact h (A9) (H10) (m14) e0 S16 h13
abbrev s_law_scale : Stmt := topS 13
theorem sc_law_scale : FnScope ["_law_bag_here"] ["_law_bag_here"] (defScope s_law_scale) := ⟨rfl, rfl, rfl, by decide +kernel, rfl, by decide +kernel, by decide +kernel⟩
theorem ok_law_scale {P : Program} {w : World} {K : PySem.W.Frag} {mg : Str → Option Value} {base : Heap} {T : Cs} {f : Addr} {fd : FuncData} {f_law_pull : Addr} {fd_law_pull : FuncData} (F : Fun K "_law_scale" "_law_scale" s_law_scale f fd) (bi : Bi mg) (G_law_pull : Glob P w K mg base CX0 1 "_law_pull" ["_law_bag_here", "_law_many"] (sp_law_pull T K) f_law_pull fd_law_pull)  : FnOk P w K mg base CX0 2 f fd ["_law_bag_here"] (sp_law_scale T K) := by
  refine F.ok sc_law_scale (fun vs H Q E h => ?_) (fun cdv A outer s H vs Q E hr h => ⟨rd_law_scale T K E, ?_, wk_law_scale h⟩)
  · obtain ⟨_, _, _, _, _, rfl, _⟩ := h
    rfl
  · exact (pss_one (ps_ret (pe_ix ix_list (pe_lst (pa_cons pe_int (pa_cons pe_int (pa_cons pe_int (pa_cons pe_int (pa_cons (pe_op op_pow pe_int pe_int) pa_nil)))))) (pe_call G_law_pull.ok (hr.mono (Nat.le_of_ble_eq_true rfl)) (by rfl) G_law_pull.g G_law_pull.kp G_law_pull.b .nil pass0 (pa_cons (pv 0) (pa_cons pe_int pa_nil))) (fun _ _ => rfl))))
@[irreducible] def m_is_sum (x_row : (List Int)) : Res Unit Bool := Res.bind (Res.bind (rgR (1 : Int) (x_row.length : Int)) fun l => forM (β := Bool) (fun z2 (s7 : Unit) => Res.bind (ixR x_row (z2 - (1 : Int))) fun t26 => Res.bind (ixR x_row z2) fun t27 => if (decide (t27 ≤ t26)) = true then .ok (.ret (false)) else .ok (.next ())) l ()) fun r28 => (match r28 with | .next s20 => .ok true | .ret y29 => .ok y29)
def sp_is_sum (T : Cs) (K : PySem.W.Frag) : Sp := fun vs H Q E => ∃ (A : Hp) (R : List Hp) (v_row : V) (x_row : (List Int)), vs = [v_row] ∧ St H (A :: R) ∧ Is A v_row x_row ∧ (m_is_sum x_row).wp (fun y => ∀ (A' H' : Hp) , Same A A' → St H' (A' :: R) → Q (.bl y) H') (fun _ _ => False)
def rd_is_sum (T : Cs) (K : PySem.W.Frag) (E : XK) : TS := (tSeq (tFor (iRng2 (tCons (tC (.int 1)) (tCons (tCB (Evl.rLenS K) (tCons (tVar 0) tNil)) tNil))) (gName 1) (tIfS (tTest (tOp (rI0 fun i j => .bl (decide (j ≤ i))) (tOp (rIxL K) (tVar 0) (tOp (rI0 fun i j => .int (i - j)) (tVar 1) (tC (.int 1)))) (tOp (rIxL K) (tVar 0) (tVar 1)))) (tRet (tC (.bl false))) tNext)) (tRet (tC (.bl true))))
theorem wk_is_sum {T : Cs} {K : PySem.W.Frag} {vs : List V} {H : Hp} {Q : VK} {E : XK} (h : sp_is_sum T K vs H Q E) : rd_is_sum T K E { nx := fun _ H' => Q .non H', rt := Q } (L2.start ["row", "k"] vs) H := by
  obtain ⟨A, R, v_row, x_row, rfl, S, h_row, h⟩ := h
  unfold m_is_sum at h
  unfold rd_is_sum
  have e0 : Same A A := Same.refl _
  refine q_forR2 ?_
  refine c_cons (c_c (c_cons (c_cb (c_cons (c_var rfl (c_nil (c_len (la_of S h_row) (c_nil (?_)))))))))
  refine c_forR2 (A := A) (fun (A_ : Hp) (σ_ : L2.St) (R_ : List Hp) (s : Unit) => ∃ (y_k1 : Option V), σ_ = [some v_row, y_k1] ∧ R = R_) S (fun Q' q => q) ⟨_, rfl, rfl⟩ h (fun z2 A4 H5 σ16 R6 s7 C8 N9 hz10a hz10b e11 S12 hR14 hN15 h => ?_) (fun A17 H18 σ24 R19 s20 e21 S22 hR23 h => ?_)
  ·
    have eL25 : Same A A := Same.refl _
    obtain ⟨y_k1, rfl, rfl⟩ := hR14
    have e0 := e0.trans e11
    have eL25 := eL25.trans e11
    have h_row := up h_row e11
    refine s_when ?_
    refine c_tst (c_op (c_op (c_var rfl (c_op (c_var rfl (c_c (c_I0 (c_ixI (la_of S12 h_row) h fun t26 h => ?_))))))))
    refine c_op (c_var rfl (c_var rfl (c_ixI (la_of S12 h_row) h fun t27 h => ?_)))
    refine c_I0 (c_bl (?_))
    refine c_if h (fun hc h => ?_) (fun hc h => ?_)
    ·
      refine s_ret ?_
      refine c_c (?_)
      exact h (A4) (H5) e0 S12 
    ·
      exact hN15 _ _ _ _ () eL25 S12 ⟨_, rfl, rfl⟩ h
  ·
    refine nx_mk ?_
    obtain ⟨y_k1, rfl, rfl⟩ := hR23
    have e0 := e0.trans e21
    have h_row := up h_row e21
    refine s_ret ?_
    refine c_c (?_)
    exact h (A17) (H18) e0 S22 
abbrev s_is_sum : Stmt := topS 4
theorem sc_is_sum : FnScope ["row", "k"] ["row"] (defScope s_is_sum) := ⟨rfl, rfl, rfl, by decide +kernel, rfl, by decide +kernel, by decide +kernel⟩
theorem ok_is_sum {P : Program} {w : World} {K : PySem.W.Frag} {mg : Str → Option Value} {base : Heap} {T : Cs} {f : Addr} {fd : FuncData}  (F : Fun K "is_sum" "is_sum" s_is_sum f fd) (bi : Bi mg)   : FnOk P w K mg base CX0 1 f fd ["row"] (sp_is_sum T K) := by
  refine F.ok sc_is_sum (fun vs H Q E h => ?_) (fun cdv A outer s H vs Q E hr h => ⟨rd_is_sum T K E, ?_, wk_is_sum h⟩)
  · obtain ⟨_, _, _, _, rfl, _⟩ := h
    rfl
  · exact (pss_cons (ps_for PassesOwn.never rfl (pi_range2 (by rfl) bi.range (pa_cons pe_int (pa_cons (pe_callB call_len_seq (by rfl) bi.len PySem.boot_len (pa_cons (pv 0) pa_nil)) pa_nil))) (pg_name (i := 1) sc_is_sum.nd rfl (Or.inl rfl)) (pss_one (ps_if (pt_cmpR op_ge (pe_ix ix_list (pv 0) (pe_op op_sub (pv 1) pe_int) (fun _ _ => rfl)) (pe_ix ix_list (pv 0) (pv 1) (fun _ _ => rfl)) (nomark _)) (pss_one (ps_ret pe_bl)) pss_nil)))
      (pss_one (ps_ret pe_bl)))
@[irreducible] def m_checked (x_row : (List Int)) : Res Unit (List Int) := Res.bind (Res.noex (m_is_sum x_row)) fun y1 => if (!y1) = true then .ex (.plain 0) () else .ok x_row
def sp_checked (T : Cs) (K : PySem.W.Frag) : Sp := fun vs H Q E => ∃ (A : Hp) (R : List Hp) (v_row : V) (x_row : (List Int)), vs = [v_row] ∧ St H (A :: R) ∧ Is A v_row x_row ∧ (m_checked x_row).wp (fun y => ∀ (A' H' : Hp) (p : Addr) (ws : List V), Same A A' → St H' (A' :: one p (.lst ws) :: R) → OL A' ws y → Q (.ref p) H') (fun e w => ∀ (A' H' : Hp)  (cls : Value) (d : Option Addr), Same A A' → St H' (A' :: R) → XA T e cls d A' → E cls d H')
def rd_checked (T : Cs) (K : PySem.W.Frag) (E : XK) : TS := (tSeq (tIfS (tNot (tB (tCall (sp_is_sum T K) [] E0 (tCons (tVar 0) tNil)))) (tRaise0 E (T.ex 0)) tNext) (tRet (tCB (Evl.rListS K) (tCons (tVar 0) tNil))))
theorem wk_checked {T : Cs} {K : PySem.W.Frag} {vs : List V} {H : Hp} {Q : VK} {E : XK} (h : sp_checked T K vs H Q E) : rd_checked T K E { nx := fun _ H' => Q .non H', rt := Q } (L2.start ["row"] vs) H := by
  obtain ⟨A, R, v_row, x_row, rfl, S, h_row, h⟩ := h
  unfold m_checked at h
  unfold rd_checked
  have e0 : Same A A := Same.refl _
  refine q_when ?_
  refine c_not (b := true) (c_tb (c_call (c_cons (c_var rfl (c_nil (⟨A, (R), v_row, x_row, rfl, S, h_row, ?_⟩))))))
  refine Res.wp_mono (Res.wp_noex (Res.wp_bind h)) (fun y1 h A2 H3 e4 S5 => ?_) (fun _ _ h => h.elim)
  have e0 := e0.trans e4
  have h_row := up h_row e4
  refine c_bl (?_)
  refine c_if h (fun hc h => ?_) (fun hc h => ?_)
  ·
    refine s_raise ?_
    exact h A2 H3  _ _ e0 S5  ⟨rfl, rfl⟩
  ·
    refine s_ret ?_
    refine c_cb (c_cons (c_var rfl (c_nil (c_list (la_of S5 h_row) (ow S5 fun p6 ws7 H8 S9 h10 => ?_)))))
    exact h (A2) (H8) (p6) (ws7) e0 S9 h10
abbrev s_checked : Stmt := topS 5
theorem sc_checked : FnScope ["row"] ["row"] (defScope s_checked) := ⟨rfl, rfl, rfl, by decide +kernel, rfl, by decide +kernel, by decide +kernel⟩
theorem ok_checked {P : Program} {w : World} {K : PySem.W.Frag} {mg : Str → Option Value} {base : Heap} {T : Cs} {f : Addr} {fd : FuncData} {f_is_sum : Addr} {fd_is_sum : FuncData} (F : Fun K "checked" "checked" s_checked f fd) (bi : Bi mg) (G_is_sum : Glob P w K mg base CX0 1 "is_sum" ["row"] (sp_is_sum T K) f_is_sum fd_is_sum) (X_NotASum : ExC K mg "NotASum" (T.ex 0)) : FnOk P w K mg base (L2.CX P w) 2 f fd ["row"] (sp_checked T K) := by
  refine F.okX sc_checked (fun vs H Q E h => ?_) (fun cdv A outer s H vs Q E hr h => ⟨rd_checked T K E, ?_, wk_checked h⟩)
  · obtain ⟨_, _, _, _, rfl, _⟩ := h
    rfl
  · exact (pss_cons (ps_if (pt_not (pt_val (pe_call G_is_sum.ok (hr.mono (Nat.le_of_ble_eq_true rfl)) (by rfl) G_is_sum.g G_is_sum.kp G_is_sum.b .nil pass0 (pa_cons (pv 0) pa_nil)))) (pss_one (ps_raise rfl (takes_of rfl rfl rfl rfl) (pmk_own PySem.F.excBase_ValueError X_NotASum.x X_NotASum.g X_NotASum.kp (raises_own X_NotASum.b X_NotASum.t) (by rfl)))) pss_nil)
      (pss_one (ps_ret (pe_callTy call_list_of (by rfl) bi.list boot_list (pa_cons (pv 0) pa_nil)))))
@[irreducible] def m_joined (x_one : (List Int)) (x_other : (List Int)) : Res Unit (List Int) := Res.bind (.ok ((x_one.filter (fun z1 => (!(decide (z1 ∈ x_other))))).map (fun z1 => z1))) fun t31 => Res.bind (.ok ((x_other.filter (fun z43 => (!(decide (z43 ∈ x_one))))).map (fun z43 => z43))) fun t73 => Res.bind (catR t31 t73) fun t85 => Res.bind (.ok (sortI t85)) fun t91 => .ok t91
def sp_joined (T : Cs) (K : PySem.W.Frag) : Sp := fun vs H Q E => ∃ (A : Hp) (R : List Hp) (v_one : V) (x_one : (List Int)) (v_other : V) (x_other : (List Int)), vs = [v_one, v_other] ∧ St H (A :: R) ∧ Is A v_one x_one ∧ Is A v_other x_other ∧ (m_joined x_one x_other).wp (fun y => ∀ (A' H' : Hp) (p : Addr) (ws : List V), Same A A' → St H' (A' :: one p (.lst ws) :: R) → OL A' ws y → Q (.ref p) H') (fun _ _ => False)
def rd_joined (T : Cs) (K : PySem.W.Frag) (E : XK) : TS := (tSeq (tAsg (tLc (iList K (tVar 0)) (gName 4) (tTest (tOp (rIn K true) (tVar 4) (tVar 1))) (tVar 4) [4]) (gName 2)) (tSeq (tAsg (tLc (iList K (tVar 1)) (gName 4) (tTest (tOp (rIn K true) (tVar 4) (tVar 0))) (tVar 4) [4]) (gName 3)) (tRet (tCB (rSortedI K) (tCons (tOp rCat (tVar 2) (tVar 3)) tNil)))))
theorem wk_joined {T : Cs} {K : PySem.W.Frag} {vs : List V} {H : Hp} {Q : VK} {E : XK} (h : sp_joined T K vs H Q E) : rd_joined T K E { nx := fun _ H' => Q .non H', rt := Q } (L2.start ["one", "other", "left", "right", "x"] vs) H := by
  obtain ⟨A, R, v_one, x_one, v_other, x_other, rfl, S, h_one, h_other, h⟩ := h
  unfold m_joined at h
  unfold rd_joined
  have e0 : Same A A := Same.refl _
  refine q_asg ?_
  refine c_lcE ?_
  refine c_var rfl (?_)
  refine c_lcL (A := A) (R := R) (tt := (tTest (tOp (rIn K true) (tVar 4) (tVar 1)))) (te := (tVar 4)) (vs := [4]) (j := 4) (xs := x_one) (fun z1 => (!(decide (z1 ∈ x_other)))) (fun z1 => z1) S (fun Q' q => q) h_one h (fun _ => rfl) ?_ ?_ (fun p32 A33 H34 ws35 t31 h e36 S37 h38 => ?_)
  ·
    intro z1 w2 A3 n4 hm14 e7 h12 A5 H6 e8 S9 Q10 hk11
    have e0 := e0.trans (e7.trans e8)
    have e15 := e7.trans e8
    have h_one := up h_one e15
    have h_other := up h_other e15
    have eC16 : Same A5 A5 := Same.refl _
    have h12 := up h12 e8
    obtain rfl : w2 = (.int z1) := h12
    refine c_tst (c_op (c_var rfl (c_var rfl (c_notin (la_of S9 h_other) (c_bl (?_))))))
    exact hk11 _ _ eC16 S9
  ·
    intro z1 w2 A17 n18 hm28 e21 h26 hf27 A19 H20 e22 S23 Q24 hk25
    have e0 := e0.trans (e21.trans e22)
    have e29 := e21.trans e22
    have h_one := up h_one e29
    have h_other := up h_other e29
    have eC30 : Same A19 A19 := Same.refl _
    have h26 := up h26 e22
    obtain rfl : w2 = (.int z1) := h26
    refine c_var rfl (?_)
    exact hk25 _ _ _ eC30 S23 rfl
  ·
    have e0 := e0.trans e36
    have h_one := up h_one e36
    have h_other := up h_other e36
    have h40 := frz_is h38 S37
    have S41 := S37.frz
    have e39 := same_join_l (A := A33) (B := (one p32 (.lst ws35)))
    generalize hjA42 : join A33 (one p32 (.lst ws35)) = A42 at h40 S41 e39
    clear hjA42
    have e0 := e0.trans e39
    have h_one := up h_one e39
    have h_other := up h_other e39
    refine q_asg ?_
    refine c_lcE ?_
    refine c_var rfl (?_)
    refine c_lcL (A := A42) (R := R) (tt := (tTest (tOp (rIn K true) (tVar 4) (tVar 0)))) (te := (tVar 4)) (vs := [4]) (j := 4) (xs := x_other) (fun z43 => (!(decide (z43 ∈ x_one)))) (fun z43 => z43) S41 (fun Q' q => q) h_other h (fun _ => rfl) ?_ ?_ (fun p74 A75 H76 ws77 t73 h e78 S79 h80 => ?_)
    ·
      intro z43 w44 A45 n46 hm56 e49 h54 A47 H48 e50 S51 Q52 hk53
      have e0 := e0.trans (e49.trans e50)
      have e57 := e49.trans e50
      have h_one := up h_one e57
      have h_other := up h_other e57
      have h40 := up h40 e57
      have eC58 : Same A47 A47 := Same.refl _
      have h54 := up h54 e50
      obtain rfl : w44 = (.int z43) := h54
      refine c_tst (c_op (c_var rfl (c_var rfl (c_notin (la_of S51 h_one) (c_bl (?_))))))
      exact hk53 _ _ eC58 S51
    ·
      intro z43 w44 A59 n60 hm70 e63 h68 hf69 A61 H62 e64 S65 Q66 hk67
      have e0 := e0.trans (e63.trans e64)
      have e71 := e63.trans e64
      have h_one := up h_one e71
      have h_other := up h_other e71
      have h40 := up h40 e71
      have eC72 : Same A61 A61 := Same.refl _
      have h68 := up h68 e64
      obtain rfl : w44 = (.int z43) := h68
      refine c_var rfl (?_)
      exact hk67 _ _ _ eC72 S65 rfl
    ·
      have e0 := e0.trans e78
      have h_one := up h_one e78
      have h_other := up h_other e78
      have h40 := up h40 e78
      have h82 := frz_is h80 S79
      have S83 := S79.frz
      have e81 := same_join_l (A := A75) (B := (one p74 (.lst ws77)))
      generalize hjA84 : join A75 (one p74 (.lst ws77)) = A84 at h82 S83 e81
      clear hjA84
      have e0 := e0.trans e81
      have h_one := up h_one e81
      have h_other := up h_other e81
      have h40 := up h40 e81
      refine s_ret ?_
      refine c_cb (c_cons (c_op (c_var rfl (c_var rfl (c_cat (la_of S83 h40) (la_of S83 h82) h fun t85 h => (ow S83 fun p86 ws87 H88 S89 h90 => ?_))))))
      refine c_nil (c_sorted ⟨_, _, rfl, (S89.mem _ (List.mem_of_getElem? (i := 1) rfl)) _ _ one_same, h90⟩ h fun t91 h => (ow S89 fun p92 ws93 H94 S95 h96 => ?_))
      have S97 : St H94 (A84 :: (one p92 (.lst ws93)) :: R) := S95.drop 1 (Nat.le_of_ble_eq_true rfl)
      exact h (A84) (H94) (p92) (ws93) e0 S97 h96
abbrev s_joined : Stmt := topS 6
theorem sc_joined : FnScope ["one", "other", "left", "right", "x"] ["one", "other"] (defScope s_joined) := ⟨rfl, rfl, rfl, by decide +kernel, rfl, by decide +kernel, by decide +kernel⟩
theorem ok_joined {P : Program} {w : World} {K : PySem.W.Frag} {mg : Str → Option Value} {base : Heap} {T : Cs} {f : Addr} {fd : FuncData}  (F : Fun K "joined" "joined" s_joined f fd) (bi : Bi mg)   : FnOk P w K mg base CX0 1 f fd ["one", "other"] (sp_joined T K) := by
  refine F.ok sc_joined (fun vs H Q E h => ?_) (fun cdv A outer s H vs Q E hr h => ⟨rd_joined T K E, ?_, wk_joined h⟩)
  · obtain ⟨_, _, _, _, _, _, rfl, _⟩ := h
    rfl
  · exact (pss_cons (ps_setLc (i := 2) (own := [("x", 4)]) (g := gName 4) (tt := (tTest (tOp (rIn K true) (tVar 4) (tVar 1)))) (te := (tVar 4)) rfl sc_joined.nd rfl rfl (sw_true rfl rfl rfl (by decide +kernel)) (pi_list (pv 0)) (blkOk_by (own := [("x", 4)]) (N := ["one", "other", "left", "right", "x"]) (sc := defScope s_joined) (by decide +kernel)) (fun _ _ _ _ _ => pg_name (i := 4) sc_joined.nd rfl (Or.inl rfl)) (fun _ _ _ _ _ => pts_one (pt_cmpR op_notIn_seq (pv 4) (pv 1) rfl)) (fun _ _ _ _ _ => (pv 4)))
      (pss_cons (ps_setLc (i := 3) (own := [("x", 4)]) (g := gName 4) (tt := (tTest (tOp (rIn K true) (tVar 4) (tVar 0)))) (te := (tVar 4)) rfl sc_joined.nd rfl rfl (sw_true rfl rfl rfl (by decide +kernel)) (pi_list (pv 1)) (blkOk_by (own := [("x", 4)]) (N := ["one", "other", "left", "right", "x"]) (sc := defScope s_joined) (by decide +kernel)) (fun _ _ _ _ _ => pg_name (i := 4) sc_joined.nd rfl (Or.inl rfl)) (fun _ _ _ _ _ => pts_one (pt_cmpR op_notIn_seq (pv 4) (pv 0) rfl)) (fun _ _ _ _ _ => (pv 4)))
      (pss_one (ps_ret (pe_callB cr_sortedI (by rfl) bi.sorted boot_sorted (pa_cons (pe_op op_cat (pv 2) (pv 3)) pa_nil))))))
@[irreducible] def m_total (x_rows : (List (List Int))) : Res Unit (List Int) := Res.bind (compG (β := (List Int)) (fun z2 (s7 : Unit) => Res.bind (Res.noex (m_checked z2)) fun y20 => .ok (some y20, ())) x_rows ()) fun y32 => Res.bind (forM (β := (List Int)) (fun z52 (s57 : (List Int)) => Res.bind (Res.noex (m_joined s57 z52)) fun y80 => .ok (.next y80)) y32.1 ([] : List Int)) fun r93 => (match r93 with | .next s70 => .ok s70 | .ret y94 => .ok y94)
def sp_total (T : Cs) (K : PySem.W.Frag) : Sp := fun vs H Q E => ∃ (A : Hp) (R : List Hp) (v_rows : V) (x_rows : (List (List Int))), vs = [v_rows] ∧ St H (A :: R) ∧ Is A v_rows x_rows ∧ (m_total x_rows).wp (fun y => ∀ (A' H' : Hp) (p : Addr) (ws : List V), Same A A' → St H' (A' :: one p (.lst ws) :: R) → OL A' ws y → Q (.ref p) H') (fun _ _ => False)
def rd_total (T : Cs) (K : PySem.W.Frag) (E : XK) : TS := (tSeq (tAsg (tLc (iList K (tVar 0)) (gName 1) tYes (tCall (sp_checked T K) [] E0 (tCons (tVar 1) tNil)) [1]) (gName 2)) (tSeq (tAsg (tLst tNil) (gName 3)) (tSeq (tFor (iList K (tVar 2)) (gName 1) (tAsg (tCall (sp_joined T K) [] E0 (tCons (tVar 3) (tCons (tVar 1) tNil))) (gName 3))) (tRet (tVar 3)))))
theorem wk_total {T : Cs} {K : PySem.W.Frag} {vs : List V} {H : Hp} {Q : VK} {E : XK} (h : sp_total T K vs H Q E) : rd_total T K E { nx := fun _ H' => Q .non H', rt := Q } (L2.start ["rows", "row", "kept", "found"] vs) H := by
  obtain ⟨A, R, v_rows, x_rows, rfl, S, h_rows, h⟩ := h
  unfold m_total at h
  unfold rd_total
  have e0 : Same A A := Same.refl _
  refine q_asg ?_
  refine c_lcE ?_
  refine c_var rfl (?_)
  refine c_lcGL (A := A) (R := R) (tt := tYes) (te := (tCall (sp_checked T K) [] E0 (tCons (tVar 1) tNil))) (vs := [1]) (j := 1) (xs := x_rows) (fun (A_ : Hp) (R_ : List Hp) (s : Unit) => R = R_) S (fun Q' q => q) h_rows rfl h (fun _ => rfl) (fun z2 w3 A4 H5 R6 s7 n8 C9 K1_10 K0_11 hz12 e13 S14 hR15 hK16 hK17 h => ?_) (fun p33 A34 H35 R36 ws37 y32 h e38 S39 hR40 h41 => ?_)
  ·
    obtain ⟨hz12, h18⟩ := hz12
    have eC19 : Same A4 A4 := Same.refl _
    obtain rfl := hR15
    have e0 := e0.trans e13
    have h_rows := up h_rows e13
    refine c_yes ?_
    refine c_call (c_cons (c_var rfl (c_nil (⟨A4, (n8 :: R), w3, z2, rfl, S14, h18, ?_⟩))))
    refine Res.wp_mono (Res.wp_noex (Res.wp_bind h)) (fun y20 h A21 H22 p25 ws26 e23 S24 h27 => ?_) (fun _ _ h => h.elim)
    have e0 := e0.trans e23
    have eC19 := eC19.trans e23
    have h_rows := up h_rows e23
    have h18 := up h18 e23
    have h29 := frz_is h27 S24
    have S30 := S24.frz
    have e28 := same_join_l (A := A21) (B := (one p25 (.lst ws26)))
    generalize hjA31 : join A21 (one p25 (.lst ws26)) = A31 at h29 S30 e28
    clear hjA31
    have e0 := e0.trans e28
    have eC19 := eC19.trans e28
    have h_rows := up h_rows e28
    have h18 := up h18 e28
    exact hK16 _ _ _ y20 _ () eC19 S30 rfl h29 h
  ·
    obtain rfl := hR40
    have e0 := e0.trans e38
    have h_rows := up h_rows e38
    have h43 := frz_is h41 S39
    have S44 := S39.frz
    have e42 := same_join_l (A := A34) (B := (one p33 (.lst ws37)))
    generalize hjA45 : join A34 (one p33 (.lst ws37)) = A45 at h43 S44 e42
    clear hjA45
    have e0 := e0.trans e42
    have h_rows := up h_rows e42
    refine q_asg ?_
    refine c_tlst (c_nil (c_lst (α := Int) (vs := []) (xs := []) (Nat.le_of_ble_eq_true rfl) trivial (ow S44 fun p46 ws47 H48 S49 h50 => ?_)))
    refine q_forL ?_
    refine c_var rfl (?_)
    refine c_forL (A := A45) (fun (A_ : Hp) (σ_ : L2.St) (R_ : List Hp) (s : (List Int)) => ∃ (p_found51 : Addr) (ws_found51 : List V) (y_row51 : Option V), σ_ = [some v_rows, y_row51, some (.ref p33), some (.ref p_found51)] ∧ (one p_found51 (.lst ws_found51)) :: R = R_ ∧ OL A_ ws_found51 (s : (List Int))) S49 (fun Q' q => q) h43 ⟨p46, ws47, _, rfl, rfl, h50⟩ h (fun z52 w53 A54 H55 σ66 R56 s57 C58 N59 hz60 e61 S62 h63 hR64 hN65 h => ?_) (fun A67 H68 σ74 R69 s70 e71 S72 hR73 h => ?_)
    ·
      have eL75 : Same A45 A45 := Same.refl _
      obtain ⟨p_found51, ws_found51, y_row51, rfl, rfl, h76⟩ := hR64
      have e0 := e0.trans e61
      have eL75 := eL75.trans e61
      have h_rows := up h_rows e61
      have h43 := up h43 e61
      refine s_asg ?_
      have h79 := frz_is h76 S62
      have S77 := S62.frz
      have e78 := same_join_l (A := A54) (B := (one p_found51 (.lst ws_found51)))
      refine c_call (c_cons (c_var rfl (c_cons (c_var rfl (c_nil (⟨(join A54 (one p_found51 (.lst ws_found51))), (R), (.ref p_found51), s57, w53, z52, rfl, S77, h79, (up h63 e78), ?_⟩))))))
      refine Res.wp_mono (Res.wp_noex (Res.wp_bind h)) (fun y80 h A81 H82 p85 ws86 e83 S84 h87 => ?_) (fun _ _ h => h.elim)
      have S88 := S84.back1 ((same_join_r S62.dj).trans e83)
      have e89 := same_minus S62 e83
      generalize minus A81 (one p_found51 (.lst ws_found51)) = A90 at S88 e89
      have e0 := e0.trans e89
      have eL75 := eL75.trans e89
      have h_rows := up h_rows e89
      have h43 := up h43 e89
      have h76 := OL.up h76 e89
      have h63 := up h63 e89
      have h87 : OL A90 _ _ := OL.any h87
      have S91 : St H82 (A90 :: (one p85 (.lst ws86)) :: R) := S88.drop 0 (Nat.le_of_ble_eq_true rfl)
      exact hN65 _ _ _ _ y80 eL75 S91 ⟨p85, ws86, _, rfl, rfl, h87⟩ h
    ·
      refine nx_mk ?_
      obtain ⟨p_found51, ws_found51, y_row51, rfl, rfl, h92⟩ := hR73
      have e0 := e0.trans e71
      have h_rows := up h_rows e71
      have h43 := up h43 e71
      refine s_ret ?_
      refine c_var rfl (?_)
      exact h (A67) (H68) (p_found51) (ws_found51) e0 S72 h92
abbrev s_total : Stmt := topS 7
theorem sc_total : FnScope ["rows", "row", "kept", "found"] ["rows"] (defScope s_total) := ⟨rfl, rfl, rfl, by decide +kernel, rfl, by decide +kernel, by decide +kernel⟩
theorem ok_total {P : Program} {w : World} {K : PySem.W.Frag} {mg : Str → Option Value} {base : Heap} {T : Cs} {f : Addr} {fd : FuncData} {f_checked : Addr} {fd_checked : FuncData} {f_joined : Addr} {fd_joined : FuncData} (F : Fun K "total" "total" s_total f fd) (bi : Bi mg) (G_checked : Glob P w K mg base (L2.CX P w) 2 "checked" ["row"] (sp_checked T K) f_checked fd_checked) (G_joined : Glob P w K mg base CX0 1 "joined" ["one", "other"] (sp_joined T K) f_joined fd_joined)  : FnOk P w K mg base CX0 3 f fd ["rows"] (sp_total T K) := by
  refine F.ok sc_total (fun vs H Q E h => ?_) (fun cdv A outer s H vs Q E hr h => ⟨rd_total T K E, ?_, wk_total h⟩)
  · obtain ⟨_, _, _, _, rfl, _⟩ := h
    rfl
  · exact (pss_cons (ps_setLc (i := 2) (own := [("row", 1)]) (g := gName 1) (tt := tYes) (te := (tCall (sp_checked T K) [] E0 (tCons (tVar 1) tNil))) rfl sc_total.nd rfl rfl (sw_true rfl rfl rfl (by decide +kernel)) (pi_list (pv 0)) (blkOk_by (own := [("row", 1)]) (N := ["rows", "row", "kept", "found"]) (sc := defScope s_total) (by decide +kernel)) (fun _ _ _ _ _ => pg_name (i := 1) sc_total.nd rfl (Or.inl rfl)) (fun _ _ _ _ _ => pts_nil) (fun _ _ _ _ _ => (pe_call G_checked.ok (hr.mono (Nat.le_of_ble_eq_true rfl)) (by rfl) G_checked.g G_checked.kp G_checked.b .nil passL (pa_cons (pv 1) pa_nil))))
      (pss_cons (ps_set (i := 3) sc_total.nd rfl (Or.inl rfl) (pe_lst pa_nil))
      (pss_cons (ps_for PassesOwn.never rfl (pi_list (pv 2)) (pg_name (i := 1) sc_total.nd rfl (Or.inl rfl)) (pss_one (ps_set (i := 3) sc_total.nd rfl (Or.inl rfl) (pe_call G_joined.ok (hr.mono (Nat.le_of_ble_eq_true rfl)) (by rfl) G_joined.g G_joined.kp G_joined.b .nil pass0 (pa_cons (pv 3) (pa_cons (pv 1) pa_nil))))))
      (pss_one (ps_ret (pv 3))))))
@[irreducible] def m_law_join (x_one : (List Int)) (x_other : (List Int)) : Res Unit (List Int) := Res.bind (.ok ((x_one.filter (fun z1 => (!(decide (z1 ∈ x_other))))).map (fun z1 => z1))) fun t31 => Res.bind (.ok ((x_other.filter (fun z43 => (!(decide (z43 ∈ x_one))))).map (fun z43 => z43))) fun t73 => Res.bind (catR t31 t73) fun t81 => Res.bind (.ok (sortI t81)) fun t87 => .ok t87
def sp_law_join (T : Cs) (K : PySem.W.Frag) : Sp := fun vs H Q E => ∃ (A : Hp) (R : List Hp) (v_one : V) (x_one : (List Int)) (v_other : V) (x_other : (List Int)), vs = [v_one, v_other] ∧ St H (A :: R) ∧ Is A v_one x_one ∧ Is A v_other x_other ∧ (m_law_join x_one x_other).wp (fun y => ∀ (A' H' : Hp) (p : Addr) (ws : List V), Same A A' → St H' (A' :: one p (.lst ws) :: R) → OL A' ws y → Q (.ref p) H') (fun _ _ => False)
def rd_law_join (T : Cs) (K : PySem.W.Frag) (E : XK) : TS := (tSeq (tAsg (tLc (iList K (tVar 0)) (gName 3) (tTest (tOp (rIn K true) (tVar 3) (tVar 1))) (tVar 3) [3]) (gName 2)) (tRet (tCB (rSortedI K) (tCons (tOp rCat (tVar 2) (tLc (iList K (tVar 1)) (gName 3) (tTest (tOp (rIn K true) (tVar 3) (tVar 0))) (tVar 3) [3])) tNil))))
theorem wk_law_join {T : Cs} {K : PySem.W.Frag} {vs : List V} {H : Hp} {Q : VK} {E : XK} (h : sp_law_join T K vs H Q E) : rd_law_join T K E { nx := fun _ H' => Q .non H', rt := Q } (L2.start ["_law_one", "_law_other", "_law_left", "_law_x"] vs) H := by
  obtain ⟨A, R, v_one, x_one, v_other, x_other, rfl, S, h_one, h_other, h⟩ := h
  unfold m_law_join at h
  unfold rd_law_join
  have e0 : Same A A := Same.refl _
  refine q_asg ?_
  refine c_lcE ?_
  refine c_var rfl (?_)
  refine c_lcL (A := A) (R := R) (tt := (tTest (tOp (rIn K true) (tVar 3) (tVar 1)))) (te := (tVar 3)) (vs := [3]) (j := 3) (xs := x_one) (fun z1 => (!(decide (z1 ∈ x_other)))) (fun z1 => z1) S (fun Q' q => q) h_one h (fun _ => rfl) ?_ ?_ (fun p32 A33 H34 ws35 t31 h e36 S37 h38 => ?_)
  ·
    intro z1 w2 A3 n4 hm14 e7 h12 A5 H6 e8 S9 Q10 hk11
    have e0 := e0.trans (e7.trans e8)
    have e15 := e7.trans e8
    have h_one := up h_one e15
    have h_other := up h_other e15
    have eC16 : Same A5 A5 := Same.refl _
    have h12 := up h12 e8
    obtain rfl : w2 = (.int z1) := h12
    refine c_tst (c_op (c_var rfl (c_var rfl (c_notin (la_of S9 h_other) (c_bl (?_))))))
    exact hk11 _ _ eC16 S9
  ·
    intro z1 w2 A17 n18 hm28 e21 h26 hf27 A19 H20 e22 S23 Q24 hk25
    have e0 := e0.trans (e21.trans e22)
    have e29 := e21.trans e22
    have h_one := up h_one e29
    have h_other := up h_other e29
    have eC30 : Same A19 A19 := Same.refl _
    have h26 := up h26 e22
    obtain rfl : w2 = (.int z1) := h26
    refine c_var rfl (?_)
    exact hk25 _ _ _ eC30 S23 rfl
  ·
    have e0 := e0.trans e36
    have h_one := up h_one e36
    have h_other := up h_other e36
    have h40 := frz_is h38 S37
    have S41 := S37.frz
    have e39 := same_join_l (A := A33) (B := (one p32 (.lst ws35)))
    generalize hjA42 : join A33 (one p32 (.lst ws35)) = A42 at h40 S41 e39
    clear hjA42
    have e0 := e0.trans e39
    have h_one := up h_one e39
    have h_other := up h_other e39
    refine s_ret ?_
    refine c_cb (c_cons (c_op (c_var rfl (?_))))
    refine c_lcE ?_
    refine c_var rfl (?_)
    refine c_lcL (A := A42) (R := R) (tt := (tTest (tOp (rIn K true) (tVar 3) (tVar 0)))) (te := (tVar 3)) (vs := [3]) (j := 3) (xs := x_other) (fun z43 => (!(decide (z43 ∈ x_one)))) (fun z43 => z43) S41 (fun Q' q => q) h_other h (fun _ => rfl) ?_ ?_ (fun p74 A75 H76 ws77 t73 h e78 S79 h80 => ?_)
    ·
      intro z43 w44 A45 n46 hm56 e49 h54 A47 H48 e50 S51 Q52 hk53
      have e0 := e0.trans (e49.trans e50)
      have e57 := e49.trans e50
      have h_one := up h_one e57
      have h_other := up h_other e57
      have h40 := up h40 e57
      have eC58 : Same A47 A47 := Same.refl _
      have h54 := up h54 e50
      obtain rfl : w44 = (.int z43) := h54
      refine c_tst (c_op (c_var rfl (c_var rfl (c_notin (la_of S51 h_one) (c_bl (?_))))))
      exact hk53 _ _ eC58 S51
    ·
      intro z43 w44 A59 n60 hm70 e63 h68 hf69 A61 H62 e64 S65 Q66 hk67
      have e0 := e0.trans (e63.trans e64)
      have e71 := e63.trans e64
      have h_one := up h_one e71
      have h_other := up h_other e71
      have h40 := up h40 e71
      have eC72 : Same A61 A61 := Same.refl _
      have h68 := up h68 e64
      obtain rfl : w44 = (.int z43) := h68
      refine c_var rfl (?_)
      exact hk67 _ _ _ eC72 S65 rfl
    ·
      have e0 := e0.trans e78
      have h_one := up h_one e78
      have h_other := up h_other e78
      have h40 := up h40 e78
      refine c_cat (la_of S79 h40) ⟨_, _, rfl, (S79.mem _ (List.mem_of_getElem? (i := 1) rfl)) _ _ one_same, h80⟩ h fun t81 h => (ow S79 fun p82 ws83 H84 S85 h86 => ?_)
      refine c_nil (c_sorted ⟨_, _, rfl, (S85.mem _ (List.mem_of_getElem? (i := 1) rfl)) _ _ one_same, h86⟩ h fun t87 h => (ow S85 fun p88 ws89 H90 S91 h92 => ?_))
      have S93 : St H90 (A75 :: (one p88 (.lst ws89)) :: (one p74 (.lst ws77)) :: R) := S91.drop 1 (Nat.le_of_ble_eq_true rfl)
      have S94 : St H90 (A75 :: (one p88 (.lst ws89)) :: R) := S93.drop 1 (Nat.le_of_ble_eq_true rfl)
      exact h (A75) (H90) (p88) (ws89) e0 S94 h92
abbrev s_law_join : Stmt := topS 14
theorem sc_law_join : FnScope ["_law_one", "_law_other", "_law_left", "_law_x"] ["_law_one", "_law_other"] (defScope s_law_join) := ⟨rfl, rfl, rfl, by decide +kernel, rfl, by decide +kernel, by decide +kernel⟩
theorem ok_law_join {P : Program} {w : World} {K : PySem.W.Frag} {mg : Str → Option Value} {base : Heap} {T : Cs} {f : Addr} {fd : FuncData}  (F : Fun K "_law_join" "_law_join" s_law_join f fd) (bi : Bi mg)   : FnOk P w K mg base CX0 1 f fd ["_law_one", "_law_other"] (sp_law_join T K) := by
  refine F.ok sc_law_join (fun vs H Q E h => ?_) (fun cdv A outer s H vs Q E hr h => ⟨rd_law_join T K E, ?_, wk_law_join h⟩)
  · obtain ⟨_, _, _, _, _, _, rfl, _⟩ := h
    rfl
  · exact (pss_cons (ps_setLc (i := 2) (own := [("_law_x", 3)]) (g := gName 3) (tt := (tTest (tOp (rIn K true) (tVar 3) (tVar 1)))) (te := (tVar 3)) rfl sc_law_join.nd rfl rfl (sw_true rfl rfl rfl (by decide +kernel)) (pi_list (pv 0)) (blkOk_by (own := [("_law_x", 3)]) (N := ["_law_one", "_law_other", "_law_left", "_law_x"]) (sc := defScope s_law_join) (by decide +kernel)) (fun _ _ _ _ _ => pg_name (i := 3) sc_law_join.nd rfl (Or.inl rfl)) (fun _ _ _ _ _ => pts_one (pt_cmpR op_notIn_seq (pv 3) (pv 1) rfl)) (fun _ _ _ _ _ => (pv 3)))
      (pss_one (ps_ret (pe_callB cr_sortedI (by rfl) bi.sorted boot_sorted (pa_cons (pe_op op_cat (pv 2) (pe_lc (own := [("_law_x", 3)]) (g := gName 3) (tt := (tTest (tOp (rIn K true) (tVar 3) (tVar 0)))) (te := (tVar 3)) rfl sc_law_join.nd (pi_list (pv 1)) (blkOk_by (own := [("_law_x", 3)]) (N := ["_law_one", "_law_other", "_law_left", "_law_x"]) (sc := defScope s_law_join) (by decide +kernel)) (fun _ _ _ _ _ => pg_name (i := 3) sc_law_join.nd rfl (Or.inl rfl)) (fun _ _ _ _ _ => pts_one (pt_cmpR op_notIn_seq (pv 3) (pv 0) rfl)) (fun _ _ _ _ _ => (pv 3)))) pa_nil)))))
@[irreducible] def m_law_numbers (x_bag_here : Bag) (x_scale_here : Int) : Res Bag ((List Int) × Bag) := Res.bind (Res.noex (m_law_pull x_bag_here (8 : Int))) fun y12 => Res.bind (ixR [(3 : Int), (2 : Int), (1 : Int), (4 : Int), (0 : Int), (6 : Int), (12 : Int), (40 : Int)] y12.1) fun t19 => Res.bind (Res.bind (rgR (0 : Int) t19) fun l => forM (β := ((List Int) × Bag)) (fun z21 (s26 : (List Int) × Bag) => Res.bind (Res.noex (m_law_pull s26.2 (30 : Int))) fun y47 => Res.bind (mulR (y47.1 - (9 : Int)) x_scale_here) fun t54 => Res.bind (Res.noex (m_law_join s26.1 [((y47.1 - (9 : Int)) * x_scale_here)])) fun y68 => .ok (.next (y68, y47.2))) l (([] : List Int), y12.2)) fun r86 => (match r86 with | .next s39 => .ok (s39.1, s39.2) | .ret y87 => .ok y87)
def sp_law_numbers (T : Cs) (K : PySem.W.Frag) : Sp := fun vs H Q E => ∃ (A : Hp) (R : List Hp) (m_bag_here : Hp) (v_bag_here : V) (x_bag_here : Bag) (x_scale_here : Int), vs = [v_bag_here, (.int x_scale_here)] ∧ St H (A :: m_bag_here :: R) ∧ Ob.isAt A m_bag_here v_bag_here x_bag_here ∧ (m_law_numbers x_bag_here x_scale_here).wp (fun y => ∀ (A' H' : Hp) (p : Addr) (ws : List V) (m0 : Hp), Same A A' → St H' (A' :: one p (.lst ws) :: m0 :: R) → OL A' ws y.1 → Ob.isAt A' m0 v_bag_here y.2 → Q (.ref p) H') (fun _ _ => False)
def rd_law_numbers (T : Cs) (K : PySem.W.Frag) (E : XK) : TS := (tSeq (tAsg (tLst tNil) (gName 2)) (tSeq (tFor (iRng1 (tCons (tOp (rIxL K) (tLst (tCons (tC (.int 3)) (tCons (tC (.int 2)) (tCons (tC (.int 1)) (tCons (tC (.int 4)) (tCons (tC (.int 0)) (tCons (tC (.int 6)) (tCons (tC (.int 12)) (tCons (tC (.int 40)) tNil))))))))) (tCall (sp_law_pull T K) [] E0 (tCons (tVar 0) (tCons (tC (.int 8)) tNil)))) tNil)) (gName 3) (tAsg (tCall (sp_law_join T K) [] E0 (tCons (tVar 2) (tCons (tLst (tCons (tOp (rI CMul fun i j => .int (i * j)) (tOp (rI0 fun i j => .int (i - j)) (tCall (sp_law_pull T K) [] E0 (tCons (tVar 0) (tCons (tC (.int 30)) tNil))) (tC (.int 9))) (tVar 1)) tNil)) tNil))) (gName 2))) (tRet (tVar 2))))
theorem wk_law_numbers {T : Cs} {K : PySem.W.Frag} {vs : List V} {H : Hp} {Q : VK} {E : XK} (h : sp_law_numbers T K vs H Q E) : rd_law_numbers T K E { nx := fun _ H' => Q .non H', rt := Q } (L2.start ["_law_bag_here", "_law_scale_here", "_law_found", "_law_k"] vs) H := by
  obtain ⟨A, R, m_bag_here, v_bag_here, x_bag_here, x_scale_here, rfl, S, h_bag_here, h⟩ := h
  unfold m_law_numbers at h
  unfold rd_law_numbers
  have e0 : Same A A := Same.refl _
  refine q_asg ?_
  refine c_tlst (c_nil (c_lst (α := Int) (vs := []) (xs := []) (Nat.le_of_ble_eq_true rfl) trivial (ow S fun p1 ws2 H3 S4 h5 => ?_)))
  refine q_forR1 ?_
  refine c_cons (c_op (c_tlst (c_cons (c_c (c_cons (c_c (c_cons (c_c (c_cons (c_c (c_cons (c_c (c_cons (c_c (c_cons (c_c (c_cons (c_c (c_nil (c_lst (α := Int) (vs := [(.int 3), (.int 2), (.int 1), (.int 4), (.int 0), (.int 6), (.int 12), (.int 40)]) (xs := [(3 : Int), (2 : Int), (1 : Int), (4 : Int), (0 : Int), (6 : Int), (12 : Int), (40 : Int)]) (Nat.le_of_ble_eq_true rfl) ⟨rfl, ⟨rfl, ⟨rfl, ⟨rfl, ⟨rfl, ⟨rfl, ⟨rfl, ⟨rfl, trivial⟩⟩⟩⟩⟩⟩⟩⟩ (ow S4 fun p6 ws7 H8 S9 h10 => ?_)))))))))))))))))))))
  have S11 : St H8 (A :: m_bag_here :: (one p6 (.lst ws7)) :: (one p1 (.lst ws2)) :: R) := S9.pick 2 (Nat.le_of_ble_eq_true rfl)
  refine c_call (c_cons (c_var rfl (c_cons (c_c (c_nil (⟨A, ((one p6 (.lst ws7)) :: (one p1 (.lst ws2)) :: R), m_bag_here, v_bag_here, x_bag_here, (8 : Int), rfl, S11, h_bag_here, ?_⟩))))))
  refine Res.wp_mono (Res.wp_noex (Res.wp_bind h)) (fun y12 h A13 H14 m18 e15 S16 h17 => ?_) (fun _ _ h => h.elim)
  have e0 := e0.trans e15
  have h5 := OL.up h5 e15
  have h10 := OL.up h10 e15
  refine c_ixI ⟨_, _, rfl, (S16.mem _ (List.mem_of_getElem? (i := 2) rfl)) _ _ one_same, h10⟩ h fun t19 h => ?_
  refine c_nil (?_)
  refine c_forR1 (A := A13) (fun (A_ : Hp) (σ_ : L2.St) (R_ : List Hp) (s : (List Int) × Bag) => ∃ (p_found20 : Addr) (ws_found20 : List V) (m_bag_here20 : Hp) (y_k20 : Option V), σ_ = [some v_bag_here, some (.int x_scale_here), some (.ref p_found20), y_k20] ∧ m_bag_here20 :: (one p6 (.lst ws7)) :: (one p_found20 (.lst ws_found20)) :: R = R_ ∧ OL A_ ws_found20 (s.1 : (List Int)) ∧ Ob.isAt A_ m_bag_here20 v_bag_here (s.2 : Bag)) S16 (fun Q' q => q) ⟨p1, ws2, m18, _, rfl, rfl, h5, h17⟩ h (fun z21 A23 H24 σ35 R25 s26 C27 N28 hz29a hz29b e30 S31 hR33 hN34 h => ?_) (fun A36 H37 σ43 R38 s39 e40 S41 hR42 h => ?_)
  ·
    have eL44 : Same A13 A13 := Same.refl _
    obtain ⟨p_found20, ws_found20, m_bag_here20, y_k20, rfl, rfl, h45, h46⟩ := hR33
    have e0 := e0.trans e30
    have eL44 := eL44.trans e30
    refine s_asg ?_
    refine c_call (c_cons (c_var rfl (c_cons (c_tlst (c_cons (c_op (c_op (c_call (c_cons (c_var rfl (c_cons (c_c (c_nil (⟨A23, ((one p6 (.lst ws7)) :: (one p_found20 (.lst ws_found20)) :: R), m_bag_here20, v_bag_here, s26.2, (30 : Int), rfl, S31, h46, ?_⟩))))))))))))))
    refine Res.wp_mono (Res.wp_noex (Res.wp_bind h)) (fun y47 h A48 H49 m53 e50 S51 h52 => ?_) (fun _ _ h => h.elim)
    have e0 := e0.trans e50
    have eL44 := eL44.trans e50
    have h45 := OL.up h45 e50
    refine c_c (c_I0 (c_var rfl (c_mul h fun h => ?_)))
    refine c_nil (c_lst (α := Int) (vs := [(.int ((y47.1 - (9 : Int)) * x_scale_here))]) (xs := [((y47.1 - (9 : Int)) * x_scale_here)]) (Nat.le_of_ble_eq_true rfl) ⟨rfl, trivial⟩ (ow S51 fun p55 ws56 H57 S58 h59 => ?_))
    have h61 := frz_is h59 S58
    have S62 := S58.frz
    have e60 := same_join_l (A := A48) (B := (one p55 (.lst ws56)))
    generalize hjA63 : join A48 (one p55 (.lst ws56)) = A63 at h61 S62 e60
    clear hjA63
    have e0 := e0.trans e60
    have eL44 := eL44.trans e60
    have h52 := upO h52 e60
    have h45 := OL.up h45 e60
    have S64 : St H57 (A63 :: (one p_found20 (.lst ws_found20)) :: m53 :: (one p6 (.lst ws7)) :: R) := S62.pick 2 (Nat.le_of_ble_eq_true rfl)
    have h67 := frz_is h45 S64
    have S65 := S64.frz
    have e66 := same_join_l (A := A63) (B := (one p_found20 (.lst ws_found20)))
    refine c_nil (⟨(join A63 (one p_found20 (.lst ws_found20))), (m53 :: (one p6 (.lst ws7)) :: R), (.ref p_found20), s26.1, (.ref p55), [((y47.1 - (9 : Int)) * x_scale_here)], rfl, S65, h67, (up h61 e66), ?_⟩)
    refine Res.wp_mono (Res.wp_noex (Res.wp_bind h)) (fun y68 h A69 H70 p73 ws74 e71 S72 h75 => ?_) (fun _ _ h => h.elim)
    have S76 := S72.back1 ((same_join_r S64.dj).trans e71)
    have e77 := same_minus S64 e71
    generalize minus A69 (one p_found20 (.lst ws_found20)) = A78 at S76 e77
    have e0 := e0.trans e77
    have eL44 := eL44.trans e77
    have h52 := upO h52 e77
    have h45 := OL.up h45 e77
    have h75 : OL A78 _ _ := OL.any h75
    have S79 : St H70 (A78 :: (one p73 (.lst ws74)) :: m53 :: (one p6 (.lst ws7)) :: R) := S76.drop 0 (Nat.le_of_ble_eq_true rfl)
    have S80 : St H70 (A78 :: (one p6 (.lst ws7)) :: (one p73 (.lst ws74)) :: m53 :: R) := S79.pick 2 (Nat.le_of_ble_eq_true rfl)
    have S81 : St H70 (A78 :: m53 :: (one p6 (.lst ws7)) :: (one p73 (.lst ws74)) :: R) := S80.pick 2 (Nat.le_of_ble_eq_true rfl)
    exact hN34 _ _ _ _ (y68, y47.2) eL44 S81 ⟨p73, ws74, m53, _, rfl, rfl, h75, h52⟩ h
  ·
    refine nx_mk ?_
    obtain ⟨p_found20, ws_found20, m_bag_here20, y_k20, rfl, rfl, h82, h83⟩ := hR42
    have e0 := e0.trans e40
    refine s_ret ?_
    refine c_var rfl (?_)
    have S84 : St H37 (A36 :: (one p_found20 (.lst ws_found20)) :: m_bag_here20 :: (one p6 (.lst ws7)) :: R) := S41.pick 2 (Nat.le_of_ble_eq_true rfl)
    have S85 : St H37 (A36 :: (one p_found20 (.lst ws_found20)) :: m_bag_here20 :: R) := S84.drop 2 (Nat.le_of_ble_eq_true rfl)
    exact h (A36) (H37) (p_found20) (ws_found20) (m_bag_here20) e0 S85 h82 h83
abbrev s_law_numbers : Stmt := topS 15
theorem sc_law_numbers : FnScope ["_law_bag_here", "_law_scale_here", "_law_found", "_law_k"] ["_law_bag_here", "_law_scale_here"] (defScope s_law_numbers) := ⟨rfl, rfl, rfl, by decide +kernel, rfl, by decide +kernel, by decide +kernel⟩
theorem ok_law_numbers {P : Program} {w : World} {K : PySem.W.Frag} {mg : Str → Option Value} {base : Heap} {T : Cs} {f : Addr} {fd : FuncData} {f_law_pull : Addr} {fd_law_pull : FuncData} {f_law_join : Addr} {fd_law_join : FuncData} (F : Fun K "_law_numbers" "_law_numbers" s_law_numbers f fd) (bi : Bi mg) (G_law_pull : Glob P w K mg base CX0 1 "_law_pull" ["_law_bag_here", "_law_many"] (sp_law_pull T K) f_law_pull fd_law_pull) (G_law_join : Glob P w K mg base CX0 1 "_law_join" ["_law_one", "_law_other"] (sp_law_join T K) f_law_join fd_law_join)  : FnOk P w K mg base CX0 2 f fd ["_law_bag_here", "_law_scale_here"] (sp_law_numbers T K) := by
  refine F.ok sc_law_numbers (fun vs H Q E h => ?_) (fun cdv A outer s H vs Q E hr h => ⟨rd_law_numbers T K E, ?_, wk_law_numbers h⟩)
  · obtain ⟨_, _, _, _, _, _, rfl, _⟩ := h
    rfl
  · exact (pss_cons (ps_set (i := 2) sc_law_numbers.nd rfl (Or.inl rfl) (pe_lst pa_nil))
      (pss_cons (ps_for PassesOwn.never rfl (pi_range1 (by rfl) bi.range (pa_cons (pe_ix ix_list (pe_lst (pa_cons pe_int (pa_cons pe_int (pa_cons pe_int (pa_cons pe_int (pa_cons pe_int (pa_cons pe_int (pa_cons pe_int (pa_cons pe_int pa_nil))))))))) (pe_call G_law_pull.ok (hr.mono (Nat.le_of_ble_eq_true rfl)) (by rfl) G_law_pull.g G_law_pull.kp G_law_pull.b .nil pass0 (pa_cons (pv 0) (pa_cons pe_int pa_nil))) (fun _ _ => rfl)) pa_nil)) (pg_name (i := 3) sc_law_numbers.nd rfl (Or.inl rfl)) (pss_one (ps_set (i := 2) sc_law_numbers.nd rfl (Or.inl rfl) (pe_call G_law_join.ok (hr.mono (Nat.le_of_ble_eq_true rfl)) (by rfl) G_law_join.g G_law_join.kp G_law_join.b .nil pass0 (pa_cons (pv 2) (pa_cons (pe_lst (pa_cons (pe_op op_mul (pe_op op_sub (pe_call G_law_pull.ok (hr.mono (Nat.le_of_ble_eq_true rfl)) (by rfl) G_law_pull.g G_law_pull.kp G_law_pull.b .nil pass0 (pa_cons (pv 0) (pa_cons pe_int pa_nil))) pe_int) (pv 1)) pa_nil)) pa_nil))))))
      (pss_one (ps_ret (pv 2)))))
@[irreducible] def m_law_truth (x_found : Bool) (x_due : Bool) : Res Unit Bool := if true = true then .ok (decide (x_found = x_due)) else .ok false
def sp_law_truth (T : Cs) (K : PySem.W.Frag) : Sp := fun vs H Q E => ∃ (A : Hp) (R : List Hp) (x_found : Bool) (x_due : Bool), vs = [(.bl x_found), (.bl x_due)] ∧ St H (A :: R) ∧ (m_law_truth x_found x_due).wp (fun y => ∀ (A' H' : Hp) , Same A A' → St H' (A' :: R) → Q (.bl y) H') (fun _ _ => False)
def rd_law_truth (T : Cs) (K : PySem.W.Frag) (E : XK) : TS := (tRet (tAndV (tCB (rIsi K) (tCons (tVar 0) (tCons (tC (.ty "bool")) tNil))) (tOp rEq (tVar 0) (tVar 1))))
theorem wk_law_truth {T : Cs} {K : PySem.W.Frag} {vs : List V} {H : Hp} {Q : VK} {E : XK} (h : sp_law_truth T K vs H Q E) : rd_law_truth T K E { nx := fun _ H' => Q .non H', rt := Q } (L2.start ["_law_found", "_law_due"] vs) H := by
  obtain ⟨A, R, x_found, x_due, rfl, S, h⟩ := h
  unfold m_law_truth at h
  unfold rd_law_truth
  have e0 : Same A A := Same.refl _
  refine s_ret ?_
  refine c_andV (c_cb (c_cons (c_var rfl (c_cons (c_c (c_nil (isi_bool (c_bl (?_)))))))))
  refine c_if h (fun hc h => ?_) (fun hc h => ?_)
  ·
    refine c_op (c_var rfl (c_var rfl (c_eqB (?_))))
    exact h (A) (H) e0 S 
  ·
    exact h (A) (H) e0 S 
abbrev s_law_truth : Stmt := topS 19
theorem sc_law_truth : FnScope ["_law_found", "_law_due"] ["_law_found", "_law_due"] (defScope s_law_truth) := ⟨rfl, rfl, rfl, by decide +kernel, rfl, by decide +kernel, by decide +kernel⟩
theorem ok_law_truth {P : Program} {w : World} {K : PySem.W.Frag} {mg : Str → Option Value} {base : Heap} {T : Cs} {f : Addr} {fd : FuncData}  (F : Fun K "_law_truth" "_law_truth" s_law_truth f fd) (bi : Bi mg)   : FnOk P w K mg base CX0 1 f fd ["_law_found", "_law_due"] (sp_law_truth T K) := by
  refine F.ok sc_law_truth (fun vs H Q E h => ?_) (fun cdv A outer s H vs Q E hr h => ⟨rd_law_truth T K E, ?_, wk_law_truth h⟩)
  · obtain ⟨_, _, _, _, rfl, _⟩ := h
    rfl
  · exact (pss_one (ps_ret (pe_and (pe_callB call_isi (by rfl) bi.isinstance boot_isinstance (pa_cons (pv 0) (pa_cons (pe_bltn (v := .ty "bool") (by rfl) bi.bool boot_bool rfl) pa_nil))) (pe_one (pe_cmpR op_eq (pv 0) (pv 1) (nomark _))))))
@[irreducible] def m_law_whole (x_found : Int) : Res Unit Bool := if true = true then .ok (!false) else .ok false
def sp_law_whole (T : Cs) (K : PySem.W.Frag) : Sp := fun vs H Q E => ∃ (A : Hp) (R : List Hp) (x_found : Int), vs = [(.int x_found)] ∧ St H (A :: R) ∧ (m_law_whole x_found).wp (fun y => ∀ (A' H' : Hp) , Same A A' → St H' (A' :: R) → Q (.bl y) H') (fun _ _ => False)
def rd_law_whole (T : Cs) (K : PySem.W.Frag) (E : XK) : TS := (tRet (tAndV (tCB (rIsi K) (tCons (tVar 0) (tCons (tC (.ty "int")) tNil))) (tNotV (tCB (rIsi K) (tCons (tVar 0) (tCons (tC (.ty "bool")) tNil))))))
theorem wk_law_whole {T : Cs} {K : PySem.W.Frag} {vs : List V} {H : Hp} {Q : VK} {E : XK} (h : sp_law_whole T K vs H Q E) : rd_law_whole T K E { nx := fun _ H' => Q .non H', rt := Q } (L2.start ["_law_found"] vs) H := by
  obtain ⟨A, R, x_found, rfl, S, h⟩ := h
  unfold m_law_whole at h
  unfold rd_law_whole
  have e0 : Same A A := Same.refl _
  refine s_ret ?_
  refine c_andV (c_cb (c_cons (c_var rfl (c_cons (c_c (c_nil (isi_int (c_bl (?_)))))))))
  refine c_if h (fun hc h => ?_) (fun hc h => ?_)
  ·
    refine c_notV (c_cb (c_cons (c_var rfl (c_cons (c_c (c_nil (isi_int_bool (c_bl (?_)))))))))
    exact h (A) (H) e0 S 
  ·
    exact h (A) (H) e0 S 
abbrev s_law_whole : Stmt := topS 16
theorem sc_law_whole : FnScope ["_law_found"] ["_law_found"] (defScope s_law_whole) := ⟨rfl, rfl, rfl, by decide +kernel, rfl, by decide +kernel, by decide +kernel⟩
theorem ok_law_whole {P : Program} {w : World} {K : PySem.W.Frag} {mg : Str → Option Value} {base : Heap} {T : Cs} {f : Addr} {fd : FuncData}  (F : Fun K "_law_whole" "_law_whole" s_law_whole f fd) (bi : Bi mg)   : FnOk P w K mg base CX0 1 f fd ["_law_found"] (sp_law_whole T K) := by
  refine F.ok sc_law_whole (fun vs H Q E h => ?_) (fun cdv A outer s H vs Q E hr h => ⟨rd_law_whole T K E, ?_, wk_law_whole h⟩)
  · obtain ⟨_, _, _, rfl, _⟩ := h
    rfl
  · exact (pss_one (ps_ret (pe_and (pe_callB call_isi (by rfl) bi.isinstance boot_isinstance (pa_cons (pv 0) (pa_cons (pe_bltn (v := .ty "int") (by rfl) bi.int boot_int rfl) pa_nil))) (pe_one (pe_not (pe_callB call_isi (by rfl) bi.isinstance boot_isinstance (pa_cons (pv 0) (pa_cons (pe_bltn (v := .ty "bool") (by rfl) bi.bool boot_bool rfl) pa_nil))))))))
@[irreducible] def m_law_row (x_found : (List Int)) : Res Unit Bool := if (!true) = true then .ok false else Res.bind (forM (β := Bool) (fun z2 (s7 : Unit) => Res.bind (Res.noex (m_law_whole z2)) fun y26 => if (!y26) = true then .ok (.ret (false)) else .ok (.next ())) x_found ()) fun r31 => (match r31 with | .next s20 => .ok true | .ret y32 => .ok y32)
def sp_law_row (T : Cs) (K : PySem.W.Frag) : Sp := fun vs H Q E => ∃ (A : Hp) (R : List Hp) (v_found : V) (x_found : (List Int)), vs = [v_found] ∧ St H (A :: R) ∧ Is A v_found x_found ∧ (m_law_row x_found).wp (fun y => ∀ (A' H' : Hp) , Same A A' → St H' (A' :: R) → Q (.bl y) H') (fun _ _ => False)
def rd_law_row (T : Cs) (K : PySem.W.Frag) (E : XK) : TS := (tSeq (tIfS (tNot (tB (tCB (rIsi K) (tCons (tVar 0) (tCons (tC (.ty "list")) tNil))))) (tRet (tC (.bl false))) tNext) (tSeq (tFor (iList K (tVar 0)) (gName 1) (tIfS (tNot (tB (tCall (sp_law_whole T K) [] E0 (tCons (tVar 1) tNil)))) (tRet (tC (.bl false))) tNext)) (tRet (tC (.bl true)))))
theorem wk_law_row {T : Cs} {K : PySem.W.Frag} {vs : List V} {H : Hp} {Q : VK} {E : XK} (h : sp_law_row T K vs H Q E) : rd_law_row T K E { nx := fun _ H' => Q .non H', rt := Q } (L2.start ["_law_found", "_law_one"] vs) H := by
  obtain ⟨A, R, v_found, x_found, rfl, S, h_found, h⟩ := h
  unfold m_law_row at h
  unfold rd_law_row
  have e0 : Same A A := Same.refl _
  refine q_when ?_
  refine c_not (b := true) (c_tb (c_cb (c_cons (c_var rfl (c_cons (c_c (c_nil (isi_list (la_of S h_found) (c_bl (?_))))))))))
  refine c_if h (fun hc h => ?_) (fun hc h => ?_)
  ·
    refine s_ret ?_
    refine c_c (?_)
    exact h (A) (H) e0 S 
  ·
    refine q_forL ?_
    refine c_var rfl (?_)
    refine c_forL (A := A) (fun (A_ : Hp) (σ_ : L2.St) (R_ : List Hp) (s : Unit) => ∃ (y_one1 : Option V), σ_ = [some v_found, y_one1] ∧ R = R_) S (fun Q' q => q) h_found ⟨_, rfl, rfl⟩ h (fun z2 w3 A4 H5 σ16 R6 s7 C8 N9 hz10 e11 S12 h13 hR14 hN15 h => ?_) (fun A17 H18 σ24 R19 s20 e21 S22 hR23 h => ?_)
    ·
      have eL25 : Same A A := Same.refl _
      obtain ⟨y_one1, rfl, rfl⟩ := hR14
      have e0 := e0.trans e11
      have eL25 := eL25.trans e11
      have h_found := up h_found e11
      obtain rfl : w3 = (.int z2) := h13
      refine s_when ?_
      refine c_not (b := true) (c_tb (c_call (c_cons (c_var rfl (c_nil (⟨A4, (R), z2, rfl, S12, ?_⟩))))))
      refine Res.wp_mono (Res.wp_noex (Res.wp_bind h)) (fun y26 h A27 H28 e29 S30 => ?_) (fun _ _ h => h.elim)
      have e0 := e0.trans e29
      have eL25 := eL25.trans e29
      have h_found := up h_found e29
      refine c_bl (?_)
      refine c_if h (fun hc h => ?_) (fun hc h => ?_)
      ·
        refine s_ret ?_
        refine c_c (?_)
        exact h (A27) (H28) e0 S30 
      ·
        exact hN15 _ _ _ _ () eL25 S30 ⟨_, rfl, rfl⟩ h
    ·
      refine nx_mk ?_
      obtain ⟨y_one1, rfl, rfl⟩ := hR23
      have e0 := e0.trans e21
      have h_found := up h_found e21
      refine s_ret ?_
      refine c_c (?_)
      exact h (A17) (H18) e0 S22 
abbrev s_law_row : Stmt := topS 17
theorem sc_law_row : FnScope ["_law_found", "_law_one"] ["_law_found"] (defScope s_law_row) := ⟨rfl, rfl, rfl, by decide +kernel, rfl, by decide +kernel, by decide +kernel⟩
theorem ok_law_row {P : Program} {w : World} {K : PySem.W.Frag} {mg : Str → Option Value} {base : Heap} {T : Cs} {f : Addr} {fd : FuncData} {f_law_whole : Addr} {fd_law_whole : FuncData} (F : Fun K "_law_row" "_law_row" s_law_row f fd) (bi : Bi mg) (G_law_whole : Glob P w K mg base CX0 1 "_law_whole" ["_law_found"] (sp_law_whole T K) f_law_whole fd_law_whole)  : FnOk P w K mg base CX0 2 f fd ["_law_found"] (sp_law_row T K) := by
  refine F.ok sc_law_row (fun vs H Q E h => ?_) (fun cdv A outer s H vs Q E hr h => ⟨rd_law_row T K E, ?_, wk_law_row h⟩)
  · obtain ⟨_, _, _, _, rfl, _⟩ := h
    rfl
  · exact (pss_cons (ps_if (pt_not (pt_val (pe_callB call_isi (by rfl) bi.isinstance boot_isinstance (pa_cons (pv 0) (pa_cons (pe_bltn (v := .ty "list") (by rfl) bi.list boot_list rfl) pa_nil))))) (pss_one (ps_ret pe_bl)) pss_nil)
      (pss_cons (ps_for PassesOwn.never rfl (pi_list (pv 0)) (pg_name (i := 1) sc_law_row.nd rfl (Or.inl rfl)) (pss_one (ps_if (pt_not (pt_val (pe_call G_law_whole.ok (hr.mono (Nat.le_of_ble_eq_true rfl)) (by rfl) G_law_whole.g G_law_whole.kp G_law_whole.b .nil pass0 (pa_cons (pv 1) pa_nil)))) (pss_one (ps_ret pe_bl)) pss_nil)))
      (pss_one (ps_ret pe_bl))))
@[irreducible] def m_law_same (x_found : (List Int)) (x_due : (List Int)) : Res Unit Bool := Res.bind (Res.noex (m_law_row x_found)) fun y1 => if y1 = true then .ok (decide (x_found = x_due)) else .ok false
def sp_law_same (T : Cs) (K : PySem.W.Frag) : Sp := fun vs H Q E => ∃ (A : Hp) (R : List Hp) (v_found : V) (x_found : (List Int)) (v_due : V) (x_due : (List Int)), vs = [v_found, v_due] ∧ St H (A :: R) ∧ Is A v_found x_found ∧ Is A v_due x_due ∧ (m_law_same x_found x_due).wp (fun y => ∀ (A' H' : Hp) , Same A A' → St H' (A' :: R) → Q (.bl y) H') (fun _ _ => False)
def rd_law_same (T : Cs) (K : PySem.W.Frag) (E : XK) : TS := (tRet (tAndV (tCall (sp_law_row T K) [] E0 (tCons (tVar 0) tNil)) (tOp (rEqD K) (tVar 0) (tVar 1))))
theorem wk_law_same {T : Cs} {K : PySem.W.Frag} {vs : List V} {H : Hp} {Q : VK} {E : XK} (h : sp_law_same T K vs H Q E) : rd_law_same T K E { nx := fun _ H' => Q .non H', rt := Q } (L2.start ["_law_found", "_law_due"] vs) H := by
  obtain ⟨A, R, v_found, x_found, v_due, x_due, rfl, S, h_found, h_due, h⟩ := h
  unfold m_law_same at h
  unfold rd_law_same
  have e0 : Same A A := Same.refl _
  refine s_ret ?_
  refine c_andV (c_call (c_cons (c_var rfl (c_nil (⟨A, (R), v_found, x_found, rfl, S, h_found, ?_⟩)))))
  refine Res.wp_mono (Res.wp_noex (Res.wp_bind h)) (fun y1 h A2 H3 e4 S5 => ?_) (fun _ _ h => h.elim)
  have e0 := e0.trans e4
  have h_found := up h_found e4
  have h_due := up h_due e4
  refine c_bl (?_)
  refine c_if h (fun hc h => ?_) (fun hc h => ?_)
  ·
    refine c_op (c_var rfl (c_var rfl (c_eqD (α := (List Int)) (x := x_found) (y := x_due) (dp_of S5 h_found) (dp_of S5 h_due) (Nat.le_of_ble_eq_true rfl) (?_))))
    exact h (A2) (H3) e0 S5 
  ·
    exact h (A2) (H3) e0 S5 
abbrev s_law_same : Stmt := topS 18
theorem sc_law_same : FnScope ["_law_found", "_law_due"] ["_law_found", "_law_due"] (defScope s_law_same) := ⟨rfl, rfl, rfl, by decide +kernel, rfl, by decide +kernel, by decide +kernel⟩
theorem ok_law_same {P : Program} {w : World} {K : PySem.W.Frag} {mg : Str → Option Value} {base : Heap} {T : Cs} {f : Addr} {fd : FuncData} {f_law_row : Addr} {fd_law_row : FuncData} (F : Fun K "_law_same" "_law_same" s_law_same f fd) (bi : Bi mg) (G_law_row : Glob P w K mg base CX0 2 "_law_row" ["_law_found"] (sp_law_row T K) f_law_row fd_law_row)  : FnOk P w K mg base CX0 3 f fd ["_law_found", "_law_due"] (sp_law_same T K) := by
  refine F.ok sc_law_same (fun vs H Q E h => ?_) (fun cdv A outer s H vs Q E hr h => ⟨rd_law_same T K E, ?_, wk_law_same h⟩)
  · obtain ⟨_, _, _, _, _, _, rfl, _⟩ := h
    rfl
  · exact (pss_one (ps_ret (pe_and (pe_call G_law_row.ok (hr.mono (Nat.le_of_ble_eq_true rfl)) (by rfl) G_law_row.g G_law_row.kp G_law_row.b .nil pass0 (pa_cons (pv 0) pa_nil)) (pe_one (pe_cmpR (op_eqD hr.units) (pv 0) (pv 1) (nomark _))))))
@[irreducible] def m_meets_evenly (x_one : (List Int)) (x_other : (List Int)) : Res Unit Bool := Res.bind (.ok ((x_one.filter (fun z1 => (decide (z1 ∈ x_other)))).map (fun z1 => z1))) fun t31 => Res.bind (modR (t31.length : Int) (2 : Int)) fun t39 => .ok (decide (((t31.length : Int) % (2 : Int)) = (0 : Int)))
def sp_meets_evenly (T : Cs) (K : PySem.W.Frag) : Sp := fun vs H Q E => ∃ (A : Hp) (R : List Hp) (v_one : V) (x_one : (List Int)) (v_other : V) (x_other : (List Int)), vs = [v_one, v_other] ∧ St H (A :: R) ∧ Is A v_one x_one ∧ Is A v_other x_other ∧ (m_meets_evenly x_one x_other).wp (fun y => ∀ (A' H' : Hp) , Same A A' → St H' (A' :: R) → Q (.bl y) H') (fun _ _ => False)
def rd_meets_evenly (T : Cs) (K : PySem.W.Frag) (E : XK) : TS := (tRet (tOp rEq (tOp (rI (fun _ j => 0 < j) fun i j => .int (i % j)) (tCB (Evl.rLenS K) (tCons (tLc (iList K (tVar 0)) (gName 2) (tTest (tOp (rIn K false) (tVar 2) (tVar 1))) (tVar 2) [2]) tNil)) (tC (.int 2))) (tC (.int 0))))
theorem wk_meets_evenly {T : Cs} {K : PySem.W.Frag} {vs : List V} {H : Hp} {Q : VK} {E : XK} (h : sp_meets_evenly T K vs H Q E) : rd_meets_evenly T K E { nx := fun _ H' => Q .non H', rt := Q } (L2.start ["one", "other", "x"] vs) H := by
  obtain ⟨A, R, v_one, x_one, v_other, x_other, rfl, S, h_one, h_other, h⟩ := h
  unfold m_meets_evenly at h
  unfold rd_meets_evenly
  have e0 : Same A A := Same.refl _
  refine s_ret ?_
  refine c_op (c_op (c_cb (c_cons (?_))))
  refine c_lcE ?_
  refine c_var rfl (?_)
  refine c_lcL (A := A) (R := R) (tt := (tTest (tOp (rIn K false) (tVar 2) (tVar 1)))) (te := (tVar 2)) (vs := [2]) (j := 2) (xs := x_one) (fun z1 => (decide (z1 ∈ x_other))) (fun z1 => z1) S (fun Q' q => q) h_one h (fun _ => rfl) ?_ ?_ (fun p32 A33 H34 ws35 t31 h e36 S37 h38 => ?_)
  ·
    intro z1 w2 A3 n4 hm14 e7 h12 A5 H6 e8 S9 Q10 hk11
    have e0 := e0.trans (e7.trans e8)
    have e15 := e7.trans e8
    have h_one := up h_one e15
    have h_other := up h_other e15
    have eC16 : Same A5 A5 := Same.refl _
    have h12 := up h12 e8
    obtain rfl : w2 = (.int z1) := h12
    refine c_tst (c_op (c_var rfl (c_var rfl (c_in (la_of S9 h_other) (c_bl (?_))))))
    exact hk11 _ _ eC16 S9
  ·
    intro z1 w2 A17 n18 hm28 e21 h26 hf27 A19 H20 e22 S23 Q24 hk25
    have e0 := e0.trans (e21.trans e22)
    have e29 := e21.trans e22
    have h_one := up h_one e29
    have h_other := up h_other e29
    have eC30 : Same A19 A19 := Same.refl _
    have h26 := up h26 e22
    obtain rfl : w2 = (.int z1) := h26
    refine c_var rfl (?_)
    exact hk25 _ _ _ eC30 S23 rfl
  ·
    have e0 := e0.trans e36
    have h_one := up h_one e36
    have h_other := up h_other e36
    refine c_nil (c_len ⟨_, _, rfl, (S37.mem _ (List.mem_of_getElem? (i := 1) rfl)) _ _ one_same, h38⟩ (c_c (c_mod h fun h => ?_)))
    refine c_c (c_eqI (?_))
    have S40 : St H34 (A33 :: R) := S37.drop 0 (Nat.le_of_ble_eq_true rfl)
    exact h (A33) (H34) e0 S40 
abbrev s_meets_evenly : Stmt := topS 8
theorem sc_meets_evenly : FnScope ["one", "other", "x"] ["one", "other"] (defScope s_meets_evenly) := ⟨rfl, rfl, rfl, by decide +kernel, rfl, by decide +kernel, by decide +kernel⟩
theorem ok_meets_evenly {P : Program} {w : World} {K : PySem.W.Frag} {mg : Str → Option Value} {base : Heap} {T : Cs} {f : Addr} {fd : FuncData}  (F : Fun K "meets_evenly" "meets_evenly" s_meets_evenly f fd) (bi : Bi mg)   : FnOk P w K mg base CX0 1 f fd ["one", "other"] (sp_meets_evenly T K) := by
  refine F.ok sc_meets_evenly (fun vs H Q E h => ?_) (fun cdv A outer s H vs Q E hr h => ⟨rd_meets_evenly T K E, ?_, wk_meets_evenly h⟩)
  · obtain ⟨_, _, _, _, _, _, rfl, _⟩ := h
    rfl
  · exact (pss_one (ps_ret (pe_cmpR op_eq (pe_op op_mod (pe_callB call_len_seq (by rfl) bi.len PySem.boot_len (pa_cons (pe_lc (own := [("x", 2)]) (g := gName 2) (tt := (tTest (tOp (rIn K false) (tVar 2) (tVar 1)))) (te := (tVar 2)) rfl sc_meets_evenly.nd (pi_list (pv 0)) (blkOk_by (own := [("x", 2)]) (N := ["one", "other", "x"]) (sc := defScope s_meets_evenly) (by decide +kernel)) (fun _ _ _ _ _ => pg_name (i := 2) sc_meets_evenly.nd rfl (Or.inl rfl)) (fun _ _ _ _ _ => pts_one (pt_cmpR op_in_seq (pv 2) (pv 1) rfl)) (fun _ _ _ _ _ => (pv 2))) pa_nil)) pe_int) pe_int (nomark _))))
@[irreducible] def m_evenly (x_one : (List Int)) (x_other : (List Int)) : Res Unit Bool := Res.bind (Res.lift (fun w => ()) (m_checked x_one)) fun y1 => Res.bind (Res.lift (fun w => ()) (m_checked x_other)) fun y9 => Res.bind (Res.noex (m_meets_evenly y1 y9)) fun y27 => .ok y27
def sp_evenly (T : Cs) (K : PySem.W.Frag) : Sp := fun vs H Q E => ∃ (A : Hp) (R : List Hp) (v_one : V) (x_one : (List Int)) (v_other : V) (x_other : (List Int)), vs = [v_one, v_other] ∧ St H (A :: R) ∧ Is A v_one x_one ∧ Is A v_other x_other ∧ (m_evenly x_one x_other).wp (fun y => ∀ (A' H' : Hp) , Same A A' → St H' (A' :: R) → Q (.bl y) H') (fun e w => ∀ (A' H' : Hp)  (cls : Value) (d : Option Addr), Same A A' → St H' (A' :: R) → XA T e cls d A' → E cls d H')
def rd_evenly (T : Cs) (K : PySem.W.Frag) (E : XK) : TS := (tRet (tCall (sp_meets_evenly T K) [] E0 (tCons (tCall (sp_checked T K) [] E (tCons (tVar 0) tNil)) (tCons (tCall (sp_checked T K) [] E (tCons (tVar 1) tNil)) tNil))))
theorem wk_evenly {T : Cs} {K : PySem.W.Frag} {vs : List V} {H : Hp} {Q : VK} {E : XK} (h : sp_evenly T K vs H Q E) : rd_evenly T K E { nx := fun _ H' => Q .non H', rt := Q } (L2.start ["one", "other"] vs) H := by
  obtain ⟨A, R, v_one, x_one, v_other, x_other, rfl, S, h_one, h_other, h⟩ := h
  unfold m_evenly at h
  unfold rd_evenly
  have e0 : Same A A := Same.refl _
  refine s_ret ?_
  refine c_call (c_cons (c_call (c_cons (c_var rfl (c_nil (⟨A, (R), v_one, x_one, rfl, S, h_one, ?_⟩))))))
  refine Res.wp_mono (Res.wp_lift (Res.wp_bind h)) (fun y1 h A2 H3 p6 ws7 e4 S5 h8 => ?_) (fun e w he A9 H9  cls d e9 S9  hx => by
      exact he A9 H9  cls d (e0.trans e9) S9  hx)
  have e0 := e0.trans e4
  have h_one := up h_one e4
  have h_other := up h_other e4
  refine c_cons (c_call (c_cons (c_var rfl (c_nil (⟨A2, ((one p6 (.lst ws7)) :: R), v_other, x_other, rfl, S5, h_other, ?_⟩)))))
  refine Res.wp_mono (Res.wp_lift (Res.wp_bind h)) (fun y9 h A10 H11 p14 ws15 e12 S13 h16 => ?_) (fun e w he A9 H9  cls d e9 S9  hx => by
      have S17 : St H9 (A9 :: R) := S9.drop 0 (Nat.le_of_ble_eq_true rfl)
      exact he A9 H9  cls d (e0.trans e9) S17  hx)
  have e0 := e0.trans e12
  have h_one := up h_one e12
  have h_other := up h_other e12
  have h8 := OL.up h8 e12
  have S18 : St H11 (A10 :: (one p6 (.lst ws7)) :: (one p14 (.lst ws15)) :: R) := S13.pick 1 (Nat.le_of_ble_eq_true rfl)
  have h20 := frz_is h8 S18
  have S21 := S18.frz
  have e19 := same_join_l (A := A10) (B := (one p6 (.lst ws7)))
  generalize hjA22 : join A10 (one p6 (.lst ws7)) = A22 at h20 S21 e19
  clear hjA22
  have e0 := e0.trans e19
  have h_one := up h_one e19
  have h_other := up h_other e19
  have h16 := OL.up h16 e19
  have h24 := frz_is h16 S21
  have S25 := S21.frz
  have e23 := same_join_l (A := A22) (B := (one p14 (.lst ws15)))
  generalize hjA26 : join A22 (one p14 (.lst ws15)) = A26 at h24 S25 e23
  clear hjA26
  have e0 := e0.trans e23
  have h_one := up h_one e23
  have h_other := up h_other e23
  have h20 := up h20 e23
  refine c_nil (⟨A26, (R), (.ref p6), y1, (.ref p14), y9, rfl, S25, h20, h24, ?_⟩)
  refine Res.wp_mono (Res.wp_noex (Res.wp_bind h)) (fun y27 h A28 H29 e30 S31 => ?_) (fun _ _ h => h.elim)
  have e0 := e0.trans e30
  have h_one := up h_one e30
  have h_other := up h_other e30
  exact h (A28) (H29) e0 S31 
abbrev s_evenly : Stmt := topS 9
theorem sc_evenly : FnScope ["one", "other"] ["one", "other"] (defScope s_evenly) := ⟨rfl, rfl, rfl, by decide +kernel, rfl, by decide +kernel, by decide +kernel⟩
theorem ok_evenly {P : Program} {w : World} {K : PySem.W.Frag} {mg : Str → Option Value} {base : Heap} {T : Cs} {f : Addr} {fd : FuncData} {f_checked : Addr} {fd_checked : FuncData} {f_meets_evenly : Addr} {fd_meets_evenly : FuncData} (F : Fun K "evenly" "evenly" s_evenly f fd) (bi : Bi mg) (G_checked : Glob P w K mg base (L2.CX P w) 2 "checked" ["row"] (sp_checked T K) f_checked fd_checked) (G_meets_evenly : Glob P w K mg base CX0 1 "meets_evenly" ["one", "other"] (sp_meets_evenly T K) f_meets_evenly fd_meets_evenly)  : FnOk P w K mg base (L2.CX P w) 3 f fd ["one", "other"] (sp_evenly T K) := by
  refine F.okX sc_evenly (fun vs H Q E h => ?_) (fun cdv A outer s H vs Q E hr h => ⟨rd_evenly T K E, ?_, wk_evenly h⟩)
  · obtain ⟨_, _, _, _, _, _, rfl, _⟩ := h
    rfl
  · exact (pss_one (ps_ret (pe_call G_meets_evenly.ok (hr.mono (Nat.le_of_ble_eq_true rfl)) (by rfl) G_meets_evenly.g G_meets_evenly.kp G_meets_evenly.b .nil pass0 (pa_cons (pe_call G_checked.ok (hr.mono (Nat.le_of_ble_eq_true rfl)) (by rfl) G_checked.g G_checked.kp G_checked.b .nil (passes_call (takes_of rfl rfl rfl rfl) (fun _ _ _ _ h => h)) (pa_cons (pv 0) pa_nil)) (pa_cons (pe_call G_checked.ok (hr.mono (Nat.le_of_ble_eq_true rfl)) (by rfl) G_checked.g G_checked.kp G_checked.b .nil (passes_call (takes_of rfl rfl rfl rfl) (fun _ _ _ _ h => h)) (pa_cons (pv 1) pa_nil)) pa_nil)))))
@[irreducible] def m_law (x_script : (List Int)) : Res Unit Bool := Res.bind (Res.noex (m_law_bag x_script)) fun y1 => Res.bind (Res.noex (m_law_scale y1)) fun y9 => Res.bind (Res.noex (m_law_pull y9.2 (9 : Int))) fun y16 => Res.bind (Res.bind (rlR y16.1) fun l => compG (β := (List Int)) (fun z24 (s29 : Bag) => Res.bind (Res.noex (m_law_numbers s29 y9.1)) fun y44 => .ok (some y44.1, y44.2)) l y16.2) fun y59 => Res.bind ((Res.bind (andS (!(decide (y59.1 = ([] : List (List Int))))) y59.2 (Res.bind (Res.noex (m_law_pull y59.2 (3 : Int))) fun y100 => .ok ((decide (y100.1 = (0 : Int))), y100.2))) fun b86 => if b86.1 = true then Res.bind (Res.noex (m_law_pull b86.2 (y59.1.length : Int))) fun y114 => Res.bind (ixR y59.1 y114.1) fun t121 => Res.bind (appR y59.1 t121) fun t125 => .ok (.next (t125, y114.2)) else .ok (.next (y59.1, b86.2)) : Res Unit (Fl Bool ((List (List Int)) × Bag)))) fun r442 => (match r442 with | .next s77 => Res.bind (forM (β := Bool) (fun z146 (s151 : (List Int)) => Res.bind (Res.noex (m_law_join s151 z146)) fun y171 => .ok (.next y171)) s77.1 ([] : List Int)) fun r440 => (match r440 with | .next s164 => Res.bind (.ok ((s77.1.filter (fun _ => true)).map (fun z184 => z184))) fun t209 => Res.bind ((Res.bind (andR (decide ((1 : Int) < (s77.1.length : Int))) (Res.bind (ixR s77.1 (-(1 : Int))) fun t238 => Res.bind (ixR s77.1 (0 : Int)) fun t241 => .ok (decide (t238 = t241)))) fun b230 => if b230 = true then Res.bind (ixR t209 (0 : Int)) fun t244 => Res.bind (setR t209 (-(1 : Int)) t244) fun t247 => .ok (.next t247) else .ok (.next t209) : Res Unit (Fl Bool ((List (List Int)))))) fun r438 => (match r438 with | .next s224 => Res.bind (Res.noex (m_total s224)) fun y256 => Res.bind (Res.bind (Res.noex (m_law_same y256 s164)) fun y279 => orR (!y279) (.ok (!(decide (s224 = s77.1))))) fun b267 => if b267 = true then .ok false else Res.bind (appR y256 (5 : Int)) fun t297 => Res.bind (orR (!(decide (s224 = s77.1))) (Res.bind (Res.noex (m_total s224)) fun y314 => Res.bind (Res.noex (m_law_same y314 s164)) fun y330 => .ok (!y330))) fun b302 => if b302 = true then .ok false else if (decide (s77.1 = ([] : List (List Int)))) = true then Res.bind (Res.noex (m_evenly ([] : List Int) ([] : List Int))) fun y365 => .ok (decide (y365 = true)) else Res.bind (ixR s77.1 (0 : Int)) fun t374 => Res.bind (compG (β := Int) (fun z378 (s383 : Unit) => Res.bind (ixR s77.1 (-(1 : Int))) fun t396 => if (decide (z378 ∈ t396)) = true then .ok (some z378, ()) else .ok (none, ())) t374 ()) fun y399 => Res.bind (ixR s224 (0 : Int)) fun t413 => Res.bind (ixR s224 (-(1 : Int))) fun t416 => Res.bind (Res.noex (m_evenly t413 t416)) fun y419 => Res.bind (modR (y399.1.length : Int) (2 : Int)) fun t424 => Res.bind (Res.noex (m_law_truth y419 (decide (((y399.1.length : Int) % (2 : Int)) = (0 : Int))))) fun y425 => if y425 = true then .ok (decide (s224 = s77.1)) else .ok false | .ret y439 => .ok y439) | .ret y441 => .ok y441) | .ret y443 => .ok y443)
def sp_law (T : Cs) (K : PySem.W.Frag) : Sp := fun vs H Q E => ∃ (A : Hp) (R : List Hp) (v_script : V) (x_script : (List Int)), vs = [v_script] ∧ St H (A :: R) ∧ Scr K A v_script x_script ∧ (m_law x_script).wp (fun y => ∀ (A' H' : Hp) , Same A A' → St H' (A' :: R) → Q (.bl y) H') (fun _ _ => False)
def rd_law (T : Cs) (K : PySem.W.Frag) (E : XK) : TS := (tSeq (tAsg (tCall (sp_law_bag T K) [] E0 (tCons (tVar 0) tNil)) (gName 1)) (tSeq (tAsg (tCall (sp_law_scale T K) [] E0 (tCons (tVar 1) tNil)) (gName 2)) (tSeq (tAsg (tLc (iRng1 (tCons (tCall (sp_law_pull T K) [] E0 (tCons (tVar 1) (tCons (tC (.int 9)) tNil))) tNil)) (gName 9) tYes (tCall (sp_law_numbers T K) [] E0 (tCons (tVar 1) (tCons (tVar 2) tNil))) [9]) (gName 3)) (Evl.tCut (tIfS (tAnd (tTest (tOp (rNeD K) (tVar 3) (tLst tNil))) (tTest (tOp rEq (tCall (sp_law_pull T K) [] E0 (tCons (tVar 1) (tCons (tC (.int 3)) tNil))) (tC (.int 0))))) (tDrop (tBM K "list" rAppend (tVar 3) (tCons (tOp (rIxL K) (tVar 3) (tCall (sp_law_pull T K) [] E0 (tCons (tVar 1) (tCons (tCB (Evl.rLenS K) (tCons (tVar 3) tNil)) tNil)))) tNil))) tNext) (tSeq (tAsg (tLst tNil) (gName 4)) (tSeq (tFor (iList K (tVar 3)) (gName 5) (tAsg (tCall (sp_law_join T K) [] E0 (tCons (tVar 4) (tCons (tVar 5) tNil))) (gName 4))) (tSeq (tAsg (tLc (iList K (tVar 3)) (gName 5) tYes (tCB (Evl.rListS K) (tCons (tVar 5) tNil)) [5]) (gName 6)) (Evl.tCut (tIfS (tAnd (tTest (tOp (rI0 fun i j => .bl (decide (j < i))) (tCB (Evl.rLenS K) (tCons (tVar 3) tNil)) (tC (.int 1)))) (tTest (tOp (rEqD K) (tOp (rIxL K) (tVar 3) (tUn (rU fun i => .int (-i)) (tC (.int 1)))) (tOp (rIxL K) (tVar 3) (tC (.int 0)))))) (tAsg (tOp (rIxL K) (tVar 6) (tC (.int 0))) (gSub (tVar 6) (tUn (rU fun i => .int (-i)) (tC (.int 1))) rSetL)) tNext) (tSeq (tAsg (tCall (sp_total T K) [] E0 (tCons (tVar 6) tNil)) (gName 7)) (tSeq (tIfS (tOr (tNot (tB (tCall (sp_law_same T K) [] E0 (tCons (tVar 7) (tCons (tVar 4) tNil))))) (tTest (tOp (rNeD K) (tVar 6) (tVar 3)))) (tRet (tC (.bl false))) tNext) (tSeq (tDrop (tBM K "list" rAppend (tVar 7) (tCons (tC (.int 5)) tNil))) (tSeq (tIfS (tOr (tTest (tOp (rNeD K) (tVar 6) (tVar 3))) (tNot (tB (tCall (sp_law_same T K) [] E0 (tCons (tCall (sp_total T K) [] E0 (tCons (tVar 6) tNil)) (tCons (tVar 4) tNil)))))) (tRet (tC (.bl false))) tNext) (tSeq (tIfS (tTest (tOp (rEqD K) (tVar 3) (tLst tNil))) (tRet (tOp rIsB (tCall (sp_evenly T K) [] E0 (tCons (tLst tNil) (tCons (tLst tNil) tNil))) (tC (.bl true)))) tNext) (tSeq (tAsg (tLc (iList K (tOp (rIxL K) (tVar 3) (tC (.int 0)))) (gName 10) (tTest (tOp (rIn K false) (tVar 10) (tOp (rIxL K) (tVar 3) (tUn (rU fun i => .int (-i)) (tC (.int 1)))))) (tVar 10) [10]) (gName 8)) (tRet (tAndV (tCall (sp_law_truth T K) [] E0 (tCons (tCall (sp_evenly T K) [] E0 (tCons (tOp (rIxL K) (tVar 6) (tC (.int 0))) (tCons (tOp (rIxL K) (tVar 6) (tUn (rU fun i => .int (-i)) (tC (.int 1)))) tNil))) (tCons (tOp rEq (tOp (rI (fun _ j => 0 < j) fun i j => .int (i % j)) (tCB (Evl.rLenS K) (tCons (tVar 8) tNil)) (tC (.int 2))) (tC (.int 0))) tNil))) (tOp (rEqD K) (tVar 6) (tVar 3))))))))))))))))))
theorem wk_law {T : Cs} {K : PySem.W.Frag} {vs : List V} {H : Hp} {Q : VK} {E : XK} (h : sp_law T K vs H Q E) : rd_law T K E { nx := fun _ H' => Q .non H', rt := Q } (L2.start ["_law_script", "_law_bag_here", "_law_scale_here", "_law_rows", "_law_due", "_law_row_here", "_law_handed", "_law_found", "_law_both", "_law_k", "_law_x"] vs) H := by
  obtain ⟨A, R, v_script, x_script, rfl, S, h_script, h⟩ := h
  unfold m_law at h
  unfold rd_law
  have e0 : Same A A := Same.refl _
  refine q_asg ?_
  refine c_call (c_cons (c_var rfl (c_nil (⟨A, (R), v_script, x_script, rfl, S, h_script, ?_⟩))))
  refine Res.wp_mono (Res.wp_noex (Res.wp_bind h)) (fun y1 h A2 H3 v6 m7 e4 S5 h8 => ?_) (fun _ _ h => h.elim)
  have e0 := e0.trans e4
  have h_script := upS h_script e4
  refine q_asg ?_
  refine c_call (c_cons (c_var rfl (c_nil (⟨A2, (R), m7, v6, y1, rfl, S5, h8, ?_⟩))))
  refine Res.wp_mono (Res.wp_noex (Res.wp_bind h)) (fun y9 h A10 H11 m15 e12 S13 h14 => ?_) (fun _ _ h => h.elim)
  have e0 := e0.trans e12
  have h_script := upS h_script e12
  refine q_asg ?_
  refine c_lcER ?_
  refine c_cons (c_call (c_cons (c_var rfl (c_cons (c_c (c_nil (⟨A10, (R), m15, v6, y9.2, (9 : Int), rfl, S13, h14, ?_⟩)))))))
  refine Res.wp_mono (Res.wp_noex (Res.wp_bind h)) (fun y16 h A17 H18 m22 e19 S20 h21 => ?_) (fun _ _ h => h.elim)
  have e0 := e0.trans e19
  have h_script := upS h_script e19
  refine c_nil (?_)
  refine c_lcGR (A := A17) (R := m22 :: R) (tt := tYes) (te := (tCall (sp_law_numbers T K) [] E0 (tCons (tVar 1) (tCons (tVar 2) tNil)))) (vs := [9]) (j := 9) (n := y16.1) (fun (A_ : Hp) (R_ : List Hp) (s : Bag) => ∃ (m_bag_here23 : Hp), m_bag_here23 :: R = R_ ∧ Ob.isAt A_ m_bag_here23 v6 (s : Bag)) S20 (fun Q' q => q) ⟨m22, rfl, h21⟩ h (fun _ => rfl) (fun z24 w25 A26 H27 R28 s29 n30 C31 K1_32 K0_33 hz34 e35 S36 hR37 hK38 hK39 h => ?_) (fun p60 A61 H62 R63 ws64 y59 h e65 S66 hR67 h68 => ?_)
  ·
    obtain ⟨hz34, rfl⟩ := hz34
    have eC41 : Same A26 A26 := Same.refl _
    obtain ⟨m_bag_here23, rfl, h42⟩ := hR37
    have e0 := e0.trans e35
    have h_script := upS h_script e35
    refine c_yes ?_
    have S43 : St H27 (A26 :: m_bag_here23 :: n30 :: R) := S36.pick 1 (Nat.le_of_ble_eq_true rfl)
    refine c_call (c_cons (c_var rfl (c_cons (c_var rfl (c_nil (⟨A26, (n30 :: R), m_bag_here23, v6, s29, y9.1, rfl, S43, h42, ?_⟩))))))
    refine Res.wp_mono (Res.wp_noex (Res.wp_bind h)) (fun y44 h A45 H46 p49 ws50 m53 e47 S48 h51 h52 => ?_) (fun _ _ h => h.elim)
    have e0 := e0.trans e47
    have eC41 := eC41.trans e47
    have h_script := upS h_script e47
    have h55 := frz_is h51 S48
    have S56 := S48.frz
    have e54 := same_join_l (A := A45) (B := (one p49 (.lst ws50)))
    generalize hjA57 : join A45 (one p49 (.lst ws50)) = A57 at h55 S56 e54
    clear hjA57
    have e0 := e0.trans e54
    have eC41 := eC41.trans e54
    have h_script := upS h_script e54
    have h52 := upO h52 e54
    have S58 : St H46 (A57 :: n30 :: m53 :: R) := S56.pick 1 (Nat.le_of_ble_eq_true rfl)
    exact hK38 _ _ _ y44.1 _ y44.2 eC41 S58 ⟨m53, rfl, h52⟩ h55 h
  ·
    obtain ⟨m_bag_here23, rfl, h69⟩ := hR67
    have e0 := e0.trans e65
    have h_script := upS h_script e65
    refine q_cut (A := A61) (fun (A_ : Hp) (σ_ : L2.St) (R_ : List Hp) (s : (List (List Int)) × Bag) => ∃ (ws_rows70 : List V) (m_bag_here70 : Hp), σ_ = [some v_script, some v6, some (.int y9.1), some (.ref p60), none, none, none, none, none, none, none] ∧ (one p60 (.lst ws_rows70)) :: m_bag_here70 :: R = R_ ∧ OL A_ ws_rows70 (s.1 : (List (List Int))) ∧ Ob.isAt A_ m_bag_here70 v6 (s.2 : Bag)) h (fun C71 N72 hN73 h => ?_) (fun A74 H75 σ81 R76 s77 e78 S79 hR80 h => ?_)
    ·
      have eK82 : Same A61 A61 := Same.refl _
      refine s_when ?_
      refine q_testS (A := A61) (fun (A_ : Hp) (R_ : List Hp) (s : Bag) => ∃ (m_bag_here83 : Hp), (one p60 (.lst ws64)) :: m_bag_here83 :: R = R_ ∧ Ob.isAt A_ m_bag_here83 v6 (s : Bag)) h (fun Qb85 hk84 h => ?_) (fun b86 A87 H88 R89 e90 S91 hR92 h => ?_)
      ·
        have eT93 : Same A61 A61 := Same.refl _
        refine c_and ?_
        refine c_tst (c_op (c_var rfl (c_tlst (c_nil (c_lst (α := (List Int)) (vs := []) (xs := []) (Nat.le_of_ble_eq_true rfl) trivial (ow S66 fun p94 ws95 H96 S97 h98 => ?_))))))
        refine c_neD (α := (List (List Int))) (x := y59.1) (y := ([] : List (List Int))) (dp_la S97 ⟨_, _, rfl, (S97.mem _ (List.mem_of_getElem? (i := 2) rfl)) _ _ one_same, h68⟩) (dp_la S97 ⟨_, _, rfl, (S97.mem _ (List.mem_of_getElem? (i := 1) rfl)) _ _ one_same, h98⟩) (Nat.le_of_ble_eq_true rfl) (c_bl (?_))
        refine c_andS h (fun hc h => ?_) (fun hc h => ?_)
        ·
          have S99 : St H96 (A61 :: m_bag_here23 :: (one p94 (.lst ws95)) :: (one p60 (.lst ws64)) :: R) := S97.pick 2 (Nat.le_of_ble_eq_true rfl)
          refine c_tst (c_op (c_call (c_cons (c_var rfl (c_cons (c_c (c_nil (⟨A61, ((one p94 (.lst ws95)) :: (one p60 (.lst ws64)) :: R), m_bag_here23, v6, y59.2, (3 : Int), rfl, S99, h69, ?_⟩))))))))
          refine Res.wp_mono (Res.wp_noex (Res.wp_bind h)) (fun y100 h A101 H102 m106 e103 S104 h105 => ?_) (fun _ _ h => h.elim)
          have e0 := e0.trans e103
          have eK82 := eK82.trans e103
          have eT93 := eT93.trans e103
          have h_script := upS h_script e103
          have h68 := OL.up h68 e103
          refine c_c (c_eqI (c_bl (?_)))
          have S107 : St H102 (A101 :: (one p60 (.lst ws64)) :: m106 :: (one p94 (.lst ws95)) :: R) := S104.pick 2 (Nat.le_of_ble_eq_true rfl)
          have S108 : St H102 (A101 :: (one p60 (.lst ws64)) :: m106 :: R) := S107.drop 2 (Nat.le_of_ble_eq_true rfl)
          exact hk84 _ y100.2 _ _ _ eT93 S108 ⟨m106, rfl, h105⟩ h
        ·
          have S109 : St H96 (A61 :: m_bag_here23 :: (one p94 (.lst ws95)) :: (one p60 (.lst ws64)) :: R) := S97.pick 2 (Nat.le_of_ble_eq_true rfl)
          have S110 : St H96 (A61 :: (one p60 (.lst ws64)) :: m_bag_here23 :: (one p94 (.lst ws95)) :: R) := S109.pick 2 (Nat.le_of_ble_eq_true rfl)
          have S111 : St H96 (A61 :: (one p60 (.lst ws64)) :: m_bag_here23 :: R) := S110.drop 2 (Nat.le_of_ble_eq_true rfl)
          exact hk84 _ y59.2 _ _ _ eT93 S111 ⟨m_bag_here23, rfl, h69⟩ h
      ·
        obtain ⟨m_bag_here83, rfl, h112⟩ := hR92
        have e0 := e0.trans e90
        have eK82 := eK82.trans e90
        have h_script := upS h_script e90
        have h68 := OL.up h68 e90
        refine c_if h (fun hc h => ?_) (fun hc h => ?_)
        ·
          refine s_drop ?_
          have S113 : St H88 (A87 :: m_bag_here83 :: (one p60 (.lst ws64)) :: R) := S91.pick 1 (Nat.le_of_ble_eq_true rfl)
          refine c_bm (c_var rfl (c_and2 (.inl ⟨rfl, _, SqL.of ((S91.mem _ (List.mem_of_getElem? (i := 1) rfl)) _ _ one_same)⟩) (c_cons (c_op (c_var rfl (c_call (c_cons (c_var rfl (c_cons (c_cb (c_cons (c_var rfl (c_nil (c_len ⟨_, _, rfl, (S91.mem _ (List.mem_of_getElem? (i := 1) rfl)) _ _ one_same, h68⟩ (c_nil (⟨A87, ((one p60 (.lst ws64)) :: R), m_bag_here83, v6, b86.2, (y59.1.length : Int), rfl, S113, h112, ?_⟩))))))))))))))))
          refine Res.wp_mono (Res.wp_noex (Res.wp_bind h)) (fun y114 h A115 H116 m120 e117 S118 h119 => ?_) (fun _ _ h => h.elim)
          have e0 := e0.trans e117
          have eK82 := eK82.trans e117
          have h_script := upS h_script e117
          have h68 := OL.up h68 e117
          refine c_ix ⟨_, _, rfl, (S118.mem _ (List.mem_of_getElem? (i := 2) rfl)) _ _ one_same, h68⟩ h fun t121 w122 h123 h => ?_
          refine c_nil (?_)
          have S124 : St H116 (A115 :: (one p60 (.lst ws64)) :: m120 :: R) := S118.pick 1 (Nat.le_of_ble_eq_true rfl)
          refine c_app (x := t121) S124 h68 h123 h fun t125 ws129 h H128 S127 h126 => ?_
          exact hN73 _ _ _ _ (t125, y114.2) eK82 S127 ⟨ws129, m120, rfl, rfl, h126, h119⟩ h
        ·
          exact hN73 _ _ _ _ (y59.1, b86.2) eK82 S91 ⟨ws64, m_bag_here83, rfl, rfl, h68, h112⟩ h
    ·
      obtain ⟨ws_rows70, m_bag_here70, rfl, rfl, h130, h131⟩ := hR80
      have e0 := e0.trans e78
      have h_script := upS h_script e78
      refine q_asg ?_
      refine c_tlst (c_nil (c_lst (α := Int) (vs := []) (xs := []) (Nat.le_of_ble_eq_true rfl) trivial (ow S79 fun p132 ws133 H134 S135 h136 => ?_)))
      have h138 := frz_is h136 S135
      have S139 := S135.frz
      have e137 := same_join_l (A := A74) (B := (one p132 (.lst ws133)))
      generalize hjA140 : join A74 (one p132 (.lst ws133)) = A140 at h138 S139 e137
      clear hjA140
      have e0 := e0.trans e137
      have h_script := upS h_script e137
      have h131 := upO h131 e137
      have h130 := OL.up h130 e137
      refine q_forL ?_
      refine c_var rfl (?_)
      have h142 := frz_is h130 S139
      have S143 := S139.frz
      have e141 := same_join_l (A := A140) (B := (one p60 (.lst ws_rows70)))
      generalize hjA144 : join A140 (one p60 (.lst ws_rows70)) = A144 at h142 S143 e141
      clear hjA144
      have e0 := e0.trans e141
      have h_script := upS h_script e141
      have h131 := upO h131 e141
      have h138 := up h138 e141
      refine c_forL (A := A144) (fun (A_ : Hp) (σ_ : L2.St) (R_ : List Hp) (s : (List Int)) => ∃ (w_due145 : V) (y_row_here145 : Option V), σ_ = [some v_script, some v6, some (.int y9.1), some (.ref p60), some w_due145, y_row_here145, none, none, none, none, none] ∧ m_bag_here70 :: R = R_ ∧ Is A_ w_due145 (s : (List Int))) S143 (fun Q' q => q) h142 ⟨(.ref p132), _, rfl, rfl, h138⟩ h (fun z146 w147 A148 H149 σ160 R150 s151 C152 N153 hz154 e155 S156 h157 hR158 hN159 h => ?_) (fun A161 H162 σ168 R163 s164 e165 S166 hR167 h => ?_)
      ·
        have eL169 : Same A144 A144 := Same.refl _
        obtain ⟨w_due145, y_row_here145, rfl, rfl, h170⟩ := hR158
        have e0 := e0.trans e155
        have eL169 := eL169.trans e155
        have h_script := upS h_script e155
        have h131 := upO h131 e155
        have h142 := up h142 e155
        refine s_asg ?_
        refine c_call (c_cons (c_var rfl (c_cons (c_var rfl (c_nil (⟨A148, (m_bag_here70 :: R), w_due145, s151, w147, z146, rfl, S156, h170, h157, ?_⟩))))))
        refine Res.wp_mono (Res.wp_noex (Res.wp_bind h)) (fun y171 h A172 H173 p176 ws177 e174 S175 h178 => ?_) (fun _ _ h => h.elim)
        have e0 := e0.trans e174
        have eL169 := eL169.trans e174
        have h_script := upS h_script e174
        have h131 := upO h131 e174
        have h142 := up h142 e174
        have h170 := up h170 e174
        have h157 := up h157 e174
        have h180 := frz_is h178 S175
        have S181 := S175.frz
        have e179 := same_join_l (A := A172) (B := (one p176 (.lst ws177)))
        generalize hjA182 : join A172 (one p176 (.lst ws177)) = A182 at h180 S181 e179
        clear hjA182
        have e0 := e0.trans e179
        have eL169 := eL169.trans e179
        have h_script := upS h_script e179
        have h131 := upO h131 e179
        have h142 := up h142 e179
        have h170 := up h170 e179
        have h157 := up h157 e179
        exact hN159 _ _ _ _ y171 eL169 S181 ⟨(.ref p176), _, rfl, rfl, h180⟩ h
      ·
        refine nx_mk ?_
        obtain ⟨w_due145, y_row_here145, rfl, rfl, h183⟩ := hR167
        have e0 := e0.trans e165
        have h_script := upS h_script e165
        have h131 := upO h131 e165
        have h142 := up h142 e165
        refine q_asg ?_
        refine c_lcE ?_
        refine c_var rfl (?_)
        refine c_lcL (A := A161) (R := m_bag_here70 :: R) (tt := tYes) (te := (tCB (Evl.rListS K) (tCons (tVar 5) tNil))) (vs := [5]) (j := 5) (xs := s77.1) (fun _ => true) (fun z184 => z184) S166 (fun Q' q => q) h142 h (fun _ => rfl) (fun _ _ _ _ _ _ _ => yes_ok) ?_ (fun p210 A211 H212 ws213 t209 h e214 S215 h216 => ?_)
        ·
          intro z184 w185 A186 n187 hm197 e190 h195 hf196 A188 H189 e191 S192 Q193 hk194
          have e0 := e0.trans (e190.trans e191)
          have e198 := e190.trans e191
          have h_script := upS h_script e198
          have h131 := upO h131 e198
          have h142 := up h142 e198
          have h183 := up h183 e198
          have eC199 : Same A188 A188 := Same.refl _
          have h195 := up h195 e191
          refine c_cb (c_cons (c_var rfl (c_nil (c_list (la_of S192 h195) (ow S192 fun p200 ws201 H202 S203 h204 => ?_)))))
          have h206 := frz_is h204 S203
          have S207 := S203.frz
          have e205 := same_join_l (A := A188) (B := (one p200 (.lst ws201)))
          generalize hjA208 : join A188 (one p200 (.lst ws201)) = A208 at h206 S207 e205
          clear hjA208
          have e0 := e0.trans e205
          have eC199 := eC199.trans e205
          have h_script := upS h_script e205
          have h131 := upO h131 e205
          have h142 := up h142 e205
          have h183 := up h183 e205
          have h195 := up h195 e205
          exact hk194 _ _ _ eC199 S207 h206
        ·
          have e0 := e0.trans e214
          have h_script := upS h_script e214
          have h131 := upO h131 e214
          have h142 := up h142 e214
          have h183 := up h183 e214
          refine q_cut (A := A211) (fun (A_ : Hp) (σ_ : L2.St) (R_ : List Hp) (s : (List (List Int))) => ∃ (ws_handed217 : List V), σ_ = [some v_script, some v6, some (.int y9.1), some (.ref p60), some w_due145, y_row_here145, some (.ref p210), none, none, none, none] ∧ (one p210 (.lst ws_handed217)) :: m_bag_here70 :: R = R_ ∧ OL A_ ws_handed217 (s : (List (List Int)))) h (fun C218 N219 hN220 h => ?_) (fun A221 H222 σ228 R223 s224 e225 S226 hR227 h => ?_)
          ·
            have eK229 : Same A211 A211 := Same.refl _
            refine s_when ?_
            refine q_test (A := A211) (R := (one p210 (.lst ws213)) :: m_bag_here70 :: R) h (fun Qb232 hk231 h => ?_) (fun b230 A233 H234 e235 S236 h => ?_)
            ·
              have eT237 : Same A211 A211 := Same.refl _
              refine c_and ?_
              refine c_tst (c_op (c_cb (c_cons (c_var rfl (c_nil (c_len (la_of S215 h142) (c_c (c_I0 (c_bl (?_))))))))))
              refine c_andR h (fun hc h => ?_) (fun hc h => ?_)
              ·
                refine c_tst (c_op (c_op (c_var rfl (c_un (c_c (c_U (c_ix (la_of S215 h142) h fun t238 w239 h240 h => ?_)))))))
                refine c_op (c_var rfl (c_c (c_ix (la_of S215 h142) h fun t241 w242 h243 h => ?_)))
                refine c_eqD (α := (List Int)) (x := t238) (y := t241) (dp_of S215 h240) (dp_of S215 h243) (Nat.le_of_ble_eq_true rfl) (c_bl (?_))
                exact hk231 _ _ _ eT237 S215 h
              ·
                exact hk231 _ _ _ eT237 S215 h
            ·
              have e0 := e0.trans e235
              have eK229 := eK229.trans e235
              have h_script := upS h_script e235
              have h131 := upO h131 e235
              have h142 := up h142 e235
              have h183 := up h183 e235
              have h216 := OL.up h216 e235
              refine c_if h (fun hc h => ?_) (fun hc h => ?_)
              ·
                refine s_sub (c_op (c_var rfl (c_c (c_ix ⟨_, _, rfl, (S236.mem _ (List.mem_of_getElem? (i := 1) rfl)) _ _ one_same, h216⟩ h fun t244 w245 h246 h => ?_))))
                refine c_var rfl (c_un (c_c (c_U (?_))))
                refine c_set (x := t244) S236 h216 h246 h fun t247 ws251 h H250 S249 h248 => ?_
                exact hN220 _ _ _ _ t247 eK229 S249 ⟨ws251, rfl, rfl, h248⟩ h
              ·
                exact hN220 _ _ _ _ t209 eK229 S236 ⟨ws213, rfl, rfl, h216⟩ h
          ·
            obtain ⟨ws_handed217, rfl, rfl, h252⟩ := hR227
            have e0 := e0.trans e225
            have h_script := upS h_script e225
            have h131 := upO h131 e225
            have h142 := up h142 e225
            have h183 := up h183 e225
            refine q_asg ?_
            have h255 := frz_is h252 S226
            have S253 := S226.frz
            have e254 := same_join_l (A := A221) (B := (one p210 (.lst ws_handed217)))
            refine c_call (c_cons (c_var rfl (c_nil (⟨(join A221 (one p210 (.lst ws_handed217))), (m_bag_here70 :: R), (.ref p210), s224, rfl, S253, h255, ?_⟩))))
            refine Res.wp_mono (Res.wp_noex (Res.wp_bind h)) (fun y256 h A257 H258 p261 ws262 e259 S260 h263 => ?_) (fun _ _ h => h.elim)
            have S264 := S260.back1 ((same_join_r S226.dj).trans e259)
            have e265 := same_minus S226 e259
            generalize minus A257 (one p210 (.lst ws_handed217)) = A266 at S264 e265
            have e0 := e0.trans e265
            have h_script := upS h_script e265
            have h131 := upO h131 e265
            have h142 := up h142 e265
            have h183 := up h183 e265
            have h252 := OL.up h252 e265
            have h263 : OL A266 _ _ := OL.any h263
            refine q_when ?_
            refine q_test (A := A266) (R := (one p210 (.lst ws_handed217)) :: (one p261 (.lst ws262)) :: m_bag_here70 :: R) h (fun Qb269 hk268 h => ?_) (fun b267 A270 H271 e272 S273 h => ?_)
            ·
              have eT274 : Same A266 A266 := Same.refl _
              refine c_or ?_
              have S275 : St H258 (A266 :: (one p261 (.lst ws262)) :: (one p210 (.lst ws_handed217)) :: m_bag_here70 :: R) := S264.pick 1 (Nat.le_of_ble_eq_true rfl)
              have h278 := frz_is h263 S275
              have S276 := S275.frz
              have e277 := same_join_l (A := A266) (B := (one p261 (.lst ws262)))
              refine c_not (b := true) (c_tb (c_call (c_cons (c_var rfl (c_cons (c_var rfl (c_nil (⟨(join A266 (one p261 (.lst ws262))), ((one p210 (.lst ws_handed217)) :: m_bag_here70 :: R), (.ref p261), y256, w_due145, s164, rfl, S276, h278, (up h183 e277), ?_⟩))))))))
              refine Res.wp_mono (Res.wp_noex (Res.wp_bind h)) (fun y279 h A280 H281 e282 S283 => ?_) (fun _ _ h => h.elim)
              have S284 := S283.back1 ((same_join_r S275.dj).trans e282)
              have e285 := same_minus S275 e282
              generalize minus A280 (one p261 (.lst ws262)) = A286 at S284 e285
              have e0 := e0.trans e285
              have eT274 := eT274.trans e285
              have h_script := upS h_script e285
              have h131 := upO h131 e285
              have h142 := up h142 e285
              have h183 := up h183 e285
              have h252 := OL.up h252 e285
              have h263 := OL.up h263 e285
              refine c_bl (?_)
              refine c_orR h (fun hc h => ?_) (fun hc h => ?_)
              ·
                have S287 : St H281 (A286 :: m_bag_here70 :: (one p261 (.lst ws262)) :: (one p210 (.lst ws_handed217)) :: R) := S284.pick 2 (Nat.le_of_ble_eq_true rfl)
                have S288 : St H281 (A286 :: (one p261 (.lst ws262)) :: m_bag_here70 :: (one p210 (.lst ws_handed217)) :: R) := S287.pick 1 (Nat.le_of_ble_eq_true rfl)
                have S289 : St H281 (A286 :: (one p210 (.lst ws_handed217)) :: (one p261 (.lst ws262)) :: m_bag_here70 :: R) := S288.pick 2 (Nat.le_of_ble_eq_true rfl)
                exact hk268 _ _ _ eT274 S289 h
              ·
                refine c_tst (c_op (c_var rfl (c_var rfl (c_neD (α := (List (List Int))) (x := s224) (y := s77.1) (dp_la S284 ⟨_, _, rfl, (S284.mem _ (List.mem_of_getElem? (i := 2) rfl)) _ _ one_same, h252⟩) (dp_of S284 h142) (Nat.le_of_ble_eq_true rfl) (c_bl (?_))))))
                have S290 : St H281 (A286 :: m_bag_here70 :: (one p261 (.lst ws262)) :: (one p210 (.lst ws_handed217)) :: R) := S284.pick 2 (Nat.le_of_ble_eq_true rfl)
                have S291 : St H281 (A286 :: (one p261 (.lst ws262)) :: m_bag_here70 :: (one p210 (.lst ws_handed217)) :: R) := S290.pick 1 (Nat.le_of_ble_eq_true rfl)
                have S292 : St H281 (A286 :: (one p210 (.lst ws_handed217)) :: (one p261 (.lst ws262)) :: m_bag_here70 :: R) := S291.pick 2 (Nat.le_of_ble_eq_true rfl)
                exact hk268 _ _ _ eT274 S292 h
            ·
              have e0 := e0.trans e272
              have h_script := upS h_script e272
              have h131 := upO h131 e272
              have h142 := up h142 e272
              have h183 := up h183 e272
              have h252 := OL.up h252 e272
              have h263 := OL.up h263 e272
              refine c_if h (fun hc h => ?_) (fun hc h => ?_)
              ·
                refine s_ret ?_
                refine c_c (?_)
                have S293 : St H271 (A270 :: (one p261 (.lst ws262)) :: m_bag_here70 :: R) := S273.drop 0 (Nat.le_of_ble_eq_true rfl)
                have S294 : St H271 (A270 :: m_bag_here70 :: R) := S293.drop 0 (Nat.le_of_ble_eq_true rfl)
                have S295 : St H271 (A270 :: R) := S294.drop 0 (Nat.le_of_ble_eq_true rfl)
                exact h (A270) (H271) e0 S295 
              ·
                refine q_drop ?_
                refine c_bm (c_var rfl (c_and2 (.inl ⟨rfl, _, SqL.of ((S273.mem _ (List.mem_of_getElem? (i := 2) rfl)) _ _ one_same)⟩) (c_cons (c_c (c_nil (?_))))))
                have S296 : St H271 (A270 :: (one p261 (.lst ws262)) :: (one p210 (.lst ws_handed217)) :: m_bag_here70 :: R) := S273.pick 1 (Nat.le_of_ble_eq_true rfl)
                refine c_app (x := (5 : Int)) S296 h263 rfl h fun t297 ws301 h H300 S299 h298 => ?_
                refine q_when ?_
                refine q_test (A := A270) (R := (one p261 (.lst ws301)) :: (one p210 (.lst ws_handed217)) :: m_bag_here70 :: R) h (fun Qb304 hk303 h => ?_) (fun b302 A305 H306 e307 S308 h => ?_)
                ·
                  have eT309 : Same A270 A270 := Same.refl _
                  refine c_or ?_
                  refine c_tst (c_op (c_var rfl (c_var rfl (c_neD (α := (List (List Int))) (x := s224) (y := s77.1) (dp_la S299 ⟨_, _, rfl, (S299.mem _ (List.mem_of_getElem? (i := 2) rfl)) _ _ one_same, h252⟩) (dp_of S299 h142) (Nat.le_of_ble_eq_true rfl) (c_bl (?_))))))
                  refine c_orR h (fun hc h => ?_) (fun hc h => ?_)
                  ·
                    exact hk303 _ _ _ eT309 S299 h
                  ·
                    have S310 : St H300 (A270 :: (one p210 (.lst ws_handed217)) :: (one p261 (.lst ws301)) :: m_bag_here70 :: R) := S299.pick 1 (Nat.le_of_ble_eq_true rfl)
                    have h313 := frz_is h252 S310
                    have S311 := S310.frz
                    have e312 := same_join_l (A := A270) (B := (one p210 (.lst ws_handed217)))
                    refine c_not (b := true) (c_tb (c_call (c_cons (c_call (c_cons (c_var rfl (c_nil (⟨(join A270 (one p210 (.lst ws_handed217))), ((one p261 (.lst ws301)) :: m_bag_here70 :: R), (.ref p210), s224, rfl, S311, h313, ?_⟩))))))))
                    refine Res.wp_mono (Res.wp_noex (Res.wp_bind h)) (fun y314 h A315 H316 p319 ws320 e317 S318 h321 => ?_) (fun _ _ h => h.elim)
                    have S322 := S318.back1 ((same_join_r S310.dj).trans e317)
                    have e323 := same_minus S310 e317
                    generalize minus A315 (one p210 (.lst ws_handed217)) = A324 at S322 e323
                    have e0 := e0.trans e323
                    have eT309 := eT309.trans e323
                    have h_script := upS h_script e323
                    have h131 := upO h131 e323
                    have h142 := up h142 e323
                    have h183 := up h183 e323
                    have h252 := OL.up h252 e323
                    have h298 := OL.up h298 e323
                    have h321 : OL A324 _ _ := OL.any h321
                    have S325 : St H316 (A324 :: (one p319 (.lst ws320)) :: (one p210 (.lst ws_handed217)) :: (one p261 (.lst ws301)) :: m_bag_here70 :: R) := S322.pick 1 (Nat.le_of_ble_eq_true rfl)
                    have h327 := frz_is h321 S325
                    have S328 := S325.frz
                    have e326 := same_join_l (A := A324) (B := (one p319 (.lst ws320)))
                    generalize hjA329 : join A324 (one p319 (.lst ws320)) = A329 at h327 S328 e326
                    clear hjA329
                    have e0 := e0.trans e326
                    have eT309 := eT309.trans e326
                    have h_script := upS h_script e326
                    have h131 := upO h131 e326
                    have h142 := up h142 e326
                    have h183 := up h183 e326
                    have h252 := OL.up h252 e326
                    have h298 := OL.up h298 e326
                    refine c_cons (c_var rfl (c_nil (⟨A329, ((one p210 (.lst ws_handed217)) :: (one p261 (.lst ws301)) :: m_bag_here70 :: R), (.ref p319), y314, w_due145, s164, rfl, S328, h327, h183, ?_⟩)))
                    refine Res.wp_mono (Res.wp_noex (Res.wp_bind h)) (fun y330 h A331 H332 e333 S334 => ?_) (fun _ _ h => h.elim)
                    have e0 := e0.trans e333
                    have eT309 := eT309.trans e333
                    have h_script := upS h_script e333
                    have h131 := upO h131 e333
                    have h142 := up h142 e333
                    have h183 := up h183 e333
                    have h252 := OL.up h252 e333
                    have h298 := OL.up h298 e333
                    refine c_bl (?_)
                    have S335 : St H332 (A331 :: m_bag_here70 :: (one p210 (.lst ws_handed217)) :: (one p261 (.lst ws301)) :: R) := S334.pick 2 (Nat.le_of_ble_eq_true rfl)
                    have S336 : St H332 (A331 :: (one p210 (.lst ws_handed217)) :: m_bag_here70 :: (one p261 (.lst ws301)) :: R) := S335.pick 1 (Nat.le_of_ble_eq_true rfl)
                    have S337 : St H332 (A331 :: (one p261 (.lst ws301)) :: (one p210 (.lst ws_handed217)) :: m_bag_here70 :: R) := S336.pick 2 (Nat.le_of_ble_eq_true rfl)
                    exact hk303 _ _ _ eT309 S337 h
                ·
                  have e0 := e0.trans e307
                  have h_script := upS h_script e307
                  have h131 := upO h131 e307
                  have h142 := up h142 e307
                  have h183 := up h183 e307
                  have h252 := OL.up h252 e307
                  have h298 := OL.up h298 e307
                  refine c_if h (fun hc h => ?_) (fun hc h => ?_)
                  ·
                    refine s_ret ?_
                    refine c_c (?_)
                    have S338 : St H306 (A305 :: (one p210 (.lst ws_handed217)) :: m_bag_here70 :: R) := S308.drop 0 (Nat.le_of_ble_eq_true rfl)
                    have S339 : St H306 (A305 :: m_bag_here70 :: R) := S338.drop 0 (Nat.le_of_ble_eq_true rfl)
                    have S340 : St H306 (A305 :: R) := S339.drop 0 (Nat.le_of_ble_eq_true rfl)
                    exact h (A305) (H306) e0 S340 
                  ·
                    refine q_when ?_
                    refine c_tst (c_op (c_var rfl (c_tlst (c_nil (c_lst (α := (List Int)) (vs := []) (xs := []) (Nat.le_of_ble_eq_true rfl) trivial (ow S308 fun p341 ws342 H343 S344 h345 => ?_))))))
                    refine c_eqD (α := (List (List Int))) (x := s77.1) (y := ([] : List (List Int))) (dp_of S344 h142) (dp_la S344 ⟨_, _, rfl, (S344.mem _ (List.mem_of_getElem? (i := 1) rfl)) _ _ one_same, h345⟩) (Nat.le_of_ble_eq_true rfl) (c_bl (?_))
                    refine c_if h (fun hc h => ?_) (fun hc h => ?_)
                    ·
                      refine s_ret ?_
                      refine c_op (c_call (c_cons (c_tlst (c_nil (c_lst (α := Int) (vs := []) (xs := []) (Nat.le_of_ble_eq_true rfl) trivial (ow S344 fun p346 ws347 H348 S349 h350 => ?_))))))
                      refine c_cons (c_tlst (c_nil (c_lst (α := Int) (vs := []) (xs := []) (Nat.le_of_ble_eq_true rfl) trivial (ow S349 fun p351 ws352 H353 S354 h355 => ?_))))
                      have S356 : St H353 (A305 :: (one p346 (.lst ws347)) :: (one p351 (.lst ws352)) :: (one p341 (.lst ws342)) :: (one p261 (.lst ws301)) :: (one p210 (.lst ws_handed217)) :: m_bag_here70 :: R) := S354.pick 1 (Nat.le_of_ble_eq_true rfl)
                      have h358 := frz_is h350 S356
                      have S359 := S356.frz
                      have e357 := same_join_l (A := A305) (B := (one p346 (.lst ws347)))
                      generalize hjA360 : join A305 (one p346 (.lst ws347)) = A360 at h358 S359 e357
                      clear hjA360
                      have e0 := e0.trans e357
                      have h_script := upS h_script e357
                      have h131 := upO h131 e357
                      have h142 := up h142 e357
                      have h183 := up h183 e357
                      have h252 := OL.up h252 e357
                      have h298 := OL.up h298 e357
                      have h355 := OL.up h355 e357
                      have h362 := frz_is h355 S359
                      have S363 := S359.frz
                      have e361 := same_join_l (A := A360) (B := (one p351 (.lst ws352)))
                      generalize hjA364 : join A360 (one p351 (.lst ws352)) = A364 at h362 S363 e361
                      clear hjA364
                      have e0 := e0.trans e361
                      have h_script := upS h_script e361
                      have h131 := upO h131 e361
                      have h142 := up h142 e361
                      have h183 := up h183 e361
                      have h252 := OL.up h252 e361
                      have h298 := OL.up h298 e361
                      have h358 := up h358 e361
                      refine c_nil (⟨A364, ((one p341 (.lst ws342)) :: (one p261 (.lst ws301)) :: (one p210 (.lst ws_handed217)) :: m_bag_here70 :: R), (.ref p346), ([] : List Int), (.ref p351), ([] : List Int), rfl, S363, h358, h362, ?_⟩)
                      refine Res.wp_mono (Res.wp_noex (Res.wp_bind h)) (fun y365 h A366 H367 e368 S369 => ?_) (fun _ _ h => h.elim)
                      have e0 := e0.trans e368
                      have h_script := upS h_script e368
                      have h131 := upO h131 e368
                      have h142 := up h142 e368
                      have h183 := up h183 e368
                      have h252 := OL.up h252 e368
                      have h298 := OL.up h298 e368
                      refine c_c (c_isB (?_))
                      have S370 : St H367 (A366 :: (one p261 (.lst ws301)) :: (one p210 (.lst ws_handed217)) :: m_bag_here70 :: R) := S369.drop 0 (Nat.le_of_ble_eq_true rfl)
                      have S371 : St H367 (A366 :: (one p210 (.lst ws_handed217)) :: m_bag_here70 :: R) := S370.drop 0 (Nat.le_of_ble_eq_true rfl)
                      have S372 : St H367 (A366 :: m_bag_here70 :: R) := S371.drop 0 (Nat.le_of_ble_eq_true rfl)
                      have S373 : St H367 (A366 :: R) := S372.drop 0 (Nat.le_of_ble_eq_true rfl)
                      exact h (A366) (H367) e0 S373 
                    ·
                      refine q_asg ?_
                      refine c_lcE ?_
                      refine c_op (c_var rfl (c_c (c_ix (la_of S344 h142) h fun t374 w375 h376 h => ?_)))
                      refine c_lcGL (A := A305) (R := (one p341 (.lst ws342)) :: (one p261 (.lst ws301)) :: (one p210 (.lst ws_handed217)) :: m_bag_here70 :: R) (tt := (tTest (tOp (rIn K false) (tVar 10) (tOp (rIxL K) (tVar 3) (tUn (rU fun i => .int (-i)) (tC (.int 1))))))) (te := (tVar 10)) (vs := [10]) (j := 10) (xs := t374) (fun (A_ : Hp) (R_ : List Hp) (s : Unit) => (one p341 (.lst ws342)) :: (one p261 (.lst ws301)) :: (one p210 (.lst ws_handed217)) :: m_bag_here70 :: R = R_) S344 (fun Q' q => q) h376 rfl h (fun _ => rfl) (fun z378 w379 A380 H381 R382 s383 n384 C385 K1_386 K0_387 hz388 e389 S390 hR391 hK392 hK393 h => ?_) (fun p400 A401 H402 R403 ws404 y399 h e405 S406 hR407 h408 => ?_)
                      ·
                        obtain ⟨hz388, h394⟩ := hz388
                        have eC395 : Same A380 A380 := Same.refl _
                        obtain rfl := hR391
                        have e0 := e0.trans e389
                        have h_script := upS h_script e389
                        have h131 := upO h131 e389
                        have h142 := up h142 e389
                        have h183 := up h183 e389
                        have h252 := OL.up h252 e389
                        have h298 := OL.up h298 e389
                        obtain rfl : w379 = (.int z378) := h394
                        refine c_tst (c_op (c_var rfl (c_op (c_var rfl (c_un (c_c (c_U (c_ix (la_of S390 h142) h fun t396 w397 h398 h => ?_))))))))
                        refine c_in (la_of S390 h398) (c_bl (?_))
                        refine c_if h (fun hc h => ?_) (fun hc h => ?_)
                        ·
                          refine c_var rfl (?_)
                          exact hK392 _ _ _ z378 _ () eC395 S390 rfl rfl h
                        ·
                          exact hK393 _ _ _ () eC395 S390 rfl h
                      ·
                        obtain rfl := hR407
                        have e0 := e0.trans e405
                        have h_script := upS h_script e405
                        have h131 := upO h131 e405
                        have h142 := up h142 e405
                        have h183 := up h183 e405
                        have h252 := OL.up h252 e405
                        have h298 := OL.up h298 e405
                        have h410 := frz_is h408 S406
                        have S411 := S406.frz
                        have e409 := same_join_l (A := A401) (B := (one p400 (.lst ws404)))
                        generalize hjA412 : join A401 (one p400 (.lst ws404)) = A412 at h410 S411 e409
                        clear hjA412
                        have e0 := e0.trans e409
                        have h_script := upS h_script e409
                        have h131 := upO h131 e409
                        have h142 := up h142 e409
                        have h183 := up h183 e409
                        have h252 := OL.up h252 e409
                        have h298 := OL.up h298 e409
                        refine s_ret ?_
                        refine c_andV (c_call (c_cons (c_call (c_cons (c_op (c_var rfl (c_c (c_ix ⟨_, _, rfl, (S411.mem _ (List.mem_of_getElem? (i := 3) rfl)) _ _ one_same, h252⟩ h fun t413 w414 h415 h => ?_))))))))
                        refine c_cons (c_op (c_var rfl (c_un (c_c (c_U (c_ix ⟨_, _, rfl, (S411.mem _ (List.mem_of_getElem? (i := 3) rfl)) _ _ one_same, h252⟩ h fun t416 w417 h418 h => ?_))))))
                        refine c_nil (⟨A412, ((one p341 (.lst ws342)) :: (one p261 (.lst ws301)) :: (one p210 (.lst ws_handed217)) :: m_bag_here70 :: R), w414, t413, w417, t416, rfl, S411, h415, h418, ?_⟩)
                        refine Res.wp_mono (Res.wp_noex (Res.wp_bind h)) (fun y419 h A420 H421 e422 S423 => ?_) (fun _ _ h => h.elim)
                        have e0 := e0.trans e422
                        have h_script := upS h_script e422
                        have h131 := upO h131 e422
                        have h142 := up h142 e422
                        have h183 := up h183 e422
                        have h252 := OL.up h252 e422
                        have h298 := OL.up h298 e422
                        have h410 := up h410 e422
                        refine c_cons (c_op (c_op (c_cb (c_cons (c_var rfl (c_nil (c_len (la_of S423 h410) (c_c (c_mod h fun h => ?_)))))))))
                        refine c_c (c_eqI (c_nil (⟨A420, ((one p341 (.lst ws342)) :: (one p261 (.lst ws301)) :: (one p210 (.lst ws_handed217)) :: m_bag_here70 :: R), y419, (decide (((y399.1.length : Int) % (2 : Int)) = (0 : Int))), rfl, S423, ?_⟩)))
                        refine Res.wp_mono (Res.wp_noex (Res.wp_bind h)) (fun y425 h A426 H427 e428 S429 => ?_) (fun _ _ h => h.elim)
                        have e0 := e0.trans e428
                        have h_script := upS h_script e428
                        have h131 := upO h131 e428
                        have h142 := up h142 e428
                        have h183 := up h183 e428
                        have h252 := OL.up h252 e428
                        have h298 := OL.up h298 e428
                        have h410 := up h410 e428
                        refine c_bl (?_)
                        refine c_if h (fun hc h => ?_) (fun hc h => ?_)
                        ·
                          refine c_op (c_var rfl (c_var rfl (c_eqD (α := (List (List Int))) (x := s224) (y := s77.1) (dp_la S429 ⟨_, _, rfl, (S429.mem _ (List.mem_of_getElem? (i := 3) rfl)) _ _ one_same, h252⟩) (dp_of S429 h142) (Nat.le_of_ble_eq_true rfl) (?_))))
                          have S430 : St H427 (A426 :: (one p261 (.lst ws301)) :: (one p210 (.lst ws_handed217)) :: m_bag_here70 :: R) := S429.drop 0 (Nat.le_of_ble_eq_true rfl)
                          have S431 : St H427 (A426 :: (one p210 (.lst ws_handed217)) :: m_bag_here70 :: R) := S430.drop 0 (Nat.le_of_ble_eq_true rfl)
                          have S432 : St H427 (A426 :: m_bag_here70 :: R) := S431.drop 0 (Nat.le_of_ble_eq_true rfl)
                          have S433 : St H427 (A426 :: R) := S432.drop 0 (Nat.le_of_ble_eq_true rfl)
                          exact h (A426) (H427) e0 S433 
                        ·
                          have S434 : St H427 (A426 :: (one p261 (.lst ws301)) :: (one p210 (.lst ws_handed217)) :: m_bag_here70 :: R) := S429.drop 0 (Nat.le_of_ble_eq_true rfl)
                          have S435 : St H427 (A426 :: (one p210 (.lst ws_handed217)) :: m_bag_here70 :: R) := S434.drop 0 (Nat.le_of_ble_eq_true rfl)
                          have S436 : St H427 (A426 :: m_bag_here70 :: R) := S435.drop 0 (Nat.le_of_ble_eq_true rfl)
                          have S437 : St H427 (A426 :: R) := S436.drop 0 (Nat.le_of_ble_eq_true rfl)
                          exact h (A426) (H427) e0 S437 
abbrev s_law : Stmt := topS 20
theorem sc_law : FnScope ["_law_script", "_law_bag_here", "_law_scale_here", "_law_rows", "_law_due", "_law_row_here", "_law_handed", "_law_found", "_law_both", "_law_k", "_law_x"] ["_law_script"] (defScope s_law) := ⟨rfl, rfl, rfl, by decide +kernel, rfl, by decide +kernel, by decide +kernel⟩
theorem ok_law {P : Program} {w : World} {K : PySem.W.Frag} {mg : Str → Option Value} {base : Heap} {T : Cs} {f : Addr} {fd : FuncData} {f_law_bag : Addr} {fd_law_bag : FuncData} {f_law_scale : Addr} {fd_law_scale : FuncData} {f_law_pull : Addr} {fd_law_pull : FuncData} {f_law_numbers : Addr} {fd_law_numbers : FuncData} {f_law_join : Addr} {fd_law_join : FuncData} {f_total : Addr} {fd_total : FuncData} {f_law_same : Addr} {fd_law_same : FuncData} {f_evenly : Addr} {fd_evenly : FuncData} {f_law_truth : Addr} {fd_law_truth : FuncData} (F : Fun K "law" "law" s_law f fd) (bi : Bi mg) (G_law_bag : Glob P w K mg base CX0 1 "_law_bag" ["_law_script"] (sp_law_bag T K) f_law_bag fd_law_bag) (G_law_scale : Glob P w K mg base CX0 2 "_law_scale" ["_law_bag_here"] (sp_law_scale T K) f_law_scale fd_law_scale) (G_law_pull : Glob P w K mg base CX0 1 "_law_pull" ["_law_bag_here", "_law_many"] (sp_law_pull T K) f_law_pull fd_law_pull) (G_law_numbers : Glob P w K mg base CX0 2 "_law_numbers" ["_law_bag_here", "_law_scale_here"] (sp_law_numbers T K) f_law_numbers fd_law_numbers) (G_law_join : Glob P w K mg base CX0 1 "_law_join" ["_law_one", "_law_other"] (sp_law_join T K) f_law_join fd_law_join) (G_total : Glob P w K mg base CX0 3 "total" ["rows"] (sp_total T K) f_total fd_total) (G_law_same : Glob P w K mg base CX0 3 "_law_same" ["_law_found", "_law_due"] (sp_law_same T K) f_law_same fd_law_same) (G_evenly : Glob P w K mg base (L2.CX P w) 3 "evenly" ["one", "other"] (sp_evenly T K) f_evenly fd_evenly) (G_law_truth : Glob P w K mg base CX0 1 "_law_truth" ["_law_found", "_law_due"] (sp_law_truth T K) f_law_truth fd_law_truth)  : FnOk P w K mg base CX0 4 f fd ["_law_script"] (sp_law T K) := by
  refine F.ok sc_law (fun vs H Q E h => ?_) (fun cdv A outer s H vs Q E hr h => ⟨rd_law T K E, ?_, wk_law h⟩)
  · obtain ⟨_, _, _, _, rfl, _⟩ := h
    rfl
  · exact (pss_cons (ps_set (i := 1) sc_law.nd rfl (Or.inr rfl) (pe_call G_law_bag.ok (hr.mono (Nat.le_of_ble_eq_true rfl)) (by rfl) G_law_bag.g G_law_bag.kp G_law_bag.b .nil pass0 (pa_cons (pv 0) pa_nil)))
      (pss_cons (ps_set (i := 2) sc_law.nd rfl (Or.inr rfl) (pe_call G_law_scale.ok (hr.mono (Nat.le_of_ble_eq_true rfl)) (by rfl) G_law_scale.g G_law_scale.kp G_law_scale.b .nil pass0 (pa_cons (pv 1) pa_nil)))
      (pss_cons (ps_set (i := 3) sc_law.nd rfl (Or.inr rfl) (pe_lc (own := [("_law_k", 9)]) (g := gName 9) (tt := tYes) (te := (tCall (sp_law_numbers T K) [] E0 (tCons (tVar 1) (tCons (tVar 2) tNil)))) rfl sc_law.nd (pi_range1 (by rfl) bi.range (pa_cons (pe_call G_law_pull.ok (hr.mono (Nat.le_of_ble_eq_true rfl)) (by rfl) G_law_pull.g G_law_pull.kp G_law_pull.b .nil pass0 (pa_cons (pv 1) (pa_cons pe_int pa_nil))) pa_nil)) (blkOk_by (own := [("_law_k", 9)]) (N := ["_law_script", "_law_bag_here", "_law_scale_here", "_law_rows", "_law_due", "_law_row_here", "_law_handed", "_law_found", "_law_both", "_law_k", "_law_x"]) (sc := defScope s_law) (by decide +kernel)) (fun _ _ _ _ _ => pg_name (i := 9) sc_law.nd rfl (Or.inl rfl)) (fun _ _ _ _ _ => pts_nil) (fun _ _ _ _ _ => (pe_call G_law_numbers.ok (hr.mono (Nat.le_of_ble_eq_true rfl)) (by rfl) G_law_numbers.g G_law_numbers.kp G_law_numbers.b .nil pass0 (pa_cons (pv 1) (pa_cons (pv 2) pa_nil))))))
      (Evl.pss_cut (ps_if (PW.pt (pw_and (pt_cmpR (op_neD hr.units) (pv 3) (pe_lst pa_nil) (nomark _)) (pw_and1 (pt_cmpR op_eq (pe_call G_law_pull.ok (hr.mono (Nat.le_of_ble_eq_true rfl)) (by rfl) G_law_pull.g G_law_pull.kp G_law_pull.b .nil pass0 (pa_cons (pv 1) (pa_cons pe_int pa_nil))) pe_int (nomark _))))) (pss_one (ps_expr (pe_bm PySem.F.plainAttrs_list PySem.F.slot_list_append PySem.F.type_list_append mt_append (pv 3) (pa_cons (pe_ix ix_list (pv 3) (pe_call G_law_pull.ok (hr.mono (Nat.le_of_ble_eq_true rfl)) (by rfl) G_law_pull.g G_law_pull.kp G_law_pull.b .nil pass0 (pa_cons (pv 1) (pa_cons (pe_callB call_len_seq (by rfl) bi.len PySem.boot_len (pa_cons (pv 3) pa_nil)) pa_nil))) (fun _ _ => rfl)) pa_nil)))) pss_nil)
      (pss_cons (ps_set (i := 4) sc_law.nd rfl (Or.inl rfl) (pe_lst pa_nil))
      (pss_cons (ps_for PassesOwn.never rfl (pi_list (pv 3)) (pg_name (i := 5) sc_law.nd rfl (Or.inl rfl)) (pss_one (ps_set (i := 4) sc_law.nd rfl (Or.inl rfl) (pe_call G_law_join.ok (hr.mono (Nat.le_of_ble_eq_true rfl)) (by rfl) G_law_join.g G_law_join.kp G_law_join.b .nil pass0 (pa_cons (pv 4) (pa_cons (pv 5) pa_nil))))))
      (pss_cons (ps_setLc (i := 6) (own := [("_law_row_here", 5)]) (g := gName 5) (tt := tYes) (te := (tCB (Evl.rListS K) (tCons (tVar 5) tNil))) rfl sc_law.nd rfl rfl (sw_true rfl rfl rfl (by decide +kernel)) (pi_list (pv 3)) (blkOk_by (own := [("_law_row_here", 5)]) (N := ["_law_script", "_law_bag_here", "_law_scale_here", "_law_rows", "_law_due", "_law_row_here", "_law_handed", "_law_found", "_law_both", "_law_k", "_law_x"]) (sc := defScope s_law) (by decide +kernel)) (fun _ _ _ _ _ => pg_name (i := 5) sc_law.nd rfl (Or.inl rfl)) (fun _ _ _ _ _ => pts_nil) (fun _ _ _ _ _ => (pe_callTy call_list_of (by rfl) bi.list boot_list (pa_cons (pv 5) pa_nil))))
      (Evl.pss_cut (ps_if (PW.pt (pw_and (pt_cmpR op_gt (pe_callB call_len_seq (by rfl) bi.len PySem.boot_len (pa_cons (pv 3) pa_nil)) pe_int (nomark _)) (pw_and1 (pt_cmpR (op_eqD hr.units) (pe_ix ix_list (pv 3) (pe_un un_neg pe_int) (fun _ _ => rfl)) (pe_ix ix_list (pv 3) pe_int (fun _ _ => rfl)) (nomark _))))) (pss_one (ps_asg (pe_ix ix_list (pv 6) pe_int (fun _ _ => rfl)) (pg_sub (pv 6) (pe_un un_neg pe_int) set_list))) pss_nil)
      (pss_cons (ps_set (i := 7) sc_law.nd rfl (Or.inl rfl) (pe_call G_total.ok (hr.mono (Nat.le_of_ble_eq_true rfl)) (by rfl) G_total.g G_total.kp G_total.b .nil pass0 (pa_cons (pv 6) pa_nil)))
      (pss_cons (ps_if (PW.pt (pw_or (pt_not (pt_val (pe_call G_law_same.ok (hr.mono (Nat.le_of_ble_eq_true rfl)) (by rfl) G_law_same.g G_law_same.kp G_law_same.b .nil pass0 (pa_cons (pv 7) (pa_cons (pv 4) pa_nil))))) (pw_or1 (pt_cmpR (op_neD hr.units) (pv 6) (pv 3) (nomark _))))) (pss_one (ps_ret pe_bl)) pss_nil)
      (pss_cons (ps_expr (pe_bm PySem.F.plainAttrs_list PySem.F.slot_list_append PySem.F.type_list_append mt_append (pv 7) (pa_cons pe_int pa_nil)))
      (pss_cons (ps_if (PW.pt (pw_or (pt_cmpR (op_neD hr.units) (pv 6) (pv 3) (nomark _)) (pw_or1 (pt_not (pt_val (pe_call G_law_same.ok (hr.mono (Nat.le_of_ble_eq_true rfl)) (by rfl) G_law_same.g G_law_same.kp G_law_same.b .nil pass0 (pa_cons (pe_call G_total.ok (hr.mono (Nat.le_of_ble_eq_true rfl)) (by rfl) G_total.g G_total.kp G_total.b .nil pass0 (pa_cons (pv 6) pa_nil)) (pa_cons (pv 4) pa_nil)))))))) (pss_one (ps_ret pe_bl)) pss_nil)
      (pss_cons (ps_if (pt_cmpR (op_eqD hr.units) (pv 3) (pe_lst pa_nil) (nomark _)) (pss_one (ps_ret (pe_cmpR op_isBl (pe_call G_evenly.ok (hr.mono (Nat.le_of_ble_eq_true rfl)) (by rfl) G_evenly.g G_evenly.kp G_evenly.b .nil passL (pa_cons (pe_lst pa_nil) (pa_cons (pe_lst pa_nil) pa_nil))) pe_bl (nomark _)))) pss_nil)
      (pss_cons (ps_setLc (i := 8) (own := [("_law_x", 10)]) (g := gName 10) (tt := (tTest (tOp (rIn K false) (tVar 10) (tOp (rIxL K) (tVar 3) (tUn (rU fun i => .int (-i)) (tC (.int 1))))))) (te := (tVar 10)) rfl sc_law.nd rfl rfl (sw_true rfl rfl rfl (by decide +kernel)) (pi_list (pe_ix ix_list (pv 3) pe_int (fun _ _ => rfl))) (blkOk_by (own := [("_law_x", 10)]) (N := ["_law_script", "_law_bag_here", "_law_scale_here", "_law_rows", "_law_due", "_law_row_here", "_law_handed", "_law_found", "_law_both", "_law_k", "_law_x"]) (sc := defScope s_law) (by decide +kernel)) (fun _ _ _ _ _ => pg_name (i := 10) sc_law.nd rfl (Or.inl rfl)) (fun _ _ _ _ _ => pts_one (pt_cmpR op_in_seq (pv 10) (pe_ix ix_list (pv 3) (pe_un un_neg pe_int) (fun _ _ => rfl)) rfl)) (fun _ _ _ _ _ => (pv 10)))
      (pss_one (ps_ret (pe_and (pe_call G_law_truth.ok (hr.mono (Nat.le_of_ble_eq_true rfl)) (by rfl) G_law_truth.g G_law_truth.kp G_law_truth.b .nil pass0 (pa_cons (pe_call G_evenly.ok (hr.mono (Nat.le_of_ble_eq_true rfl)) (by rfl) G_evenly.g G_evenly.kp G_evenly.b .nil passL (pa_cons (pe_ix ix_list (pv 6) pe_int (fun _ _ => rfl)) (pa_cons (pe_ix ix_list (pv 6) (pe_un un_neg pe_int) (fun _ _ => rfl)) pa_nil))) (pa_cons (pe_cmpR op_eq (pe_op op_mod (pe_callB call_len_seq (by rfl) bi.len PySem.boot_len (pa_cons (pv 8) pa_nil)) pe_int) pe_int (nomark _)) pa_nil))) (pe_one (pe_cmpR (op_eqD hr.units) (pv 6) (pv 3) (nomark _))))))))))))))))))))
end SB

namespace SB
open PySem PySem.Spec PyProof.Rows L2 Res
theorem joined_eq {a b : List Int} (h : a.length + b.length ≤ 16777216) : m_joined a b = .ok (joinF a b) := by
  unfold m_joined
  show Res.bind (catR (_ : List Int) (_ : List Int)) _ = _
  rw [map_id_fun, map_id_fun, cat_eq (Nat.le_trans (Nat.add_le_add (List.length_filter_le _ _) (List.length_filter_le _ _)) h)]
  rfl
theorem sm_iff_next : ∀ {l : List Int}, Sm l ↔ ∀ i x y, l[i]? = some x → l[i + 1]? = some y → x < y
  | [] => by
    constructor
    · intro _ i x y h
      cases h
    · intro _
      exact .nil
  | a :: l => by
    constructor
    · intro h i x y h1 h2
      cases h with
      | cons h3 h4 =>
        cases i with
        | zero =>
          cases h1
          exact h3 y (List.mem_of_getElem? h2)
        | succ i => exact sm_iff_next.mp h4 i x y h1 h2
    · intro h
      have ih : Sm l := sm_iff_next.mpr fun i x y h1 h2 => h (i + 1) x y h1 h2
      refine .cons (fun y hy => ?_) ih
      cases l with
      | nil => cases hy
      | cons b l =>
        have hab : a < b := h 0 a b rfl rfl
        cases hy with
        | head => exact hab
        | tail _ hy =>
          cases ih with
          | cons h3 _ => exact Int.lt_trans hab (h3 y hy)
theorem is_sum_eq {l : List Int} (h : l.length ≤ 16777216) : m_is_sum l = .ok (decide (Sm l)) := by
  unfold m_is_sum
  rw [rg_eq (by omega)]
  refine okk_is (okk_bind (P := fun f => match f with | .next _ => Sm l | .ret y => y = decide (Sm l)) ?_ fun f hf => ?_)
  · refine okk_mono (okk_for (Qr := fun y => y = decide (Sm l)) (fun (p : List Int) (_ : Unit) => ∀ (i : Nat) (x y : Int), i < p.length → l[i]? = some x → l[i + 1]? = some y → x < y) (rangeL 1 l.length) [] () (by intro i x y hi; exact absurd hi (Nat.not_lt_zero _)) ?_) fun f hf => ?_
    · intro p z r s hp hI
      have hz : z = 1 + (p.length : Int) := by
        have e : (rangeL 1 (l.length : Int))[p.length]? = some z := by
          rw [List.nil_append] at hp
          rw [hp, List.getElem?_append_right (Nat.le_refl _), Nat.sub_self]
          rfl
        unfold rangeL at e
        rw [List.getElem?_map] at e
        cases q : (List.range ((l.length : Int) - 1).toNat)[p.length]? with
        | none =>
          rw [q] at e
          cases e
        | some k =>
          rw [q] at e
          obtain ⟨hk, hk'⟩ := List.getElem?_eq_some_iff.mp q
          rw [List.getElem_range] at hk'
          have e' : (1 : Int) + (k : Int) = z := Option.some.inj e
          omega
      have hzm : z ∈ rangeL 1 (l.length : Int) := by
        rw [List.nil_append] at hp
        rw [hp]
        simp
      have hzr := mem_range.mp hzm
      refine okk_bind (P := fun t => l[p.length]? = some t) (okk_ix (by omega) (by omega) fun x hx => ?_) fun t1 h1 => ?_
      · have e : (z - 1).toNat = p.length := by omega
        rw [e] at hx
        exact hx
      refine okk_bind (P := fun t => l[p.length + 1]? = some t) (okk_ix (by omega) (by omega) fun x hx => ?_) fun t2 h2 => ?_
      · have e : z.toNat = p.length + 1 := by omega
        rw [e] at hx
        exact hx
      refine okk_if (fun hc => okk_ok ?_) (fun hc => okk_ok ?_)
      · have hle : t2 ≤ t1 := of_decide_eq_true hc
        show false = decide (Sm l)
        symm
        refine decide_eq_false fun hs => ?_
        have := sm_iff_next.mp hs _ _ _ h1 h2
        omega
      · have hle : ¬ t2 ≤ t1 := of_decide_eq_false hc
        intro i x y hi hx hy
        rw [List.length_append, List.length_singleton] at hi
        by_cases hi' : i < p.length
        · exact hI i x y hi' hx hy
        · have e : i = p.length := by omega
          subst e
          rw [h1] at hx
          rw [h2] at hy
          cases hx
          cases hy
          omega
    · cases f with
      | ret y => exact hf
      | next _ =>
        have hf : ∀ (i : Nat) (x y : Int), i < ([] ++ rangeL 1 (l.length : Int)).length → l[i]? = some x → l[i + 1]? = some y → x < y := hf
        rw [List.nil_append, range_len] at hf
        exact sm_iff_next.mpr fun i x y hx hy => hf i x y (by have := (List.getElem?_eq_some_iff.mp hy).1; omega) hx hy
  · cases f with
    | next _ =>
      have hf : Sm l := hf
      exact okk_ok (decide_eq_true hf).symm
    | ret y => exact okk_ok hf
theorem checked_eq {l : List Int} (h : l.length ≤ 16777216) (hs : Sm l) : m_checked l = .ok l := by
  unfold m_checked
  rw [is_sum_eq h, decide_eq_true hs]
  rfl
theorem law_join_eq {a b : List Int} (h : a.length + b.length ≤ 16777216) : m_law_join a b = .ok (joinF a b) := by
  unfold m_law_join
  show Res.bind (catR (_ : List Int) (_ : List Int)) _ = _
  rw [map_id_fun, map_id_fun, cat_eq (Nat.le_trans (Nat.add_le_add (List.length_filter_le _ _) (List.length_filter_le _ _)) h)]
  rfl
theorem law_row_eq (l : List Int) : m_law_row l = .ok true := by
  unfold m_law_row
  refine okk_is (okk_bind (P := fun f => ∃ s, f = .next s) (okk_each (fun _ => True) trivial (fun x s _ _ => ?_) fun s _ => ⟨s, rfl⟩) fun f hf => ?_)
  · unfold m_law_whole
    exact okk_ok ⟨(), rfl, trivial⟩
  · obtain ⟨s, rfl⟩ := hf
    exact okk_ok rfl
theorem law_same_eq (a b : List Int) : m_law_same a b = .ok (decide (a = b)) := by
  unfold m_law_same
  rw [law_row_eq]
  rfl
theorem law_bag_ok (ns : List Int) : Okk (m_law_bag ns) (fun b => 0 ≤ b.i) := by
  unfold m_law_bag
  refine okk_bind (P := fun f => ∃ s, f = .next s) (okk_each (fun _ => True) trivial (fun x s _ _ => ?_) fun s _ => ⟨s, rfl⟩) fun f hf => ?_
  · rw [mul_eq (.inr ⟨by decide, by decide⟩)]
    show Okk (Res.bind (modR _ _) _) _
    rw [mod_eq (by decide)]
    exact okk_ok ⟨_, rfl, trivial⟩
  · obtain ⟨s, rfl⟩ := hf
    exact okk_ok (Int.le_refl 0)
theorem pull_okk {ω : Type} {b : Bag} {many : Int} (hi : 0 ≤ b.i) (h : 0 < many) (h' : many < 1073741824) : Okk (Res.noex (m_law_pull b many) : Res ω _) (fun y => 0 ≤ y.1 ∧ y.1 < many ∧ 0 ≤ y.2.i) := by
  obtain ⟨r, b', e, h1, h2, h3⟩ := pull_ok hi h h'
  exact okk_noex ⟨_, e, h1, h2, h3⟩
theorem law_scale_ok {b : Bag} (hi : 0 ≤ b.i) : Okk (m_law_scale b) (fun y => 0 ≤ y.2.i) := by
  unfold m_law_scale
  refine okk_bind (pull_okk hi (by decide) (by decide)) fun y hy => ?_
  refine okk_bind (okk_ix hy.1 hy.2.1 fun x _ => trivial) fun t _ => okk_ok hy.2.2
theorem law_numbers_ok {b : Bag} {sc : Int} (hi : 0 ≤ b.i) : Okk (m_law_numbers b sc) (fun y => Sm y.1 ∧ y.1.length ≤ 40 ∧ 0 ≤ y.2.i) := by
  unfold m_law_numbers
  refine okk_bind (pull_okk hi (by decide) (by decide)) fun y hy => ?_
  refine okk_bind (P := fun t => 0 ≤ t ∧ t ≤ 40) (okk_mem hy.1 hy.2.1 (by decide)) fun t ht => ?_
  rw [rg_eq (by omega)]
  refine okk_bind (P := fun f => ∃ s : List Int × Bag, f = .next s ∧ Sm s.1 ∧ s.1.length ≤ 40 ∧ 0 ≤ s.2.i) (okk_loop (fun p (s : List Int × Bag) => Sm s.1 ∧ s.1.length ≤ p.length ∧ 0 ≤ s.2.i) ⟨.nil, Nat.le_refl _, hy.2.2⟩ (fun p x r s hp hs => ?_) fun s hs => ⟨s, rfl, hs.1, ?_, hs.2.2⟩) fun f hf => ?_
  · have hp40 : p.length < 40 := by
      have e := congrArg List.length hp
      rw [range_len, List.length_append, List.length_cons] at e
      omega
    refine okk_bind (pull_okk hs.2.2 (by decide) (by decide)) fun z hz => ?_
    rw [mul_eq (.inl ⟨by omega, by omega⟩)]
    show Okk (Res.bind (Res.noex (m_law_join _ _)) _) _
    rw [law_join_eq (by rw [List.length_singleton]; omega)]
    refine okk_ok ⟨_, rfl, sm_join hs.1 (List.pairwise_singleton _ _), ?_, hz.2.2⟩
    have := join_len s.1 [(z.1 - 9) * sc]
    rw [List.length_singleton] at this
    rw [List.length_append, List.length_singleton]
    show (joinF s.1 [(z.1 - 9) * sc]).length ≤ p.length + 1
    omega
  · have := hs.2.1
    rw [range_len] at this
    omega
  · obtain ⟨s, rfl, hs⟩ := hf
    exact okk_ok hs
end SB

-- chunk CSums
namespace SB
open PySem PySem.Spec PyProof.Rows L2 Res
def totF (rows : List (List Int)) : List Int := rows.foldl joinF []
/-- rows of few short sums -/
def Few (rows : List (List Int)) : Prop := (∀ r ∈ rows, Sm r ∧ r.length ≤ 40) ∧ rows.length ≤ 10
theorem fold_bound {rows : List (List Int)} (h : Few rows) {p : List (List Int)} {x : List Int} {r : List (List Int)} {s : List Int} (e : [] ++ rows = p ++ x :: r) (hs : s.length ≤ 40 * p.length) : s.length + x.length ≤ 16777216 ∧ (joinF s x).length ≤ 40 * (p ++ [x]).length := by
  rw [List.nil_append] at e
  have hx : x ∈ rows := by rw [e]; simp
  have h1 := (h.1 x hx).2
  have h2 := h.2
  rw [e, List.length_append, List.length_cons] at h2
  have h3 := join_len s x
  rw [List.length_append, List.length_singleton]
  omega
theorem total_eq {rows : List (List Int)} (h : Few rows) : m_total rows = .ok (totF rows) := by
  unfold m_total
  refine st_st (comp_eq (g := some) rows fun x hx => st_N (checked_eq (Nat.le_trans (h.1 x hx).2 (by decide)) (h.1 x hx).1) rfl) ?_
  have e : rows.filterMap some = rows := List.filterMap_some
  rw [e]
  refine st_st (for_fold (f := joinF) (fun p s => s.length ≤ 40 * p.length) rows [] [] (Nat.le_refl _) fun p x r s hp hI => ⟨st_N (joined_eq (fold_bound h hp hI).1) rfl, (fold_bound h hp hI).2⟩) rfl
theorem law_total_eq {rows : List (List Int)} (h : Few rows) : (forM (β := Bool) (fun z (s : List Int) => Res.bind (Res.noex (m_law_join s z)) fun y => .ok (.next y)) rows [] : Res Unit _) = .ok (.next (totF rows)) :=
  for_fold (f := joinF) (fun p s => s.length ≤ 40 * p.length) rows [] [] (Nat.le_refl _) fun p x r s hp hI => ⟨st_N (law_join_eq (fold_bound h hp hI).1) rfl, (fold_bound h hp hI).2⟩
def evenB (a b : List Int) : Bool := decide (((a.filter fun x => decide (x ∈ b)).length : Int) % 2 = 0)
theorem evenly_eq {a b : List Int} (ha : Sm a) (hb : Sm b) (la : a.length ≤ 16777216) (lb : b.length ≤ 16777216) : m_evenly a b = .ok (evenB a b) := by
  unfold m_evenly
  refine okk_is (okk_stL (checked_eq la ha) (okk_stL (checked_eq lb hb) (okk_stN (a := evenB a b) ?_ (okk_ok rfl))))
  unfold m_meets_evenly
  show Res.bind (modR _ _) _ = _
  rw [map_id_fun]
  exact st_st (mod_eq (by decide)) rfl
theorem last_at {rows : List (List Int)} {r : List Int} (h : rows.getLast? = some r) : atI rows (-1) = some r := by
  obtain ⟨l, rfl⟩ := List.getLast?_eq_some_iff.mp h
  exact atI_last l r
theorem law_true (ns : List Int) : m_law ns = .ok true := by
  unfold m_law
  refine okk_is (okk_bind (okk_noex (law_bag_ok ns)) fun b hb => ?_)
  refine okk_bind (okk_noex (law_scale_ok hb)) fun sc hsc => ?_
  refine okk_bind (pull_okk hsc (by decide) (by decide)) fun y hy => ?_
  rw [rl_eq (by omega)]
  refine okk_bind (okk_comp (fun b : Bag => 0 ≤ b.i) (fun r : List Int => Sm r ∧ r.length ≤ 40) (rangeL 0 y.1) y.2 hy.2.2 fun x s _ hs => ?_) fun rs hrs => ?_
  · refine okk_bind (okk_noex (law_numbers_ok hs)) fun z hz => okk_ok ⟨fun w hw => ?_, hz.2.2⟩
    cases hw
    exact ⟨hz.1, hz.2.1⟩
  obtain ⟨h1, h2, h3⟩ := hrs
  rw [range_len] at h2
  -- one of them twice
  refine okk_bind (P := fun f => ∃ s : List (List Int) × Bag, f = .next s ∧ Few s.1) ?_ fun f hf => ?_
  · refine okk_bind (P := fun r : Bool × Bag => 0 ≤ r.2.i ∧ (r.1 = true → rs.1 ≠ [])) (okk_andS (fun hc => ?_) fun _ => ⟨h3, fun z => by cases z⟩) fun r hr => ?_
    · refine okk_bind (pull_okk h3 (by decide) (by decide)) fun z hz => okk_ok ⟨hz.2.2, fun _ e => ?_⟩
      rw [e] at hc
      simp at hc
    · refine okk_if (fun hc => ?_) fun _ => okk_ok ⟨_, rfl, h1, by show rs.1.length ≤ 10; omega⟩
      have hne : 0 < rs.1.length := List.length_pos_iff.mpr (hr.2 hc)
      refine okk_bind (pull_okk hr.1 (by omega) (by omega)) fun z hz => okk_bind (okk_mem hz.1 hz.2.1 h1) fun t ht => okk_st (app_eq (by omega)) (okk_ok ⟨_, rfl, fun q hq => ?_, ?_⟩)
      · rcases List.mem_append.mp hq with hq | hq
        · exact h1 q hq
        · rw [List.mem_singleton.mp hq]
          exact ht
      · show (rs.1 ++ [t]).length ≤ 10
        rw [List.length_append, List.length_singleton]
        omega
  obtain ⟨⟨rows, bag⟩, rfl, hF⟩ := hf
  have hF : Few rows := hF
  show Okk (Res.bind (forM _ rows []) _) _
  refine okk_st (law_total_eq hF) ?_
  have ef : (rows.filter fun _ => true).map (fun z => z) = rows := by
    rw [List.filter_eq_self.mpr fun _ _ => rfl]
    exact List.map_id' rows
  refine okk_st (a := rows) (by rw [ef]) ?_
  -- handed stays the rows
  refine okk_st (a := Fl.next rows) ?_ ?_
  · by_cases hl : 1 < rows.length
    · have hr0 : ∃ r0, rows[0]? = some r0 := ⟨_, List.getElem?_eq_getElem (by omega)⟩
      obtain ⟨r0, hr0⟩ := hr0
      have hrl : ∃ rl, rows.getLast? = some rl := ⟨_, List.getLast?_eq_getLast (by intro z; rw [z] at hl; exact absurd hl (by decide))⟩
      obtain ⟨rl, hrl⟩ := hrl
      have e0 : ∀ {ω : Type}, (ixR rows 0 : Res ω _) = .ok r0 := ix_eq (by rw [atI_of (by decide) (by omega)]; exact hr0)
      have el : ∀ {ω : Type}, (ixR rows (-1) : Res ω _) = .ok rl := ix_eq (last_at hrl)
      refine st_st (a := decide (rl = r0)) ?_ ?_
      · rw [and_yes (decide_eq_true (show (1 : Int) < (rows.length : Int) by omega))]
        exact st_st el (st_st e0 rfl)
      · by_cases hq : rl = r0
        · rw [decide_eq_true hq]
          refine st_st e0 (st_st (a := rows) ?_ rfl)
          unfold setR
          have hix : ixN rows.length (-1) = some (rows.length - 1) := by
            unfold ixN
            rw [if_neg (by decide), if_pos (by omega)]
            exact congrArg some (by omega)
          rw [hix]
          show Res.ok (rows.set (rows.length - 1) r0) = _
          congr 1
          refine List.ext_getElem? fun i => ?_
          by_cases hi : rows.length - 1 = i
          · rw [← hi, List.getElem?_set_self (by omega), ← hq, ← hrl, List.getLast?_eq_getElem?]
          · rw [List.getElem?_set_ne hi]
        · rw [decide_eq_false hq]
          rfl
    · refine st_st (a := false) ?_ rfl
      have hd : decide ((1 : Int) < ((rows, bag).1.length : Int)) = false := decide_eq_false (by show ¬ (1 : Int) < (rows.length : Int); omega)
      rw [hd]
      rfl
  show Okk (Res.bind (Res.noex (m_total rows)) _) _
  refine okk_stN (total_eq hF) ?_
  have hT : (totF rows).length < 16777216 := by
    have : ∀ (l : List (List Int)) (s : List Int), (∀ r ∈ l, r.length ≤ 40) → (l.foldl joinF s).length ≤ s.length + 40 * l.length := by
      intro l
      induction l with
      | nil => exact fun s _ => Nat.le_refl _
      | cons x l ih =>
        intro s h
        have h1 := ih (joinF s x) fun r hr => h r (List.mem_cons_of_mem _ hr)
        have h2 := join_len s x
        have h3 := h x List.mem_cons_self
        rw [List.foldl_cons, List.length_cons]
        omega
    have h1 := this rows [] fun r hr => (hF.1 r hr).2
    have h2 := hF.2
    unfold totF
    simp at h1
    omega
  refine okk_st (a := false) (st_N (law_same_eq _ _) ?_) (okk_no rfl (okk_st (app_eq hT) ?_))
  · rw [or_no (by simp)]
    simp
  refine okk_st (a := false) ?_ (okk_no rfl ?_)
  · rw [or_no (by simp)]
    exact st_N (total_eq hF) (st_N (law_same_eq _ _) (by simp))
  by_cases hn : rows = []
  · refine okk_yes (decide_eq_true hn) ?_
    exact okk_stN (evenly_eq .nil .nil (by decide) (by decide)) (okk_ok rfl)
  · refine okk_no (decide_eq_false hn) ?_
    have hlen : 0 < rows.length := List.length_pos_iff.mpr hn
    obtain ⟨r0, hr0⟩ : ∃ r0, rows[0]? = some r0 := ⟨_, List.getElem?_eq_getElem hlen⟩
    obtain ⟨rl, hrl⟩ : ∃ rl, rows.getLast? = some rl := ⟨_, List.getLast?_eq_getLast hn⟩
    have e0 : ∀ {ω : Type}, (ixR rows 0 : Res ω _) = .ok r0 := ix_eq (by rw [atI_of (by decide) (by omega)]; exact hr0)
    have el : ∀ {ω : Type}, (ixR rows (-1) : Res ω _) = .ok rl := ix_eq (last_at hrl)
    have m0 := hF.1 r0 (List.mem_of_getElem? hr0)
    have ml := hF.1 rl (List.mem_of_getLast? hrl)
    refine okk_st e0 (okk_st (comp_eq (g := fun z => if decide (z ∈ rl) = true then some z else none) r0 fun z _ => st_st el ?_) ?_)
    · cases decide (z ∈ rl) <;> rfl
    refine okk_st e0 (okk_st el (okk_stN (evenly_eq m0.1 ml.1 (Nat.le_trans m0.2 (by decide)) (Nat.le_trans ml.2 (by decide))) (okk_st (mod_eq (by decide)) ?_)))
    have ec : r0.filterMap (fun z => if decide (z ∈ rl) = true then some z else none) = r0.filter fun z => decide (z ∈ rl) := by
      have : ∀ l : List Int, l.filterMap (fun z => if decide (z ∈ rl) = true then some z else none) = l.filter fun z => decide (z ∈ rl) := by
        intro l
        induction l with
        | nil => rfl
        | cons x l ih =>
          rw [List.filterMap_cons, List.filter_cons, ih]
          cases decide (x ∈ rl) <;> rfl
      exact this r0
    rw [ec]
    have et : m_law_truth (evenB r0 rl) (decide (((r0.filter fun z => decide (z ∈ rl)).length : Int) % 2 = 0)) = .ok true := by
      unfold m_law_truth evenB
      simp
    exact okk_stN et (okk_yes rfl (okk_ok (by simp)))
end SB

namespace SB
open PySem PySem.Spec PyProof.Rows L2 Res
theorem all_mk {l : PySem.W.OpenLaw} {w : World} {K : PySem.W.Frag} {h : Heap} {mg : Str → Option Value} {fa f_law_bag f_law_pull f_law_scale f_is_sum f_checked f_joined f_total f_law_join f_law_numbers f_law_truth f_law_whole f_law_row f_law_same f_meets_evenly f_evenly f_law C_NotASum : Addr} (X : K.In h) (G : h.Ns mainGlobals mg) (hfa : mg "law" = some (.ref fa))
    {od_law_bag an_law_bag : Option Addr} {sl_law_bag : Array (Option Value)} {oc_law_bag kV_law_bag dc_law_bag pm_law_bag cd_law_bag ct_law_bag : Value} {od_law_pull an_law_pull : Option Addr} {sl_law_pull : Array (Option Value)} {oc_law_pull kV_law_pull dc_law_pull pm_law_pull cd_law_pull ct_law_pull : Value} {od_law_scale an_law_scale : Option Addr} {sl_law_scale : Array (Option Value)} {oc_law_scale kV_law_scale dc_law_scale pm_law_scale cd_law_scale ct_law_scale : Value} {od_is_sum an_is_sum : Option Addr} {sl_is_sum : Array (Option Value)} {oc_is_sum kV_is_sum dc_is_sum pm_is_sum cd_is_sum ct_is_sum : Value} {od_checked an_checked : Option Addr} {sl_checked : Array (Option Value)} {oc_checked kV_checked dc_checked pm_checked cd_checked ct_checked : Value} {od_joined an_joined : Option Addr} {sl_joined : Array (Option Value)} {oc_joined kV_joined dc_joined pm_joined cd_joined ct_joined : Value} {od_total an_total : Option Addr} {sl_total : Array (Option Value)} {oc_total kV_total dc_total pm_total cd_total ct_total : Value} {od_law_join an_law_join : Option Addr} {sl_law_join : Array (Option Value)} {oc_law_join kV_law_join dc_law_join pm_law_join cd_law_join ct_law_join : Value} {od_law_numbers an_law_numbers : Option Addr} {sl_law_numbers : Array (Option Value)} {oc_law_numbers kV_law_numbers dc_law_numbers pm_law_numbers cd_law_numbers ct_law_numbers : Value} {od_law_truth an_law_truth : Option Addr} {sl_law_truth : Array (Option Value)} {oc_law_truth kV_law_truth dc_law_truth pm_law_truth cd_law_truth ct_law_truth : Value} {od_law_whole an_law_whole : Option Addr} {sl_law_whole : Array (Option Value)} {oc_law_whole kV_law_whole dc_law_whole pm_law_whole cd_law_whole ct_law_whole : Value} {od_law_row an_law_row : Option Addr} {sl_law_row : Array (Option Value)} {oc_law_row kV_law_row dc_law_row pm_law_row cd_law_row ct_law_row : Value} {od_law_same an_law_same : Option Addr} {sl_law_same : Array (Option Value)} {oc_law_same kV_law_same dc_law_same pm_law_same cd_law_same ct_law_same : Value} {od_meets_evenly an_meets_evenly : Option Addr} {sl_meets_evenly : Array (Option Value)} {oc_meets_evenly kV_meets_evenly dc_meets_evenly pm_meets_evenly cd_meets_evenly ct_meets_evenly : Value} {od_evenly an_evenly : Option Addr} {sl_evenly : Array (Option Value)} {oc_evenly kV_evenly dc_evenly pm_evenly cd_evenly ct_evenly : Value} {od_law an_law : Option Addr} {sl_law : Array (Option Value)} {oc_law kV_law dc_law pm_law cd_law ct_law : Value}
    (a_law_bag : PySem.W.nsIn K mainGlobals "_law_bag" = some (some (.ref f_law_bag)))
    (l_law_bag : K.lookup f_law_bag = some ⟨oc_law_bag, od_law_bag, .func (PySem.W.fnOf "_law_bag" "_law_bag" (defArgs s_law_bag) (defBody s_law_bag) (defScope s_law_bag) .none kV_law_bag dc_law_bag pm_law_bag an_law_bag cd_law_bag ct_law_bag), sl_law_bag⟩)
    (c_law_bag : PySem.W.codeIn K cd_law_bag "_law_bag" = true) (k_law_bag : PySem.W.keepIn K (.ref f_law_bag) = true)
    (a_law_pull : PySem.W.nsIn K mainGlobals "_law_pull" = some (some (.ref f_law_pull)))
    (l_law_pull : K.lookup f_law_pull = some ⟨oc_law_pull, od_law_pull, .func (PySem.W.fnOf "_law_pull" "_law_pull" (defArgs s_law_pull) (defBody s_law_pull) (defScope s_law_pull) .none kV_law_pull dc_law_pull pm_law_pull an_law_pull cd_law_pull ct_law_pull), sl_law_pull⟩)
    (c_law_pull : PySem.W.codeIn K cd_law_pull "_law_pull" = true) (k_law_pull : PySem.W.keepIn K (.ref f_law_pull) = true)
    (a_law_scale : PySem.W.nsIn K mainGlobals "_law_scale" = some (some (.ref f_law_scale)))
    (l_law_scale : K.lookup f_law_scale = some ⟨oc_law_scale, od_law_scale, .func (PySem.W.fnOf "_law_scale" "_law_scale" (defArgs s_law_scale) (defBody s_law_scale) (defScope s_law_scale) .none kV_law_scale dc_law_scale pm_law_scale an_law_scale cd_law_scale ct_law_scale), sl_law_scale⟩)
    (c_law_scale : PySem.W.codeIn K cd_law_scale "_law_scale" = true) (k_law_scale : PySem.W.keepIn K (.ref f_law_scale) = true)
    (a_is_sum : PySem.W.nsIn K mainGlobals "is_sum" = some (some (.ref f_is_sum)))
    (l_is_sum : K.lookup f_is_sum = some ⟨oc_is_sum, od_is_sum, .func (PySem.W.fnOf "is_sum" "is_sum" (defArgs s_is_sum) (defBody s_is_sum) (defScope s_is_sum) .none kV_is_sum dc_is_sum pm_is_sum an_is_sum cd_is_sum ct_is_sum), sl_is_sum⟩)
    (c_is_sum : PySem.W.codeIn K cd_is_sum "is_sum" = true) (k_is_sum : PySem.W.keepIn K (.ref f_is_sum) = true)
    (a_checked : PySem.W.nsIn K mainGlobals "checked" = some (some (.ref f_checked)))
    (l_checked : K.lookup f_checked = some ⟨oc_checked, od_checked, .func (PySem.W.fnOf "checked" "checked" (defArgs s_checked) (defBody s_checked) (defScope s_checked) .none kV_checked dc_checked pm_checked an_checked cd_checked ct_checked), sl_checked⟩)
    (c_checked : PySem.W.codeIn K cd_checked "checked" = true) (k_checked : PySem.W.keepIn K (.ref f_checked) = true)
    (a_joined : PySem.W.nsIn K mainGlobals "joined" = some (some (.ref f_joined)))
    (l_joined : K.lookup f_joined = some ⟨oc_joined, od_joined, .func (PySem.W.fnOf "joined" "joined" (defArgs s_joined) (defBody s_joined) (defScope s_joined) .none kV_joined dc_joined pm_joined an_joined cd_joined ct_joined), sl_joined⟩)
    (c_joined : PySem.W.codeIn K cd_joined "joined" = true) (k_joined : PySem.W.keepIn K (.ref f_joined) = true)
    (a_total : PySem.W.nsIn K mainGlobals "total" = some (some (.ref f_total)))
    (l_total : K.lookup f_total = some ⟨oc_total, od_total, .func (PySem.W.fnOf "total" "total" (defArgs s_total) (defBody s_total) (defScope s_total) .none kV_total dc_total pm_total an_total cd_total ct_total), sl_total⟩)
    (c_total : PySem.W.codeIn K cd_total "total" = true) (k_total : PySem.W.keepIn K (.ref f_total) = true)
    (a_law_join : PySem.W.nsIn K mainGlobals "_law_join" = some (some (.ref f_law_join)))
    (l_law_join : K.lookup f_law_join = some ⟨oc_law_join, od_law_join, .func (PySem.W.fnOf "_law_join" "_law_join" (defArgs s_law_join) (defBody s_law_join) (defScope s_law_join) .none kV_law_join dc_law_join pm_law_join an_law_join cd_law_join ct_law_join), sl_law_join⟩)
    (c_law_join : PySem.W.codeIn K cd_law_join "_law_join" = true) (k_law_join : PySem.W.keepIn K (.ref f_law_join) = true)
    (a_law_numbers : PySem.W.nsIn K mainGlobals "_law_numbers" = some (some (.ref f_law_numbers)))
    (l_law_numbers : K.lookup f_law_numbers = some ⟨oc_law_numbers, od_law_numbers, .func (PySem.W.fnOf "_law_numbers" "_law_numbers" (defArgs s_law_numbers) (defBody s_law_numbers) (defScope s_law_numbers) .none kV_law_numbers dc_law_numbers pm_law_numbers an_law_numbers cd_law_numbers ct_law_numbers), sl_law_numbers⟩)
    (c_law_numbers : PySem.W.codeIn K cd_law_numbers "_law_numbers" = true) (k_law_numbers : PySem.W.keepIn K (.ref f_law_numbers) = true)
    (a_law_truth : PySem.W.nsIn K mainGlobals "_law_truth" = some (some (.ref f_law_truth)))
    (l_law_truth : K.lookup f_law_truth = some ⟨oc_law_truth, od_law_truth, .func (PySem.W.fnOf "_law_truth" "_law_truth" (defArgs s_law_truth) (defBody s_law_truth) (defScope s_law_truth) .none kV_law_truth dc_law_truth pm_law_truth an_law_truth cd_law_truth ct_law_truth), sl_law_truth⟩)
    (c_law_truth : PySem.W.codeIn K cd_law_truth "_law_truth" = true) (k_law_truth : PySem.W.keepIn K (.ref f_law_truth) = true)
    (a_law_whole : PySem.W.nsIn K mainGlobals "_law_whole" = some (some (.ref f_law_whole)))
    (l_law_whole : K.lookup f_law_whole = some ⟨oc_law_whole, od_law_whole, .func (PySem.W.fnOf "_law_whole" "_law_whole" (defArgs s_law_whole) (defBody s_law_whole) (defScope s_law_whole) .none kV_law_whole dc_law_whole pm_law_whole an_law_whole cd_law_whole ct_law_whole), sl_law_whole⟩)
    (c_law_whole : PySem.W.codeIn K cd_law_whole "_law_whole" = true) (k_law_whole : PySem.W.keepIn K (.ref f_law_whole) = true)
    (a_law_row : PySem.W.nsIn K mainGlobals "_law_row" = some (some (.ref f_law_row)))
    (l_law_row : K.lookup f_law_row = some ⟨oc_law_row, od_law_row, .func (PySem.W.fnOf "_law_row" "_law_row" (defArgs s_law_row) (defBody s_law_row) (defScope s_law_row) .none kV_law_row dc_law_row pm_law_row an_law_row cd_law_row ct_law_row), sl_law_row⟩)
    (c_law_row : PySem.W.codeIn K cd_law_row "_law_row" = true) (k_law_row : PySem.W.keepIn K (.ref f_law_row) = true)
    (a_law_same : PySem.W.nsIn K mainGlobals "_law_same" = some (some (.ref f_law_same)))
    (l_law_same : K.lookup f_law_same = some ⟨oc_law_same, od_law_same, .func (PySem.W.fnOf "_law_same" "_law_same" (defArgs s_law_same) (defBody s_law_same) (defScope s_law_same) .none kV_law_same dc_law_same pm_law_same an_law_same cd_law_same ct_law_same), sl_law_same⟩)
    (c_law_same : PySem.W.codeIn K cd_law_same "_law_same" = true) (k_law_same : PySem.W.keepIn K (.ref f_law_same) = true)
    (a_meets_evenly : PySem.W.nsIn K mainGlobals "meets_evenly" = some (some (.ref f_meets_evenly)))
    (l_meets_evenly : K.lookup f_meets_evenly = some ⟨oc_meets_evenly, od_meets_evenly, .func (PySem.W.fnOf "meets_evenly" "meets_evenly" (defArgs s_meets_evenly) (defBody s_meets_evenly) (defScope s_meets_evenly) .none kV_meets_evenly dc_meets_evenly pm_meets_evenly an_meets_evenly cd_meets_evenly ct_meets_evenly), sl_meets_evenly⟩)
    (c_meets_evenly : PySem.W.codeIn K cd_meets_evenly "meets_evenly" = true) (k_meets_evenly : PySem.W.keepIn K (.ref f_meets_evenly) = true)
    (a_evenly : PySem.W.nsIn K mainGlobals "evenly" = some (some (.ref f_evenly)))
    (l_evenly : K.lookup f_evenly = some ⟨oc_evenly, od_evenly, .func (PySem.W.fnOf "evenly" "evenly" (defArgs s_evenly) (defBody s_evenly) (defScope s_evenly) .none kV_evenly dc_evenly pm_evenly an_evenly cd_evenly ct_evenly), sl_evenly⟩)
    (c_evenly : PySem.W.codeIn K cd_evenly "evenly" = true) (k_evenly : PySem.W.keepIn K (.ref f_evenly) = true)
    (a_law : PySem.W.nsIn K mainGlobals "law" = some (some (.ref f_law)))
    (l_law : K.lookup f_law = some ⟨oc_law, od_law, .func (PySem.W.fnOf "law" "law" (defArgs s_law) (defBody s_law) (defScope s_law) .none kV_law dc_law pm_law an_law cd_law ct_law), sl_law⟩)
    (c_law : PySem.W.codeIn K cd_law "law" = true) (k_law : PySem.W.keepIn K (.ref f_law) = true)
    (ca_NotASum : PySem.W.nsIn K mainGlobals "NotASum" = some (some (.ref C_NotASum))) (cx_NotASum : PySem.W.excIn K C_NotASum [.type "ValueError", .type "Exception", .type "BaseException", .type "object"] "ValueError.__new__" = true) (ck_NotASum : PySem.W.keepIn K (.ref C_NotASum) = true) (cb_NotASum : PySem.W.subIn K (.ref C_NotASum) (.type "BaseException") = some true) (ct_NotASum : PySem.W.typeIn K (.ref C_NotASum) = some (.type "type"))
    (z_len : PySem.W.nsIn K mainGlobals "len" = some none)
    (z_range : PySem.W.nsIn K mainGlobals "range" = some none)
    (z_sorted : PySem.W.nsIn K mainGlobals "sorted" = some none)
    (z_list : PySem.W.nsIn K mainGlobals "list" = some none)
    (z_isinstance : PySem.W.nsIn K mainGlobals "isinstance" = some none)
    (z_int : PySem.W.nsIn K mainGlobals "int" = some none)
    (z_bool : PySem.W.nsIn K mainGlobals "bool" = some none) :
    ∃ fd : FuncData, (∀ (s : Shared) (v : Value), BindsTo s fd ⟨[v], []⟩ [("_law_script", v)]) ∧ ∀ base : Heap, K.In base → base.Ns mainGlobals mg → FnOk l.prog w K mg base CX0 4 fa fd ["_law_script"] (sp_law ⟨fun _ => 0, 0, 0, 0⟩ K) := by
  have e := hfa.symm.trans (PySem.W.mg_of X G a_law)
  cases e
  have bi : Bi mg := ⟨PySem.W.mg_none_of X G z_len, PySem.W.mg_none_of X G z_range, PySem.W.mg_none_of X G z_sorted, PySem.W.mg_none_of X G z_list, PySem.W.mg_none_of X G z_isinstance, PySem.W.mg_none_of X G z_int, PySem.W.mg_none_of X G z_bool⟩
  have X_NotASum : ExC K mg "NotASum" C_NotASum := ⟨PySem.W.mg_of X G ca_NotASum, cx_NotASum, ck_NotASum, cb_NotASum, ct_NotASum⟩
  have F_law_bag := fun_mk (st := s_law_bag) l_law_bag c_law_bag k_law_bag
  have b_law_bag := F_law_bag.binds (ps := ["_law_script"]) fun _ _ _ _ _ _ us hl => match us, hl with | [_], _ => rfl
  have F_law_pull := fun_mk (st := s_law_pull) l_law_pull c_law_pull k_law_pull
  have b_law_pull := F_law_pull.binds (ps := ["_law_bag_here", "_law_many"]) fun _ _ _ _ _ _ us hl => match us, hl with | [_, _], _ => rfl
  have F_law_scale := fun_mk (st := s_law_scale) l_law_scale c_law_scale k_law_scale
  have b_law_scale := F_law_scale.binds (ps := ["_law_bag_here"]) fun _ _ _ _ _ _ us hl => match us, hl with | [_], _ => rfl
  have F_is_sum := fun_mk (st := s_is_sum) l_is_sum c_is_sum k_is_sum
  have b_is_sum := F_is_sum.binds (ps := ["row"]) fun _ _ _ _ _ _ us hl => match us, hl with | [_], _ => rfl
  have F_checked := fun_mk (st := s_checked) l_checked c_checked k_checked
  have b_checked := F_checked.binds (ps := ["row"]) fun _ _ _ _ _ _ us hl => match us, hl with | [_], _ => rfl
  have F_joined := fun_mk (st := s_joined) l_joined c_joined k_joined
  have b_joined := F_joined.binds (ps := ["one", "other"]) fun _ _ _ _ _ _ us hl => match us, hl with | [_, _], _ => rfl
  have F_total := fun_mk (st := s_total) l_total c_total k_total
  have b_total := F_total.binds (ps := ["rows"]) fun _ _ _ _ _ _ us hl => match us, hl with | [_], _ => rfl
  have F_law_join := fun_mk (st := s_law_join) l_law_join c_law_join k_law_join
  have b_law_join := F_law_join.binds (ps := ["_law_one", "_law_other"]) fun _ _ _ _ _ _ us hl => match us, hl with | [_, _], _ => rfl
  have F_law_numbers := fun_mk (st := s_law_numbers) l_law_numbers c_law_numbers k_law_numbers
  have b_law_numbers := F_law_numbers.binds (ps := ["_law_bag_here", "_law_scale_here"]) fun _ _ _ _ _ _ us hl => match us, hl with | [_, _], _ => rfl
  have F_law_truth := fun_mk (st := s_law_truth) l_law_truth c_law_truth k_law_truth
  have b_law_truth := F_law_truth.binds (ps := ["_law_found", "_law_due"]) fun _ _ _ _ _ _ us hl => match us, hl with | [_, _], _ => rfl
  have F_law_whole := fun_mk (st := s_law_whole) l_law_whole c_law_whole k_law_whole
  have b_law_whole := F_law_whole.binds (ps := ["_law_found"]) fun _ _ _ _ _ _ us hl => match us, hl with | [_], _ => rfl
  have F_law_row := fun_mk (st := s_law_row) l_law_row c_law_row k_law_row
  have b_law_row := F_law_row.binds (ps := ["_law_found"]) fun _ _ _ _ _ _ us hl => match us, hl with | [_], _ => rfl
  have F_law_same := fun_mk (st := s_law_same) l_law_same c_law_same k_law_same
  have b_law_same := F_law_same.binds (ps := ["_law_found", "_law_due"]) fun _ _ _ _ _ _ us hl => match us, hl with | [_, _], _ => rfl
  have F_meets_evenly := fun_mk (st := s_meets_evenly) l_meets_evenly c_meets_evenly k_meets_evenly
  have b_meets_evenly := F_meets_evenly.binds (ps := ["one", "other"]) fun _ _ _ _ _ _ us hl => match us, hl with | [_, _], _ => rfl
  have F_evenly := fun_mk (st := s_evenly) l_evenly c_evenly k_evenly
  have b_evenly := F_evenly.binds (ps := ["one", "other"]) fun _ _ _ _ _ _ us hl => match us, hl with | [_, _], _ => rfl
  have F_law := fun_mk (st := s_law) l_law c_law k_law
  refine ⟨PySem.W.fnOf "law" "law" (defArgs s_law) (defBody s_law) (defScope s_law) .none kV_law dc_law pm_law an_law cd_law ct_law, fun s v => .of_eq rfl, fun base _ _ => ?_⟩
  have G_law_bag : Glob l.prog w K mg base CX0 1 "_law_bag" ["_law_script"] (sp_law_bag ⟨fun k => match k with | 0 => C_NotASum | _ => 0, 0, 0, 0⟩ K) f_law_bag _ := ⟨ok_law_bag F_law_bag bi, PySem.W.mg_of X G a_law_bag, k_law_bag, b_law_bag⟩
  have G_law_pull : Glob l.prog w K mg base CX0 1 "_law_pull" ["_law_bag_here", "_law_many"] (sp_law_pull ⟨fun k => match k with | 0 => C_NotASum | _ => 0, 0, 0, 0⟩ K) f_law_pull _ := ⟨ok_law_pull F_law_pull bi, PySem.W.mg_of X G a_law_pull, k_law_pull, b_law_pull⟩
  have G_law_scale : Glob l.prog w K mg base CX0 2 "_law_scale" ["_law_bag_here"] (sp_law_scale ⟨fun k => match k with | 0 => C_NotASum | _ => 0, 0, 0, 0⟩ K) f_law_scale _ := ⟨ok_law_scale F_law_scale bi G_law_pull, PySem.W.mg_of X G a_law_scale, k_law_scale, b_law_scale⟩
  have G_is_sum : Glob l.prog w K mg base CX0 1 "is_sum" ["row"] (sp_is_sum ⟨fun k => match k with | 0 => C_NotASum | _ => 0, 0, 0, 0⟩ K) f_is_sum _ := ⟨ok_is_sum F_is_sum bi, PySem.W.mg_of X G a_is_sum, k_is_sum, b_is_sum⟩
  have G_checked : Glob l.prog w K mg base (L2.CX l.prog w) 2 "checked" ["row"] (sp_checked ⟨fun k => match k with | 0 => C_NotASum | _ => 0, 0, 0, 0⟩ K) f_checked _ := ⟨ok_checked F_checked bi G_is_sum X_NotASum, PySem.W.mg_of X G a_checked, k_checked, b_checked⟩
  have G_joined : Glob l.prog w K mg base CX0 1 "joined" ["one", "other"] (sp_joined ⟨fun k => match k with | 0 => C_NotASum | _ => 0, 0, 0, 0⟩ K) f_joined _ := ⟨ok_joined F_joined bi, PySem.W.mg_of X G a_joined, k_joined, b_joined⟩
  have G_total : Glob l.prog w K mg base CX0 3 "total" ["rows"] (sp_total ⟨fun k => match k with | 0 => C_NotASum | _ => 0, 0, 0, 0⟩ K) f_total _ := ⟨ok_total F_total bi G_checked G_joined, PySem.W.mg_of X G a_total, k_total, b_total⟩
  have G_law_join : Glob l.prog w K mg base CX0 1 "_law_join" ["_law_one", "_law_other"] (sp_law_join ⟨fun k => match k with | 0 => C_NotASum | _ => 0, 0, 0, 0⟩ K) f_law_join _ := ⟨ok_law_join F_law_join bi, PySem.W.mg_of X G a_law_join, k_law_join, b_law_join⟩
  have G_law_numbers : Glob l.prog w K mg base CX0 2 "_law_numbers" ["_law_bag_here", "_law_scale_here"] (sp_law_numbers ⟨fun k => match k with | 0 => C_NotASum | _ => 0, 0, 0, 0⟩ K) f_law_numbers _ := ⟨ok_law_numbers F_law_numbers bi G_law_pull G_law_join, PySem.W.mg_of X G a_law_numbers, k_law_numbers, b_law_numbers⟩
  have G_law_truth : Glob l.prog w K mg base CX0 1 "_law_truth" ["_law_found", "_law_due"] (sp_law_truth ⟨fun k => match k with | 0 => C_NotASum | _ => 0, 0, 0, 0⟩ K) f_law_truth _ := ⟨ok_law_truth F_law_truth bi, PySem.W.mg_of X G a_law_truth, k_law_truth, b_law_truth⟩
  have G_law_whole : Glob l.prog w K mg base CX0 1 "_law_whole" ["_law_found"] (sp_law_whole ⟨fun k => match k with | 0 => C_NotASum | _ => 0, 0, 0, 0⟩ K) f_law_whole _ := ⟨ok_law_whole F_law_whole bi, PySem.W.mg_of X G a_law_whole, k_law_whole, b_law_whole⟩
  have G_law_row : Glob l.prog w K mg base CX0 2 "_law_row" ["_law_found"] (sp_law_row ⟨fun k => match k with | 0 => C_NotASum | _ => 0, 0, 0, 0⟩ K) f_law_row _ := ⟨ok_law_row F_law_row bi G_law_whole, PySem.W.mg_of X G a_law_row, k_law_row, b_law_row⟩
  have G_law_same : Glob l.prog w K mg base CX0 3 "_law_same" ["_law_found", "_law_due"] (sp_law_same ⟨fun k => match k with | 0 => C_NotASum | _ => 0, 0, 0, 0⟩ K) f_law_same _ := ⟨ok_law_same F_law_same bi G_law_row, PySem.W.mg_of X G a_law_same, k_law_same, b_law_same⟩
  have G_meets_evenly : Glob l.prog w K mg base CX0 1 "meets_evenly" ["one", "other"] (sp_meets_evenly ⟨fun k => match k with | 0 => C_NotASum | _ => 0, 0, 0, 0⟩ K) f_meets_evenly _ := ⟨ok_meets_evenly F_meets_evenly bi, PySem.W.mg_of X G a_meets_evenly, k_meets_evenly, b_meets_evenly⟩
  have G_evenly : Glob l.prog w K mg base (L2.CX l.prog w) 3 "evenly" ["one", "other"] (sp_evenly ⟨fun k => match k with | 0 => C_NotASum | _ => 0, 0, 0, 0⟩ K) f_evenly _ := ⟨ok_evenly F_evenly bi G_checked G_meets_evenly, PySem.W.mg_of X G a_evenly, k_evenly, b_evenly⟩
  exact ok_law (T := ⟨fun k => match k with | 0 => C_NotASum | _ => 0, 0, 0, 0⟩) F_law bi G_law_bag G_law_scale G_law_pull G_law_numbers G_law_join G_total G_law_same G_evenly G_law_truth
end SB
open PySem PySem.W PyProof.Rows
set_option maxRecDepth 100000 in
set_option maxHeartbeats 0 in
theorem PySem.Challenge.cw_slimbody_k03_many_added_holds : PySem.Challenge.rw_slimbody_k03_many_added.Holds := by
  w_on; o_law; k_head; (case hw => w_witness2)
  k_fill
  refine L2.walk_of (l := PySem.Challenge.rw_slimbody_k03_many_added) (n := 63) (k := 4) (x := "_law_script") (CX := fun _ => L2.CX0) (sp := fun w => SB.sp_law ⟨fun _ => 0, 0, 0, 0⟩ _) rfl (by decide) rfl ⟨rfl, by decide, by decide⟩ (fun w h Y => PySem.W.kIn_of Y) ?F (fun _ H a ns hl _ hS => ⟨H, [], .ref a, ns, rfl, ⟨L2.Same.refl _, (fun _ h => nomatch h), trivial⟩, ⟨a, rfl, hS, hl⟩, by rw [SB.law_true ns]; exact fun _ _ _ _ => rfl⟩) (fun _ _ _ _ _ h => h)
  case F =>
    intro w mg fa h KX G hmg
    refine' SB.all_mk KX G hmg ?a_law_bag ?l_law_bag ?c_law_bag ?k_law_bag ?a_law_pull ?l_law_pull ?c_law_pull ?k_law_pull ?a_law_scale ?l_law_scale ?c_law_scale ?k_law_scale ?a_is_sum ?l_is_sum ?c_is_sum ?k_is_sum ?a_checked ?l_checked ?c_checked ?k_checked ?a_joined ?l_joined ?c_joined ?k_joined ?a_total ?l_total ?c_total ?k_total ?a_law_join ?l_law_join ?c_law_join ?k_law_join ?a_law_numbers ?l_law_numbers ?c_law_numbers ?k_law_numbers ?a_law_truth ?l_law_truth ?c_law_truth ?k_law_truth ?a_law_whole ?l_law_whole ?c_law_whole ?k_law_whole ?a_law_row ?l_law_row ?c_law_row ?k_law_row ?a_law_same ?l_law_same ?c_law_same ?k_law_same ?a_meets_evenly ?l_meets_evenly ?c_meets_evenly ?k_meets_evenly ?a_evenly ?l_evenly ?c_evenly ?k_evenly ?a_law ?l_law ?c_law ?k_law ?ca_NotASum ?cx_NotASum ?ck_NotASum ?cb_NotASum ?ct_NotASum ?z_len ?z_range ?z_sorted ?z_list ?z_isinstance ?z_int ?z_bool
    (case a_law_bag => k_is)
    (case l_law_bag => k_is)
    (case c_law_bag => k_is)
    (case k_law_bag => k_is)
    (case a_law_pull => k_is)
    (case l_law_pull => k_is)
    (case c_law_pull => k_is)
    (case k_law_pull => k_is)
    (case a_law_scale => k_is)
    (case l_law_scale => k_is)
    (case c_law_scale => k_is)
    (case k_law_scale => k_is)
    (case a_is_sum => k_is)
    (case l_is_sum => k_is)
    (case c_is_sum => k_is)
    (case k_is_sum => k_is)
    (case a_checked => k_is)
    (case l_checked => k_is)
    (case c_checked => k_is)
    (case k_checked => k_is)
    (case a_joined => k_is)
    (case l_joined => k_is)
    (case c_joined => k_is)
    (case k_joined => k_is)
    (case a_total => k_is)
    (case l_total => k_is)
    (case c_total => k_is)
    (case k_total => k_is)
    (case a_law_join => k_is)
    (case l_law_join => k_is)
    (case c_law_join => k_is)
    (case k_law_join => k_is)
    (case a_law_numbers => k_is)
    (case l_law_numbers => k_is)
    (case c_law_numbers => k_is)
    (case k_law_numbers => k_is)
    (case a_law_truth => k_is)
    (case l_law_truth => k_is)
    (case c_law_truth => k_is)
    (case k_law_truth => k_is)
    (case a_law_whole => k_is)
    (case l_law_whole => k_is)
    (case c_law_whole => k_is)
    (case k_law_whole => k_is)
    (case a_law_row => k_is)
    (case l_law_row => k_is)
    (case c_law_row => k_is)
    (case k_law_row => k_is)
    (case a_law_same => k_is)
    (case l_law_same => k_is)
    (case c_law_same => k_is)
    (case k_law_same => k_is)
    (case a_meets_evenly => k_is)
    (case l_meets_evenly => k_is)
    (case c_meets_evenly => k_is)
    (case k_meets_evenly => k_is)
    (case a_evenly => k_is)
    (case l_evenly => k_is)
    (case c_evenly => k_is)
    (case k_evenly => k_is)
    (case a_law => k_is)
    (case l_law => k_is)
    (case c_law => k_is)
    (case k_law => k_is)
    (case ca_NotASum => k_is)
    (case cx_NotASum => k_exc)
    (case ck_NotASum => k_is)
    (case cb_NotASum => k_is)
    (case ct_NotASum => k_is)
    (case z_len => k_is)
    (case z_range => k_is)
    (case z_sorted => k_is)
    (case z_list => k_is)
    (case z_isinstance => k_is)
    (case z_int => k_is)
    (case z_bool => k_is)
