import PyProof.Rows.All
import Wide.All
import OpenK.AllK
import Wide.FinOn
import HandS.ForMost
import HandS.ForExc
import HandS.SortInts
import HandS.IsInst
import HandS.Evl
import HandS.Steps
import HandS.Style
import HandS.Conv
import HandS.TryOnly
import HandS.TryMany
import HandS.ExcOwn
import HandS.ExcField
import HandS.ExcInit
import HandS.ClsMeth
import HandS.SortRule
import HandS.More
import HandS.Rev
import HandS.RevRange
import HandS.Deep
import HandS.ExcIs
import PySem.Challenge.RW_slimbody_k15_whole_ring_or_arrow
set_option Elab.async false
set_option linter.all false
set_option maxRecDepth 100000
set_option maxHeartbeats 4000000
namespace SB
open PySem PySem.Spec PyProof.Rows L2

/-! ## Results of mirrors -/
/-- the refusals -/
inductive Exn where
  | plain (c : Nat) | ring (l : List Int) | many (n : Int) | atRow (n : Int)
  deriving DecidableEq
inductive Res (ω α : Type) where
  | ok (a : α) | ex (e : Exn) (w : ω) | bad
namespace Res
variable {ω ω' α β : Type}
def bind (m : Res ω α) (f : α → Res ω β) : Res ω β := match m with
  | ok a => f a
  | ex e w => ex e w
  | bad => bad
/-- an own state at a refusal in place of the callee's -/
def lift (g : ω' → ω) (m : Res ω' α) : Res ω α := match m with
  | ok a => ok a
  | ex e w => ex e (g w)
  | bad => bad
/-- no refusal is looked for -/
def noex (m : Res ω' α) : Res ω α := match m with
  | ok a => ok a
  | _ => bad
def wp (m : Res ω α) (Q : α → Prop) (E : Exn → ω → Prop) : Prop := match m with
  | ok a => Q a
  | ex e w => E e w
  | bad => False
theorem wp_bind {m : Res ω α} {f : α → Res ω β} {Q : β → Prop} {E : Exn → ω → Prop} (h : (bind m f).wp Q E) : m.wp (fun a => (f a).wp Q E) E := by
  cases m <;> exact h
theorem wp_mono {m : Res ω α} {Q Q' : α → Prop} {E E' : Exn → ω → Prop} (h : m.wp Q E) (hQ : ∀ a, Q a → Q' a) (hE : ∀ e w, E e w → E' e w) : m.wp Q' E' := by
  cases m with
  | ok a => exact hQ a h
  | ex e w => exact hE e w h
  | bad => exact h
theorem wp_lift {m : Res ω' α} {g : ω' → ω} {Q : α → Prop} {E : Exn → ω → Prop} (h : (lift g m).wp Q E) : m.wp Q (fun e w => E e (g w)) := by
  cases m <;> exact h
theorem wp_noex {m : Res ω' α} {Q : α → Prop} {E : Exn → ω → Prop} (h : (noex m : Res ω α).wp Q E) : m.wp Q (fun _ _ => False) := by
  cases m <;> exact h
end Res
open Res

/-! ## Heaps in pieces -/
def Dj (A B : Hp) : Prop := ∀ a o u, A a = some o → B a = some u → False
theorem Dj.symm {A B : Hp} (h : Dj A B) : Dj B A := fun a o u e e' => h a u o e' e
def one (p : Addr) (o : HO) : Hp := fun b => if b = p then some o else none
theorem one_same {p : Addr} {o : HO} : one p o p = some o := by unfold one; rw [if_pos rfl]
theorem one_some {p b : Addr} {o u : HO} (h : one p o b = some u) : b = p ∧ u = o := by
  unfold one at h
  by_cases e : b = p
  · rw [if_pos e] at h
    exact ⟨e, (Option.some.inj h).symm⟩
  · rw [if_neg e] at h
    cases h
def join (A B : Hp) : Hp := fun b => match A b with
  | some o => some o
  | none => B b
def St (H : Hp) : List Hp → Prop
  | [] => True
  | m :: ms => Same m H ∧ (∀ n ∈ ms, Dj m n) ∧ St H ms
theorem upd_none_ne {H : Hp} {p b : Addr} {o u : HO} (hp : H p = none) (h : H b = some u) : upd H p o b = some u := by
  rw [upd_ne (ne_of_none h hp)]
  exact h
theorem same_upd {H : Hp} {p : Addr} {o : HO} (hp : H p = none) : Same H (upd H p o) := fun b u e => upd_none_ne hp e
theorem Same.none_of {A B : Hp} {p : Addr} (h : Same A B) (hp : B p = none) : A p = none := h.free hp
theorem same_join_l {A B : Hp} : Same A (join A B) := fun a o e => by
  unfold join
  rw [e]
theorem same_join_r {A B : Hp} (d : Dj A B) : Same B (join A B) := fun a o e => by
  unfold join
  cases h : A a with
  | none => exact e
  | some u => exact (d a u o h e).elim
theorem join_some {A B : Hp} {a : Addr} {o : HO} (h : join A B a = some o) : A a = some o ∨ B a = some o := by
  unfold join at h
  cases e : A a with
  | none =>
    rw [e] at h
    exact .inr h
  | some u =>
    rw [e] at h
    exact .inl h
theorem upd_some {H : Hp} {a b : Addr} {o u : HO} (h : upd H a o b = some u) : (b = a ∧ u = o) ∨ (b ≠ a ∧ H b = some u) := by
  by_cases e : b = a
  · subst e
    rw [upd_same] at h
    exact .inl ⟨rfl, (Option.some.inj h).symm⟩
  · rw [upd_ne e] at h
    exact .inr ⟨e, h⟩
section
variable {H H' Hi m n : Hp} {R l l' : List Hp} {p a : Addr} {o u : HO}
theorem St.head (S : St H (m :: R)) : Same m H := S.1
theorem St.tail (S : St H (m :: R)) : St H R := S.2.2
theorem St.mem : ∀ {R : List Hp}, St H R → ∀ n ∈ R, Same n H
  | [], _, _, h => by cases h
  | m :: R, S, n, h => by
    cases h with
    | head => exact S.1
    | tail _ h => exact St.mem S.2.2 n h
theorem St.perm (q : l.Perm l') : St H l → St H l' := by
  induction q with
  | nil => exact id
  | cons x q ih => exact fun S => ⟨S.1, fun n hn => S.2.1 n (q.mem_iff.mpr hn), ih S.2.2⟩
  | swap x y l =>
    exact fun S => ⟨S.2.2.1, fun n hn => by
      cases hn with
      | head => exact (S.2.1 x List.mem_cons_self).symm
      | tail _ h => exact S.2.2.2.1 n h, S.1, fun n hn => S.2.1 n (List.mem_cons_of_mem _ hn), S.2.2.2.2⟩
  | trans _ _ i1 i2 => exact fun S => i2 (i1 S)
theorem perm_pick : ∀ (R : List Hp) (k : Nat) (hk : k < R.length), R.Perm (R[k] :: R.eraseIdx k)
  | [], _, h => absurd h (Nat.not_lt_zero _)
  | _ :: _, 0, _ => List.Perm.refl _
  | m :: R, k + 1, h => ((perm_pick R k (Nat.lt_of_succ_lt_succ h)).cons m).trans (List.Perm.swap _ _ _)
/-- the k-th piece behind the first is brought to the second place -/
theorem St.pick (S : St H (m :: R)) (k : Nat) (hk : k < R.length) : St H (m :: R[k] :: R.eraseIdx k) :=
  S.perm (List.Perm.cons m (perm_pick R k hk))
/-- a wider heap -/
theorem St.grow (S : St H R) (g : Same H H') : St H' R := by
  induction R with
  | nil => trivial
  | cons m R ih => exact ⟨S.1.trans g, S.2.1, ih S.2.2⟩
theorem St.new (S : St H (m :: R)) (hp : H p = none) : St (upd H p o) (upd m p o :: R) := by
  refine ⟨fun b u e => ?_, fun n hn b u v e e' => ?_, S.2.2.grow (same_upd hp)⟩
  · rcases upd_some e with ⟨rfl, rfl⟩ | ⟨hb, e⟩
    · exact upd_same
    · exact upd_none_ne hp (S.1 _ _ e)
  · rcases upd_some e with ⟨rfl, rfl⟩ | ⟨hb, e⟩
    · have z := St.mem S.2.2 n hn _ _ e'
      rw [hp] at z
      cases z
    · exact S.2.1 n hn b u v e e'
theorem St.newM (S : St H (m :: R)) (hp : H p = none) : St (upd H p o) (m :: one p o :: R) := by
  refine ⟨S.1.trans (same_upd hp), fun n hn => ?_, ?_, ?_, S.2.2.grow (same_upd hp)⟩
  · cases hn with
    | head =>
      exact fun b u v e e' => by
        obtain ⟨rfl, _⟩ := one_some e'
        have z := S.1 _ _ e
        rw [hp] at z
        cases z
    | tail _ hn => exact S.2.1 n hn
  · intro b u e
    obtain ⟨rfl, rfl⟩ := one_some e
    exact upd_same
  · intro n hn b u v e e'
    obtain ⟨rfl, _⟩ := one_some e
    have z := St.mem S.2.2 n hn _ _ e'
    rw [hp] at z
    cases z
/-- a new object that a call has made: frozen | owned -/
theorem St.got (S : St H (m :: R)) (g : Same H H') (hp : H p = none) (h : H' p = some o) : St H' (upd m p o :: R) := by
  refine ⟨fun b u e => ?_, fun n hn b u v e e' => ?_, S.2.2.grow g⟩
  · rcases upd_some e with ⟨rfl, rfl⟩ | ⟨hb, e⟩
    · exact h
    · exact g _ _ (S.1 _ _ e)
  · rcases upd_some e with ⟨rfl, rfl⟩ | ⟨hb, e⟩
    · have z := St.mem S.2.2 n hn _ _ e'
      rw [hp] at z
      cases z
    · exact S.2.1 n hn b u v e e'
/-- an object of the second piece is changed -/
theorem St.wr (S : St H (m :: n :: R)) (h : n a = some o) : St (upd H a u) (m :: upd n a u :: R) := by
  have key : ∀ q, Dj n q → ∀ b w, q b = some w → b ≠ a := fun q d b w e z => by
    subst z
    exact d _ _ _ h e
  refine ⟨fun b w e => ?_, fun q hq => ?_, fun b w e => ?_, fun q hq b w v e e' => ?_, ?_⟩
  · rw [upd_ne (key m (S.2.1 n List.mem_cons_self).symm b w e)]
    exact S.1 _ _ e
  · cases hq with
    | head =>
      exact fun b w v e e' => by
        rcases upd_some e' with ⟨rfl, rfl⟩ | ⟨hb, e'⟩
        · exact S.2.1 n List.mem_cons_self _ _ _ e h
        · exact S.2.1 n List.mem_cons_self _ _ _ e e'
    | tail _ hq => exact S.2.1 q (List.mem_cons_of_mem _ hq)
  · rcases upd_some e with ⟨rfl, rfl⟩ | ⟨hb, e⟩
    · exact upd_same
    · rw [upd_ne hb]
      exact S.2.2.1 _ _ e
  · rcases upd_some e with ⟨rfl, rfl⟩ | ⟨hb, e⟩
    · exact S.2.2.2.1 q hq _ _ _ h e'
    · exact S.2.2.2.1 q hq _ _ _ e e'
  · have : ∀ R : List Hp, (∀ q ∈ R, Dj n q) → St H R → St (upd H a u) R := by
      intro R
      induction R with
      | nil => exact fun _ _ => trivial
      | cons q R ih =>
        exact fun d S => ⟨fun b w e => by
          rw [upd_ne (key q (d q List.mem_cons_self) b w e)]
          exact S.1 _ _ e, S.2.1, ih (fun q hq => d q (List.mem_cons_of_mem _ hq)) S.2.2⟩
    exact this R S.2.2.2.1 S.2.2.2.2
theorem upd_one {p : Addr} {o u : HO} : upd (one p o) p u = one p u := by
  funext b
  unfold upd one
  split <;> rfl
theorem St.wr1 (S : St H (m :: one a o :: R)) : St (upd H a u) (m :: one a u :: R) := by
  have z := S.wr (u := u) one_same
  rw [upd_one] at z
  exact z
/-- the second piece is frozen -/
theorem St.frz (S : St H (m :: n :: R)) : St H (join m n :: R) := by
  refine ⟨fun b w e => ?_, fun q hq b w v e e' => ?_, S.2.2.2.2⟩
  · rcases join_some e with e | e
    · exact S.1 _ _ e
    · exact S.2.2.1 _ _ e
  · rcases join_some e with e | e
    · exact S.2.1 q (List.mem_cons_of_mem _ hq) _ _ _ e e'
    · exact S.2.2.2.1 q hq _ _ _ e e'
/-- two pieces as one -/
theorem St.join2 {q : Hp} (S : St H (m :: n :: q :: R)) : St H (m :: join n q :: R) := by
  refine ⟨S.1, fun r hr => ?_, S.2.2.frz⟩
  cases hr with
  | head =>
    exact fun b w v e e' => by
      rcases join_some e' with e' | e'
      · exact S.2.1 n List.mem_cons_self _ _ _ e e'
      · exact S.2.1 q (List.mem_cons_of_mem _ List.mem_cons_self) _ _ _ e e'
  | tail _ hr => exact S.2.1 r (List.mem_cons_of_mem _ (List.mem_cons_of_mem _ hr))
theorem St.dj (S : St H (m :: n :: R)) : Dj m n := S.2.1 n List.mem_cons_self
theorem St.second (S : St H (m :: n :: R)) : Same n H := S.2.2.1
/-- a piece that was lent as frozen is taken back -/
def minus (A B : Hp) : Hp := fun b => match B b with
  | some _ => none
  | none => A b
theorem minus_some {A B : Hp} {a : Addr} {o : HO} (h : minus A B a = some o) : A a = some o ∧ B a = none := by
  unfold minus at h
  cases e : B a with
  | none =>
    rw [e] at h
    exact ⟨h, rfl⟩
  | some u =>
    rw [e] at h
    cases h
theorem minus_of {A B : Hp} {a : Addr} {o : HO} (h : A a = some o) (hb : B a = none) : minus A B a = some o := by
  unfold minus
  rw [hb]
  exact h
theorem St.back (S : St H (m :: R)) (g : Same n m) (d : ∀ q ∈ R, Dj n q) : St H (minus m n :: n :: R) := by
  refine ⟨fun b w e => S.1 _ _ (minus_some e).1, fun q hq => ?_, g.trans S.1, d, S.2.2⟩
  cases hq with
  | head =>
    exact fun b w v e e' => by
      rw [(minus_some e).2] at e'
      cases e'
  | tail _ hq => exact fun b w v e e' => S.2.1 q hq _ _ _ (minus_some e).1 e'
theorem St.back1 (S : St H (m :: R)) (g : Same n m) : St H (minus m n :: n :: R) := S.back g fun q hq a o u e e' => S.2.1 q hq a o u (g _ _ e) e'
theorem same_minus (S : St H (m :: n :: R)) (g : Same (join m n) Hi) : Same m (minus Hi n) := fun b w e => by
  refine minus_of (g _ _ (same_join_l _ _ e)) ?_
  cases h : n b with
  | none => rfl
  | some v => exact (S.dj _ _ _ e h).elim
end

/-! ## Data and how the heap bears it -/
def All2 {α : Type} (P : V → α → Prop) : List V → List α → Prop
  | [], [] => True
  | v :: vs, x :: xs => P v x ∧ All2 P vs xs
  | _, _ => False
section
variable {α : Type} {P P' : V → α → Prop}
theorem All2.mono (f : ∀ v x, P v x → P' v x) : ∀ {vs : List V} {xs : List α}, All2 P vs xs → All2 P' vs xs
  | [], [], h => h
  | _ :: _, _ :: _, h => ⟨f _ _ h.1, All2.mono f h.2⟩
  | [], _ :: _, h => h.elim
  | _ :: _, [], h => h.elim
theorem All2.len : ∀ {vs : List V} {xs : List α}, All2 P vs xs → vs.length = xs.length
  | [], [], _ => rfl
  | _ :: vs, _ :: xs, h => by
    show vs.length + 1 = xs.length + 1
    rw [All2.len h.2]
  | [], _ :: _, h => h.elim
  | _ :: _, [], h => h.elim
theorem All2.get : ∀ {vs : List V} {xs : List α} {i : Nat} {x : α}, All2 P vs xs → xs[i]? = some x → ∃ v, vs[i]? = some v ∧ P v x
  | [], [], _, _, _, e => by cases e
  | v :: _, y :: _, 0, x, h, e => by
    cases e
    exact ⟨v, rfl, h.1⟩
  | _ :: vs, _ :: xs, i + 1, x, h, e => All2.get (i := i) h.2 e
  | [], _ :: _, _, _, h, _ => h.elim
  | _ :: _, [], _, _, h, _ => h.elim
theorem All2.getV : ∀ {vs : List V} {xs : List α} {i : Nat} {v : V}, All2 P vs xs → vs[i]? = some v → ∃ x, xs[i]? = some x ∧ P v x
  | [], [], _, _, _, e => by cases e
  | v :: _, y :: _, 0, x, h, e => by
    cases e
    exact ⟨y, rfl, h.1⟩
  | _ :: vs, _ :: xs, i + 1, x, h, e => All2.getV (i := i) h.2 e
  | [], _ :: _, _, _, h, _ => h.elim
  | _ :: _, [], _, _, h, _ => h.elim
theorem All2.append : ∀ {vs ws : List V} {xs ys : List α}, All2 P vs xs → All2 P ws ys → All2 P (vs ++ ws) (xs ++ ys)
  | [], _, [], _, _, h => h
  | _ :: _, _, _ :: _, _, h, k => ⟨h.1, All2.append h.2 k⟩
  | [], _, _ :: _, _, h, _ => h.elim
  | _ :: _, _, [], _, h, _ => h.elim
theorem All2.set {v : V} {x : α} (hp : P v x) : ∀ {vs : List V} {xs : List α} (i : Nat), All2 P vs xs → All2 P (vs.set i v) (xs.set i x)
  | [], [], _, h => h
  | _ :: _, _ :: _, 0, h => ⟨hp, h.2⟩
  | _ :: _, _ :: _, i + 1, h => ⟨h.1, All2.set hp i h.2⟩
  | [], _ :: _, _, h => h.elim
  | _ :: _, [], _, h => h.elim
theorem All2.take : ∀ {vs : List V} {xs : List α} (n : Nat), All2 P vs xs → All2 P (vs.take n) (xs.take n)
  | _, _, 0, _ => trivial
  | [], [], _ + 1, h => h
  | _ :: _, _ :: _, n + 1, h => ⟨h.1, All2.take n h.2⟩
  | [], _ :: _, _ + 1, h => h.elim
  | _ :: _, [], _ + 1, h => h.elim
theorem All2.drop : ∀ {vs : List V} {xs : List α} (n : Nat), All2 P vs xs → All2 P (vs.drop n) (xs.drop n)
  | _, _, 0, h => h
  | [], [], _ + 1, h => h
  | _ :: _, _ :: _, n + 1, h => All2.drop n h.2
  | [], _ :: _, _ + 1, h => h.elim
  | _ :: _, [], _ + 1, h => h.elim
end
class Rep (α : Type) where
  is : Hp → V → α → Prop
  mono : ∀ {A B : Hp} {v : V} {x : α}, Same A B → is A v x → is B v x
abbrev Is {α : Type} [Rep α] (A : Hp) (v : V) (x : α) : Prop := Rep.is A v x
theorem up {α : Type} [Rep α] {A B : Hp} {v : V} {x : α} (h : Is A v x) (e : Same A B) : Is B v x := Rep.mono e h
instance : Rep Int := ⟨fun _ v x => v = .int x, fun _ h => h⟩
instance : Rep Bool := ⟨fun _ v x => v = .bl x, fun _ h => h⟩
instance : Rep Unit := ⟨fun _ v _ => v = .non, fun _ h => h⟩
instance : Rep Str := ⟨fun _ v x => v = .str x, fun _ h => h⟩
instance {α : Type} [Rep α] : Rep (Option α) := ⟨fun A v x => match x with
  | none => v = .non
  | some y => v ≠ .non ∧ Rep.is A v y, fun {A B v x} e h => match x, h with
  | none, h => h
  | some _, h => ⟨h.1, Rep.mono e h.2⟩⟩
instance {α β : Type} [Rep α] [Rep β] : Rep (α × β) := ⟨fun A v x => ∃ a u w, v = .ref a ∧ A a = some (.tup [u, w]) ∧ Rep.is A u x.1 ∧ Rep.is A w x.2,
  fun e ⟨a, u, w, h1, h2, h3, h4⟩ => ⟨a, u, w, h1, e _ _ h2, Rep.mono e h3, Rep.mono e h4⟩⟩
/-- the items of a list, and its size -/
def OL {α : Type} [Rep α] (A : Hp) (vs : List V) (xs : List α) : Prop := All2 (Rep.is A) vs xs ∧ xs.length ≤ sizeLine
theorem OL.up {α : Type} [Rep α] {A B : Hp} {vs : List V} {xs : List α} (h : OL A vs xs) (e : Same A B) : OL B vs xs := ⟨h.1.mono fun _ _ h => Rep.mono e h, h.2⟩
theorem OL.len {α : Type} [Rep α] {A : Hp} {vs : List V} {xs : List α} (h : OL A vs xs) : vs.length = xs.length := h.1.len
theorem OL.szV {α : Type} [Rep α] {A : Hp} {vs : List V} {xs : List α} (h : OL A vs xs) : vs.length ≤ sizeLine := by
  rw [h.len]
  exact h.2
instance {α : Type} [Rep α] : Rep (List α) := ⟨fun A v xs => ∃ a vs, v = .ref a ∧ A a = some (.lst vs) ∧ OL A vs xs,
  fun e ⟨a, vs, h1, h2, h3⟩ => ⟨a, vs, h1, e _ _ h2, h3.up e⟩⟩
theorem all2_int {A : Hp} : ∀ {vs : List V} {ns : List Int}, All2 (Rep.is A) vs ns → vs = ns.map V.int
  | [], [], _ => rfl
  | v :: vs, n :: ns, h => by
    have h1 : v = .int n := h.1
    rw [h1, all2_int h.2]
    rfl
  | [], _ :: _, h => h.elim
  | _ :: _, [], h => h.elim
theorem int_all2 {A : Hp} : ∀ (ns : List Int), All2 (Rep.is A) (ns.map V.int) ns
  | [] => trivial
  | _ :: ns => ⟨rfl, int_all2 ns⟩
theorem OL.int {A : Hp} {vs : List V} {ns : List Int} (h : OL A vs ns) : vs = ns.map V.int := all2_int h.1
theorem int_ol {A : Hp} {ns : List Int} (h : ns.length ≤ sizeLine) : OL A (ns.map V.int) ns := ⟨int_all2 ns, h⟩
/-- a list of ints does not hang on the heap -/
theorem OL.any {A B : Hp} {vs : List V} {ns : List Int} (h : OL A vs ns) : OL B vs ns := by
  rw [h.int]
  exact int_ol h.2
/-- a list that is read at v in H, its items borne by A -/
def LA {α : Type} [Rep α] (A H : Hp) (v : V) (xs : List α) : Prop := ∃ a vs, v = .ref a ∧ H a = some (.lst vs) ∧ OL A vs xs
section
variable {α β : Type} [Rep α] [Rep β] {A B H H' : Hp} {v : V} {xs : List α} {R : List Hp} {p : Addr}
theorem la_of (S : St H (A :: R)) (h : Is A v xs) : LA A H v xs := by
  obtain ⟨a, vs, e, h1, h2⟩ := h
  exact ⟨a, vs, e, S.1 _ _ h1, h2⟩
theorem LA.up (h : LA A H v xs) (e : Same A B) (g : Same H H') : LA B H' v xs := by
  obtain ⟨a, vs, e1, h1, h2⟩ := h
  exact ⟨a, vs, e1, g _ _ h1, h2.up e⟩
theorem is_new {vs : List V} (h : OL A vs xs) (hp : A p = none) : Is (upd A p (.lst vs)) (.ref p) xs :=
  ⟨p, vs, rfl, upd_same, h.up (same_upd hp)⟩
theorem is_tup {x : α} {y : β} {u w : V} (h1 : Is A u x) (h2 : Is A w y) (hp : A p = none) : Is (upd A p (.tup [u, w])) (.ref p) (x, y) :=
  ⟨p, u, w, rfl, upd_same, Rep.mono (same_upd hp) h1, Rep.mono (same_upd hp) h2⟩
end
end SB

namespace SB
open PySem PySem.Spec PyProof.Rows L2 Res

/-! ## mirrors' words -/
section
variable {ω α β σT γ : Type}
def rangeL (lo hi : Int) : List Int := (List.range (hi - lo).toNat).map fun (i : Nat) => lo + (i : Int)
@[irreducible] def ixR (xs : List α) (i : Int) : Res ω α := match atI xs i with
  | some x => .ok x
  | none => .bad
@[irreducible] def mulR (a b : Int) : Res ω Int := if (-(2 ^ 64) < a ∧ a < 2 ^ 64) ∨ (-(2 ^ 64) < b ∧ b < 2 ^ 64) then .ok (a * b) else .bad
@[irreducible] def modR (a b : Int) : Res ω Int := if 0 < b then .ok (a % b) else .bad
@[irreducible] def divR (a b : Int) : Res ω Int := if 0 < b ∧ b < 1073741824 then .ok (a / b) else .bad
@[irreducible] def catR (xs ys : List α) : Res ω (List α) := if xs.length + ys.length ≤ sizeLine then .ok (xs ++ ys) else .bad
@[irreducible] def appR (xs : List α) (x : α) : Res ω (List α) := if xs.length < sizeLine then .ok (xs ++ [x]) else .bad
/-- a range's ends, in bounds -/
@[irreducible] def rgR (lo hi : Int) : Res ω (List Int) := if -(2 ^ 62) ≤ lo ∧ lo < 2 ^ 62 ∧ -(2 ^ 62) ≤ hi ∧ hi < 2 ^ 62 then .ok (rangeL lo hi) else .bad
/-- a range that a list may be made of -/
@[irreducible] def rlR (n : Int) : Res ω (List Int) := if n ≤ 1000000 ∧ -1000000 ≤ n then .ok (rangeL 0 n) else .bad
def andR (c : Bool) (m : Res ω Bool) : Res ω Bool := if c = true then m else .ok false
def orR (c : Bool) (m : Res ω Bool) : Res ω Bool := if c = true then .ok true else m
@[irreducible] def getR (x : Option α) : Res ω α := match x with
  | some y => .ok y
  | none => .bad
/-- a loop's turn: goes on, or hands back -/
inductive Fl (β σT : Type) where
  | next (s : σT) | ret (y : β)
def forM (body : α → σT → Res ω (Fl β σT)) : List α → σT → Res ω (Fl β σT)
  | [], s => .ok (.next s)
  | x :: xs, s => bind (body x s) fun r => match r with
    | .next s' => forM body xs s'
    | .ret y => .ok (.ret y)
def compM (t : α → Res ω Bool) (e : α → Res ω β) : List α → Res ω (List β)
  | [] => .ok []
  | x :: xs => bind (t x) fun b => if b = true then bind (e x) fun y => bind (compM t e xs) fun ys => .ok (y :: ys) else compM t e xs
end
def insI (x : Int) : List Int → List Int
  | [] => [x]
  | y :: ys => if x ≤ y then x :: y :: ys else y :: insI x ys
def sortI : List Int → List Int
  | [] => []
  | x :: xs => insI x (sortI xs)
theorem insI_perm (x : Int) : ∀ ys : List Int, (insI x ys).Perm (x :: ys)
  | [] => List.Perm.refl _
  | y :: ys => by
    unfold insI
    split
    · exact List.Perm.refl _
    · exact ((insI_perm x ys).cons y).trans (List.Perm.swap x y ys)
theorem sortI_perm : ∀ xs : List Int, (sortI xs).Perm xs
  | [] => List.Perm.refl _
  | x :: xs => (insI_perm x (sortI xs)).trans ((sortI_perm xs).cons x)
theorem insI_sorted (x : Int) : ∀ ys : List Int, ys.Pairwise (· ≤ ·) → (insI x ys).Pairwise (· ≤ ·)
  | [], _ => List.pairwise_singleton _ _
  | y :: ys, h => by
    unfold insI
    cases h with
    | cons h1 h2 =>
      split
      · rename_i hxy
        exact .cons (fun z hz => by
          cases hz with
          | head => exact hxy
          | tail _ hz => exact Int.le_trans hxy (h1 z hz)) (.cons h1 h2)
      · rename_i hxy
        refine .cons (fun z hz => ?_) (insI_sorted x ys h2)
        have hz' := (insI_perm x ys).mem_iff.mp hz
        cases hz' with
        | head => omega
        | tail _ hz => exact h1 z hz
theorem sortI_sorted : ∀ xs : List Int, (sortI xs).Pairwise (· ≤ ·)
  | [] => .nil
  | x :: xs => insI_sorted x _ (sortI_sorted xs)
theorem sorted_eq : ∀ {xs ys : List Int}, xs.Perm ys → xs.Pairwise (· ≤ ·) → ys.Pairwise (· ≤ ·) → xs = ys
  | [], ys, p, _, _ => (List.Perm.nil_eq p)
  | x :: xs, [], p, _, _ => absurd p.length_eq (by simp)
  | x :: xs, y :: ys, p, .cons h1 h2, .cons k1 k2 => by
    have e : x = y := by
      have a : y ∈ x :: xs := p.mem_iff.mpr List.mem_cons_self
      have b : x ∈ y :: ys := p.mem_iff.mp List.mem_cons_self
      cases a with
      | head => rfl
      | tail _ a =>
        cases b with
        | head => rfl
        | tail _ b => exact Int.le_antisymm (h1 y a) (k1 x b)
    subst e
    rw [sorted_eq (List.Perm.cons_inv p) h2 k2]

/-! ## steps -/
section
variable {ω ω' α β γ σT : Type} [Rep α] [Rep β] {A B H H' : Hp} {v u : V} {xs ys : List α} {ns ms : List Int} {R : List Hp} {p : Addr} {K : PySem.W.Frag} {Q : VK}
  {Qr : γ → Prop} {Er : Exn → ω → Prop}
def NewL (Q : VK) (xs : List V) (H : Hp) : Prop := xs.length ≤ sizeLine ∧ ∀ p, H p = none → Q (.ref p) (upd H p (.lst xs))
def NewT (Q : VK) (xs : List V) (H : Hp) : Prop := xs.length ≤ sizeLine ∧ ∀ p, H p = none → Q (.ref p) (upd H p (.tup xs))
/-- a raw new list -/
def RawL (A H : Hp) (Q : VK) (xs : List α) : Prop := ∀ p vs, H p = none → OL A vs xs → Q (.ref p) (upd H p (.lst vs))
theorem fz (S : St H (A :: R)) (k : ∀ p A' H', Same A A' → St H' (A' :: R) → Is A' (.ref p) xs → Q (.ref p) H') : RawL A H Q xs := fun p vs hp h =>
  k p _ _ (same_upd (S.1.free hp)) (S.new hp) (is_new h (S.1.free hp))
theorem ow (S : St H (A :: R)) (k : ∀ p vs H', St H' (A :: one p (.lst vs) :: R) → OL A vs xs → Q (.ref p) H') : RawL A H Q xs := fun p vs hp h =>
  k p vs _ (S.newM hp) h
theorem c_len (h : LA A H v xs) (k : Q (.int xs.length) H) : Evl.rLenS K [v] H Q := by
  obtain ⟨a, vs, rfl, h1, h2⟩ := h
  refine ⟨a, vs, rfl, .inl (SqL.of h1), ?_⟩
  rw [h2.len]
  exact k
theorem ixN_at {n : Nat} {i : Int} {j : Nat} (h : ixN n i = some j) {α : Type} {l : List α} (hl : l.length = n) : atI l i = l[j]? := by
  unfold atI
  rw [hl, h]
  rfl
theorem at_all {P : V → α → Prop} {vs : List V} {i : Int} {x : α} (h : All2 P vs xs) (e : atI xs i = some x) : ∃ w, atI vs i = some w ∧ P w x := by
  unfold atI at e
  cases hj : ixN xs.length i with
  | none =>
    rw [hj] at e
    cases e
  | some j =>
    rw [hj] at e
    have e' : xs[j]? = some x := e
    obtain ⟨w, h1, h2⟩ := h.get e'
    refine ⟨w, ?_, h2⟩
    rw [ixN_at (by rw [← hj, ← h.len]) rfl]
    exact h1
theorem c_ix {i : Int} {f : α → Res ω γ} (h : LA A H v xs) (hm : (bind (ixR xs i) f).wp Qr Er) (k : ∀ x w, Is A w x → (f x).wp Qr Er → Q w H) : rIxL K v (.int i) H Q := by
  obtain ⟨a, vs, rfl, h1, h2⟩ := h
  unfold ixR at hm
  cases e : atI xs i with
  | none =>
    rw [e] at hm
    exact hm.elim
  | some x =>
    rw [e] at hm
    obtain ⟨w, h3, h4⟩ := at_all h2.1 e
    exact ⟨a, vs, i, w, rfl, rfl, SqL.of h1, h3, k x w h4 hm⟩
theorem c_ixI {i : Int} {f : Int → Res ω γ} (h : LA A H v ns) (hm : (bind (ixR ns i) f).wp Qr Er) (k : ∀ x : Int, (f x).wp Qr Er → Q (.int x) H) : rIxL K v (.int i) H Q :=
  c_ix h hm fun x w hw hm => by
    obtain rfl : w = .int x := hw
    exact k x hm
theorem inV_int (x : Int) : ∀ ns : List Int, inV (.int x) (ns.map V.int) = decide (x ∈ ns)
  | [] => by
    unfold inV
    simp
  | n :: ns => by
    have ih := inV_int x ns
    unfold inV at ih ⊢
    rw [List.map_cons, List.any_cons, ih]
    show (decide _ || _) = _
    by_cases e : x = n
    · subst e
      simp [eqV]
    · have : ¬ n = x := fun z => e z.symm
      simp [eqV, e, this]
theorem flat_ints (ns : List Int) : (ns.map V.int).all flatV = true := by
  rw [List.all_map]
  exact List.all_eq_true.mpr fun _ _ => rfl
theorem c_in {x : Int} (h : LA A H v ns) (k : Q (.bl (decide (x ∈ ns))) H) : rIn K false (.int x) v H Q := by
  obtain ⟨a, vs, rfl, h1, h2⟩ := h
  rw [h2.int] at h1
  refine ⟨a, _, rfl, .inl (SqL.of h1), rfl, flat_ints ns, ?_⟩
  rw [inV_int]
  exact k
theorem c_notin {x : Int} (h : LA A H v ns) (k : Q (.bl (!decide (x ∈ ns))) H) : rIn K true (.int x) v H Q := by
  obtain ⟨a, vs, rfl, h1, h2⟩ := h
  rw [h2.int] at h1
  refine ⟨a, _, rfl, .inl (SqL.of h1), rfl, flat_ints ns, ?_⟩
  rw [inV_int]
  exact k
theorem c_cat {f : List α → Res ω γ} (h : LA A H v xs) (h' : LA A H u ys) (hm : (bind (catR xs ys) f).wp Qr Er) (k : ∀ zs, (f zs).wp Qr Er → RawL A H Q zs) : rCat v u H Q := by
  obtain ⟨a, vs, rfl, h1, h2⟩ := h
  obtain ⟨b, ws, rfl, h3, h4⟩ := h'
  unfold catR at hm
  by_cases c : xs.length + ys.length ≤ sizeLine
  · rw [if_pos c] at hm
    exact ⟨a, b, vs, ws, rfl, rfl, h1, h3, by rw [h2.len, h4.len]; exact c, fun p hp => k _ hm p _ hp ⟨h2.1.append h4.1, by rw [List.length_append]; exact c⟩⟩
  · rw [if_neg c] at hm
    exact hm.elim
theorem c_sorted {f : List Int → Res ω γ} (h : LA A H v ns) (hm : (bind (.ok (sortI ns)) f).wp Qr Er) (k : ∀ zs, (f zs).wp Qr Er → RawL A H Q zs) : rSortedI K [v] H Q := by
  obtain ⟨a, vs, rfl, h1, h2⟩ := h
  rw [h2.int] at h1
  refine ⟨a, ns, rfl, SqL.of h1, fun ns' p q s hp => ?_⟩
  have e : ns' = sortI ns := sorted_eq (q.trans (sortI_perm ns).symm) s (sortI_sorted ns)
  rw [e]
  exact k _ hm p _ hp (int_ol (by rw [(sortI_perm ns).length_eq]; exact h2.2))
theorem c_list (h : LA A H v xs) (k : RawL A H Q xs) : Evl.rListS K [v] H Q := by
  obtain ⟨a, vs, rfl, h1, h2⟩ := h
  exact ⟨a, vs, rfl, .inl (SqL.of h1), fun l hl => k l vs hl h2⟩
theorem c_lst {vs : List V} (hz : vs.length ≤ 1000) (h : All2 (Rep.is A) vs xs) (k : RawL A H Q xs) : NewL Q vs H :=
  ⟨Nat.le_of_lt (small1000 hz), fun p hp => k p vs hp ⟨h, by rw [← h.len]; exact Nat.le_of_lt (small1000 hz)⟩⟩
theorem c_tup {x : α} {y : β} {w : V} (S : St H (A :: R)) (h1 : Is A u x) (h2 : Is A w y) (k : ∀ p A' H', Same A A' → St H' (A' :: R) → Is A' (.ref p) (x, y) → Q (.ref p) H') :
    NewT Q [u, w] H :=
  ⟨Nat.le_of_lt (small1000 (show 2 ≤ 1000 by decide)), fun p hp => k p _ _ (same_upd (S.1.free hp)) (S.new hp) (is_tup h1 h2 (S.1.free hp))⟩
theorem c_if {c : Bool} {m1 m2 : Res ω γ} {P1 P2 : Prop} (hm : (if c = true then m1 else m2).wp Qr Er) (h1 : c = true → m1.wp Qr Er → P1) (h2 : c = false → m2.wp Qr Er → P2) : if c = true then P1 else P2 := by
  cases c with
  | true => exact h1 rfl hm
  | false => exact h2 rfl hm
theorem c_eqI {x y : Int} (k : Q (.bl (decide (x = y))) H) : rEq (.int x) (.int y) H Q := by
  refine ⟨rfl, ?_⟩
  have e : decide ((V.int x) = .int y) = decide (x = y) := by
    by_cases z : x = y
    · subst z
      simp
    · have : ¬ V.int x = .int y := fun q => z (V.int.inj q)
      rw [decide_eq_false this, decide_eq_false z]
  rw [e]
  exact k
theorem c_neI {x y : Int} (k : Q (.bl (!decide (x = y))) H) : rNe (.int x) (.int y) H Q := by
  refine ⟨rfl, ?_⟩
  have e : decide ((V.int x) = .int y) = decide (x = y) := by
    by_cases z : x = y
    · subst z
      simp
    · have : ¬ V.int x = .int y := fun q => z (V.int.inj q)
      rw [decide_eq_false this, decide_eq_false z]
  rw [e]
  exact k
theorem c_eqB {x y : Bool} (k : Q (.bl (decide (x = y))) H) : rEq (.bl x) (.bl y) H Q := by
  refine ⟨rfl, ?_⟩
  have e : decide ((V.bl x) = .bl y) = decide (x = y) := by cases x <;> cases y <;> rfl
  rw [e]
  exact k
theorem c_isB {x y : Bool} (k : Q (.bl (decide (x = y))) H) : rIsB (.bl x) (.bl y) H Q := ⟨x, y, rfl, rfl, k⟩
theorem c_neB {x y : Bool} (k : Q (.bl (!decide (x = y))) H) : rNe (.bl x) (.bl y) H Q := by
  refine ⟨rfl, ?_⟩
  have e : decide ((V.bl x) = .bl y) = decide (x = y) := by cases x <;> cases y <;> rfl
  rw [e]
  exact k
theorem c_mul {a b : Int} {f : Int → Res ω γ} (hm : (bind (mulR a b) f).wp Qr Er) (k : (f (a * b)).wp Qr Er → Q (.int (a * b)) H) : rI CMul (fun i j => .int (i * j)) (.int a) (.int b) H Q := by
  unfold mulR at hm
  by_cases c : (-(2 ^ 64) < a ∧ a < 2 ^ 64) ∨ (-(2 ^ 64) < b ∧ b < 2 ^ 64)
  · rw [if_pos c] at hm
    exact ⟨a, b, rfl, rfl, c, k hm⟩
  · rw [if_neg c] at hm
    exact hm.elim
theorem c_mod {a b : Int} {f : Int → Res ω γ} (hm : (bind (modR a b) f).wp Qr Er) (k : (f (a % b)).wp Qr Er → Q (.int (a % b)) H) : rI (fun _ j => 0 < j) (fun i j => .int (i % j)) (.int a) (.int b) H Q := by
  unfold modR at hm
  by_cases c : 0 < b
  · rw [if_pos c] at hm
    exact ⟨a, b, rfl, rfl, c, k hm⟩
  · rw [if_neg c] at hm
    exact hm.elim
theorem c_div {a b : Int} {f : Int → Res ω γ} (hm : (bind (divR a b) f).wp Qr Er) (k : (f (a / b)).wp Qr Er → Q (.int (a / b)) H) : rI CDiv (fun i j => .int (i / j)) (.int a) (.int b) H Q := by
  unfold divR at hm
  by_cases c : 0 < b ∧ b < 1073741824
  · rw [if_pos c] at hm
    exact ⟨a, b, rfl, rfl, c, k hm⟩
  · rw [if_neg c] at hm
    exact hm.elim

/-! ### comprehensions -/
/-- a test, an element: what they come to, nothing but new things laid -/
def TstOk (tt : TT) (σ : L2.St) (A : Hp) (R : List Hp) (b : Bool) : Prop := ∀ A1 H1, Same A A1 → St H1 (A1 :: R) → ∀ Q : Bool → Hp → Prop, (∀ A2 H2, Same A1 A2 → St H2 (A2 :: R) → Q b H2) → tt σ H1 Q
def EltOk (te : TE) (σ : L2.St) (A : Hp) (R : List Hp) (y : β) : Prop := ∀ A1 H1, Same A A1 → St H1 (A1 :: R) → ∀ Q : VK, (∀ A2 H2 w, Same A1 A2 → St H2 (A2 :: R) → Is A2 w y → Q w H2) → te σ H1 Q
theorem yes_ok {σ : L2.St} : TstOk tYes σ A R true := fun A1 H1 _ S Q k => k A1 H1 (Same.refl _) S
theorem St.dropOwn {n : Hp} (S : St H (A :: n :: R)) : St H (A :: R) := ⟨S.1, fun q hq => S.2.1 q (List.mem_cons_of_mem _ hq), S.2.2.2.2⟩
/-- what stands while a list is filled: some of the items so far -/
def CwP (A : Hp) (R : List Hp) (f : α → Bool) (g : α → β) (xs : List α) (Dl : Addr) (i : Nat) (H' : Hp) : Prop :=
  ∃ A' vs, Same A A' ∧ St H' (A' :: one Dl (.lst vs) :: R) ∧ All2 (Rep.is A') vs (((xs.take i).filter f).map g)
theorem cw_turn {σ2 : L2.St} {tt : TT} {te : TE} {f : α → Bool} {g : α → β} {Dl : Addr} {i : Nat} {x : α} (hx : xs[i]? = some x) (hz : i < sizeLine) (p : CwP A R f g xs Dl i H')
    (ht : ∀ A1 n, Same A A1 → TstOk tt σ2 A1 (n :: R) (f x)) (he : ∀ A1 n, Same A A1 → f x = true → EltOk te σ2 A1 (n :: R) (g x)) :
    tt σ2 H' fun b H3 => if b = true then te σ2 H3 fun y H4 => ∃ acc, H4 Dl = some (.lst acc) ∧ acc.length < sizeLine ∧ CwP A R f g xs Dl (i + 1) (upd H4 Dl (.lst (acc ++ [y]))) else CwP A R f g xs Dl (i + 1) H3 := by
  obtain ⟨A', vs, eA, S, hv⟩ := p
  have et : xs.take (i + 1) = xs.take i ++ [x] := by rw [List.take_add_one, hx]; rfl
  refine ht A' (one Dl (.lst vs)) eA A' H' (Same.refl _) S _ fun A2 H2 e2 S2 => ?_
  cases hf : f x with
  | true =>
    show te σ2 H2 fun y H4 => ∃ acc, H4 Dl = some (.lst acc) ∧ acc.length < sizeLine ∧ CwP A R f g xs Dl (i + 1) (upd H4 Dl (.lst (acc ++ [y])))
    refine he A' (one Dl (.lst vs)) eA hf A2 H2 e2 S2 _ fun A3 H3 w e3 S3 hw => ⟨vs, S3.second _ _ one_same, ?_, A3, vs ++ [w], (eA.trans e2).trans e3, S3.wr1, ?_⟩
    · rw [hv.len, List.length_map]
      refine Nat.lt_of_le_of_lt (Nat.le_trans (List.length_filter_le _ _) ?_) hz
      rw [List.length_take]
      exact Nat.min_le_left _ _
    · rw [et, List.filter_append, List.map_append, List.filter_cons, if_pos hf]
      exact (hv.mono fun _ _ h => Rep.mono (e2.trans e3) h).append ⟨hw, trivial⟩
  | false =>
    show CwP A R f g xs Dl (i + 1) H2
    refine ⟨A2, vs, eA.trans e2, S2, ?_⟩
    rw [et, List.filter_append, List.map_append, List.filter_cons, if_neg (by rw [hf]; decide)]
    show All2 _ vs (_ ++ [])
    rw [List.append_nil]
    exact hv.mono fun _ _ h => Rep.mono e2 h
/-- over a frozen list: the new list is owned -/
theorem c_lcL {σ : L2.St} {tl : TE} {tt : TT} {te : TE} {j : Nat} {vs : List Nat} {fm : List β → Res ω γ} (f : α → Bool) (g : α → β) (S : St H (A :: R)) (htl : ∀ Q' : VK, Q' v H → tl σ H Q') (hx : Is A v xs) (hm : (bind (.ok ((xs.filter f).map g)) fm).wp Qr Er)
    (hw : ∀ x, wipe ((wipe σ vs).set j (some x)) vs = wipe σ vs)
    (ht : ∀ x w A1 n, x ∈ xs → Same A A1 → Is A1 w x → TstOk tt ((wipe σ vs).set j (some w)) A1 (n :: R) (f x)) (he : ∀ x w A1 n, x ∈ xs → Same A A1 → Is A1 w x → f x = true → EltOk te ((wipe σ vs).set j (some w)) A1 (n :: R) (g x))
    (k : ∀ p A' H' ws ys, (fm ys).wp Qr Er → Same A A' → St H' (A' :: one p (.lst ws) :: R) → OL A' ws ys → Q (.ref p) H') : tLc (iList K tl) (gName j) tt te vs σ H Q := by
  obtain ⟨a, us, rfl, h1, h2⟩ := hx
  refine htl _ ⟨a, rfl, ⟨us, SqL.of (S.1 _ _ h1)⟩, fun Dl hD => ?_⟩
  refine lc_list (xs := us) (CwP A R f g xs Dl) ⟨A, [], Same.refl _, S.newM hD, trivial⟩ (fun i H' _ p => ?_) (fun i w H' hi p => ?_) (fun H' p => ?_)
  · obtain ⟨A', ws, e, S', _⟩ := p
    exact SqL.of (S'.1 _ _ (e _ _ h1))
  · obtain ⟨x, hxi, hxw⟩ := h2.1.getV hi
    have hm : x ∈ xs := List.mem_of_getElem? hxi
    have hlt : i < xs.length := (List.getElem?_eq_some_iff.mp hxi).1
    exact ⟨hw w, cw_turn hxi (Nat.lt_of_lt_of_le hlt h2.2) p (fun A1 n e => ht x w A1 n hm e (Rep.mono e hxw)) (fun A1 n e hf => he x w A1 n hm e (Rep.mono e hxw) hf)⟩
  · obtain ⟨A', ws, e, S', h⟩ := p
    rw [h2.len, List.take_length] at h
    exact k Dl A' H' ws _ hm e S' ⟨h, by
      rw [List.length_map]
      exact Nat.le_trans (List.length_filter_le _ _) h2.2⟩
/-- over a range -/
theorem c_lcR {σ : L2.St} {ta : TA} {tt : TT} {te : TE} {j : Nat} {vs : List Nat} {n : Int} {fm : List β → Res ω γ} (f : Int → Bool) (g : Int → β) (S : St H (A :: R)) (hta : ∀ Q' : List V → Hp → Prop, Q' [.int n] H → ta σ H Q') (hm : (bind (bind (rlR n) fun l => .ok ((l.filter f).map g)) fm).wp Qr Er)
    (hw : ∀ x, wipe ((wipe σ vs).set j (some x)) vs = wipe σ vs)
    (ht : ∀ (x : Int) A1 m, x ∈ rangeL 0 n → Same A A1 → TstOk tt ((wipe σ vs).set j (some (.int x))) A1 (m :: R) (f x)) (he : ∀ (x : Int) A1 m, x ∈ rangeL 0 n → Same A A1 → f x = true → EltOk te ((wipe σ vs).set j (some (.int x))) A1 (m :: R) (g x))
    (k : ∀ p A' H' ws ys, (fm ys).wp Qr Er → Same A A' → St H' (A' :: one p (.lst ws) :: R) → OL A' ws ys → Q (.ref p) H') : tLc (iRng1 ta) (gName j) tt te vs σ H Q := by
  unfold rlR at hm
  by_cases hz : n ≤ 1000000 ∧ -1000000 ≤ n
  case neg =>
    rw [if_neg hz] at hm
    exact hm.elim
  rw [if_pos hz] at hm
  have hsz : (1000000 : Nat) < sizeLine := by decide
  have hlen : (rangeL 0 n).length = n.toNat := by unfold rangeL; rw [List.length_map, List.length_range]; omega
  refine hta _ ⟨n, rfl, by omega, by omega, fun Dl hD => ?_⟩
  refine lc_range (lo := 0) (n := n.toNat) (CwP A R f g (rangeL 0 n) Dl) ⟨A, [], Same.refl _, S.newM hD, trivial⟩ (fun i H' hi p => ?_) (fun H' p => ?_)
  · have hxi : (rangeL 0 n)[i]? = some (0 + (i : Int)) := by
      unfold rangeL
      rw [List.getElem?_map, List.getElem?_range (by omega)]
      rfl
    have hm := List.mem_of_getElem? hxi
    exact ⟨hw _, cw_turn hxi (Nat.lt_of_le_of_lt (by omega) hsz) p (fun A1 m e => ht _ A1 m hm e) (fun A1 m e hf => he _ A1 m hm e hf)⟩
  · obtain ⟨A', ws, e, S', h⟩ := p
    rw [← hlen, List.take_length] at h
    exact k Dl A' H' ws _ hm e S' ⟨h, by
      rw [List.length_map]
      exact Nat.le_trans (List.length_filter_le _ _) (by rw [hlen]; exact Nat.le_of_lt (Nat.lt_of_le_of_lt (by omega) hsz))⟩
theorem frz_is {A : Hp} {p : Addr} {ws : List V} (h : OL A ws xs) (S : St H (A :: one p (.lst ws) :: R)) : Is (join A (one p (.lst ws))) (.ref p) xs :=
  ⟨p, ws, rfl, same_join_r S.dj _ _ one_same, h.up same_join_l⟩

/-! ### loops -/
/-- for x in a frozen list -/
theorem c_forL {σ : L2.St} {tl : TE} {tu : TS} {j : Nat} {D : Ends} {s0 : σT} {body : α → σT → Res ω (Fl β' σT)} {f : Fl β' σT → Res ω γ} (Rel : Hp → L2.St → List Hp → σT → Prop)
    (S : St H (A :: R)) (htl : ∀ Q' : VK, Q' v H → tl σ H Q') (hx : Is A v xs) (h0 : Rel A σ R s0) (hm : (bind (forM body xs s0) f).wp Qr Er)
    (step : ∀ x w A' H' σ' R' s (C : σT → Prop) (N : L2.St → Hp → Prop), x ∈ xs → Same A A' → St H' (A' :: R') → Is A' w x → Rel A' σ' R' s →
      (∀ A'' H'' σ'' R'' s', Same A A'' → St H'' (A'' :: R'') → Rel A'' σ'' R'' s' → C s' → N σ'' H'') →
      (body x s).wp (fun r => match r with | .next s' => C s' | .ret y => (f (.ret y)).wp Qr Er) Er → tu { D with nx := N, ct := N, bk := D.nx } (σ'.set j (some w)) H')
    (done : ∀ A' H' σ' R' s, Same A A' → St H' (A' :: R') → Rel A' σ' R' s → (f (.next s)).wp Qr Er → D.nx σ' H') : tFor (iList K tl) (gName j) tu D σ H := by
  obtain ⟨a, us, rfl, h1, h2⟩ := hx
  refine htl _ ⟨a, rfl, ⟨us, SqL.of (S.1 _ _ h1)⟩, ?_⟩
  refine for_list (xs := us) (fun i σ' H' => ∃ A' R' s, Same A A' ∧ St H' (A' :: R') ∧ Rel A' σ' R' s ∧ (bind (forM body (xs.drop i) s) f).wp Qr Er) ⟨A, R, s0, Same.refl _, S, h0, hm⟩ (fun i σ' H' _ ⟨A', R', s, e, S', _⟩ => SqL.of (S'.1 _ _ (e _ _ h1))) (fun i w σ' H' hi ⟨A', R', s, e, S', hr, hw⟩ => ?_) (fun σ' H' ⟨A', R', s, e, S', hr, hw⟩ => ?_)
  · obtain ⟨x, hxi, hxw⟩ := h2.1.getV hi
    have ed : xs.drop i = x :: xs.drop (i + 1) := by
      obtain ⟨hlt, hg⟩ := List.getElem?_eq_some_iff.mp hxi
      rw [← hg]
      exact List.drop_eq_getElem_cons hlt
    rw [ed] at hw
    refine step x w A' H' σ' R' s (fun s' => (bind (forM body (xs.drop (i + 1)) s') f).wp Qr Er) _ (List.mem_of_getElem? hxi) e S' (Rep.mono e hxw) hr (fun A'' H'' σ'' R'' s' e' S'' hr' hc => ⟨A'', R'', s', e', S'', hr', hc⟩) ?_
    unfold forM at hw
    cases hb : body x s with
    | ok r =>
      rw [hb] at hw
      cases r with
      | next s' => exact hw
      | ret y => exact hw
    | ex e w =>
      rw [hb] at hw
      exact hw
    | bad =>
      rw [hb] at hw
      exact hw
  · rw [h2.len, List.drop_length] at hw
    exact done A' H' σ' R' s e S' hr hw
/-- for k in range(lo, hi) -/
theorem c_forR2 {σ : L2.St} {ta : TA} {tu : TS} {j : Nat} {D : Ends} {lo hi : Int} {s0 : σT} {body : Int → σT → Res ω (Fl β' σT)} {f : Fl β' σT → Res ω γ} (Rel : Hp → L2.St → List Hp → σT → Prop)
    (S : St H (A :: R)) (hta : ∀ Q' : List V → Hp → Prop, Q' [.int lo, .int hi] H → ta σ H Q') (h0 : Rel A σ R s0) (hm : (bind (bind (rgR lo hi) fun l => forM body l s0) f).wp Qr Er)
    (step : ∀ (x : Int) A' H' σ' R' s (C : σT → Prop) (N : L2.St → Hp → Prop), lo ≤ x → x < hi → Same A A' → St H' (A' :: R') → Rel A' σ' R' s →
      (∀ A'' H'' σ'' R'' s', Same A A'' → St H'' (A'' :: R'') → Rel A'' σ'' R'' s' → C s' → N σ'' H'') →
      (body x s).wp (fun r => match r with | .next s' => C s' | .ret y => (f (.ret y)).wp Qr Er) Er → tu { D with nx := N, ct := N, bk := D.nx } (σ'.set j (some (.int x))) H')
    (done : ∀ A' H' σ' R' s, Same A A' → St H' (A' :: R') → Rel A' σ' R' s → (f (.next s)).wp Qr Er → D.nx σ' H') : tFor (iRng2 ta) (gName j) tu D σ H := by
  unfold rgR at hm
  by_cases hb : -(2 ^ 62) ≤ lo ∧ lo < 2 ^ 62 ∧ -(2 ^ 62) ≤ hi ∧ hi < 2 ^ 62
  case neg =>
    rw [if_neg hb] at hm
    exact hm.elim
  rw [if_pos hb] at hm
  have hm : (bind (forM body (rangeL lo hi) s0) f).wp Qr Er := hm
  have hlen : (rangeL lo hi).length = (hi - lo).toNat := by unfold rangeL; rw [List.length_map, List.length_range]
  refine hta _ ⟨lo, hi, rfl, hb, ?_⟩
  refine for_range (lo := lo) (n := (hi - lo).toNat) (fun i σ' H' => ∃ A' R' s, Same A A' ∧ St H' (A' :: R') ∧ Rel A' σ' R' s ∧ (bind (forM body ((rangeL lo hi).drop i) s) f).wp Qr Er) ⟨A, R, s0, Same.refl _, S, h0, hm⟩ (fun i σ' H' hi' ⟨A', R', s, e, S', hr, hw⟩ => ?_) (fun σ' H' ⟨A', R', s, e, S', hr, hw⟩ => ?_)
  · have hxi : (rangeL lo hi)[i]? = some (lo + (i : Int)) := by
      unfold rangeL
      rw [List.getElem?_map, List.getElem?_range hi']
      rfl
    have ed : (rangeL lo hi).drop i = (lo + (i : Int)) :: (rangeL lo hi).drop (i + 1) := by
      obtain ⟨hlt, hg⟩ := List.getElem?_eq_some_iff.mp hxi
      rw [← hg]
      exact List.drop_eq_getElem_cons hlt
    rw [ed] at hw
    refine step (lo + (i : Int)) A' H' σ' R' s (fun s' => (bind (forM body ((rangeL lo hi).drop (i + 1)) s') f).wp Qr Er) _ (by omega) (by omega) e S' hr (fun A'' H'' σ'' R'' s' e' S'' hr' hc => ⟨A'', R'', s', e', S'', hr', hc⟩) ?_
    unfold forM at hw
    cases hb : body (lo + (i : Int)) s with
    | ok r =>
      rw [hb] at hw
      cases r with
      | next s' => exact hw
      | ret y => exact hw
    | ex e w =>
      rw [hb] at hw
      exact hw
    | bad =>
      rw [hb] at hw
      exact hw
  · rw [← hlen, List.drop_length] at hw
    exact done A' H' σ' R' s e S' hr hw
theorem c_forR1 {σ : L2.St} {ta : TA} {tu : TS} {j : Nat} {D : Ends} {hi : Int} {s0 : σT} {body : Int → σT → Res ω (Fl β' σT)} {f : Fl β' σT → Res ω γ} (Rel : Hp → L2.St → List Hp → σT → Prop)
    (S : St H (A :: R)) (hta : ∀ Q' : List V → Hp → Prop, Q' [.int hi] H → ta σ H Q') (h0 : Rel A σ R s0) (hm : (bind (bind (rgR 0 hi) fun l => forM body l s0) f).wp Qr Er)
    (step : ∀ (x : Int) A' H' σ' R' s (C : σT → Prop) (N : L2.St → Hp → Prop), 0 ≤ x → x < hi → Same A A' → St H' (A' :: R') → Rel A' σ' R' s →
      (∀ A'' H'' σ'' R'' s', Same A A'' → St H'' (A'' :: R'') → Rel A'' σ'' R'' s' → C s' → N σ'' H'') →
      (body x s).wp (fun r => match r with | .next s' => C s' | .ret y => (f (.ret y)).wp Qr Er) Er → tu { D with nx := N, ct := N, bk := D.nx } (σ'.set j (some (.int x))) H')
    (done : ∀ A' H' σ' R' s, Same A A' → St H' (A' :: R') → Rel A' σ' R' s → (f (.next s)).wp Qr Er → D.nx σ' H') : tFor (iRng1 ta) (gName j) tu D σ H := by
  have t := c_forR2 (σ := σ) (ta := fun _ H Q' => Q' [.int 0, .int hi] H) (tu := tu) (j := j) (D := D) Rel S (fun Q' q => q) h0 hm step done
  obtain ⟨i', j', e, hb, W⟩ := t
  cases e
  refine hta _ ⟨hi, rfl, hb.2.2.1, hb.2.2.2, ?_⟩
  have e0 : (hi - 0).toNat = hi.toNat := by omega
  rw [e0] at W
  exact W
end
end SB
namespace SB
open PySem PySem.Spec PyProof.Rows L2 Res
/-! ## statements, one by one (all by unfolding) -/
section
variable {te tv : TE} {tz t u : TS} {c : TT} {D : Ends} {σ : L2.St} {H : Hp} {i : Nat} {wi : TI} {g : TG}
theorem q_asg (h : te σ H fun v H' => tz D (σ.set i (some v)) H') : tSeq (tAsg te (gName i)) tz D σ H := h
theorem s_asg (h : te σ H fun v H' => D.nx (σ.set i (some v)) H') : tAsg te (gName i) D σ H := h
theorem q_drop (h : te σ H fun _ H' => tz D σ H') : tSeq (tDrop te) tz D σ H := h
theorem s_drop (h : te σ H fun _ H' => D.nx σ H') : tDrop te D σ H := h
theorem s_ret (h : te σ H D.rt) : tRet te D σ H := h
theorem s_next (h : D.nx σ H) : tNext D σ H := h
theorem q_next (h : tz D σ H) : tSeq tNext tz D σ H := h
theorem q_if (h : c σ H fun b H1 => if b = true then t { D with nx := tz D } σ H1 else u { D with nx := tz D } σ H1) : tSeq (tIfS c t u) tz D σ H := h
theorem q_when (h : c σ H fun b H1 => if b = true then t { D with nx := tz D } σ H1 else tz D σ H1) : tSeq (tIfS c t tNext) tz D σ H := h
theorem s_if (h : c σ H fun b H1 => if b = true then t D σ H1 else u D σ H1) : tIfS c t u D σ H := h
theorem s_when (h : c σ H fun b H1 => if b = true then t D σ H1 else D.nx σ H1) : tIfS c t tNext D σ H := h
theorem q_for (h : tFor wi g t { D with nx := tz D } σ H) : tSeq (tFor wi g t) tz D σ H := h
theorem q_seq (h : t { D with nx := tz D } σ H) : tSeq t tz D σ H := h
theorem c_not {b : Bool} {Q : Bool → Hp → Prop} (h : c σ H fun b H1 => Q (!b) H1) : tNot c σ H Q := h
theorem c_and {d : TT} {Q : Bool → Hp → Prop} (h : c σ H fun b H1 => if b = true then d σ H1 Q else Q false H1) : tAnd c d σ H Q := h
theorem c_or {d : TT} {Q : Bool → Hp → Prop} (h : c σ H fun b H1 => if b = true then Q true H1 else d σ H1 Q) : tOr c d σ H Q := h
end
section
variable {ω γ β' σT : Type} {A H : Hp} {R : List Hp} {Qr : γ → Prop} {Er : Exn → ω → Prop}
/-- a test whose ways meet -/
theorem q_test {c : TT} {P : Bool → Hp → Prop} {σ : L2.St} {m : Res ω Bool} {f : Bool → Res ω γ} (hm : (bind m f).wp Qr Er)
    (h1 : ∀ Qb : Bool → Hp → Prop, (∀ b A' H', Same A A' → St H' (A' :: R) → (f b).wp Qr Er → Qb b H') → m.wp (fun b => (f b).wp Qr Er) Er → c σ H Qb)
    (h2 : ∀ b A' H', Same A A' → St H' (A' :: R) → (f b).wp Qr Er → P b H') : c σ H P := h1 P h2 (wp_bind hm)
/-- two statements with a word between them -/
theorem q_cut {t u : TS} {D : Ends} {σ : L2.St} {m : Res ω (Fl β' σT)} {f : Fl β' σT → Res ω γ} (Rel : Hp → L2.St → List Hp → σT → Prop) (hm : (bind m f).wp Qr Er)
    (h1 : ∀ (C : σT → Prop) (N : L2.St → Hp → Prop), (∀ A' H' σ' R' s, Same A A' → St H' (A' :: R') → Rel A' σ' R' s → C s → N σ' H') →
      m.wp (fun r => match r with | .next s => C s | .ret y => (f (.ret y)).wp Qr Er) Er → t { D with nx := N } σ H)
    (h2 : ∀ A' H' σ' R' s, Same A A' → St H' (A' :: R') → Rel A' σ' R' s → (f (.next s)).wp Qr Er → u D σ' H') : Evl.tCut t u D σ H := by
  refine ⟨fun σ' H' => ∃ A' R' s, Same A A' ∧ St H' (A' :: R') ∧ Rel A' σ' R' s ∧ (f (.next s)).wp Qr Er, ?_, fun σ' H' ⟨A', R', s, e, S', hr, hw⟩ => h2 A' H' σ' R' s e S' hr hw⟩
  refine h1 (fun s => (f (.next s)).wp Qr Er) _ (fun A' H' σ' R' s e S' hr hc => ⟨A', R', s, e, S', hr, hc⟩) ?_
  refine wp_mono (wp_bind hm) (fun r h => ?_) (fun _ _ h => h)
  cases r with
  | next s => exact h
  | ret y => exact h
theorem c_andR {c : Bool} {m : Res ω Bool} {Q : Bool → Prop} {P1 P2 : Prop} (hm : (andR c m).wp Q Er) (h1 : c = true → m.wp Q Er → P1) (h2 : c = false → Q false → P2) : if c = true then P1 else P2 := by
  cases c with
  | true => exact h1 rfl hm
  | false => exact h2 rfl hm
theorem c_orR {c : Bool} {m : Res ω Bool} {Q : Bool → Prop} {P1 P2 : Prop} (hm : (orR c m).wp Q Er) (h1 : c = true → Q true → P1) (h2 : c = false → m.wp Q Er → P2) : if c = true then P1 else P2 := by
  cases c with
  | true => exact h1 rfl hm
  | false => exact h2 rfl hm
end
/-! ## kinds of values -/
section
variable {K : PySem.W.Frag} {H A : Hp} {Q : VK}
theorem c_isi {x : V} {t : String} {b : Bool} {T : Value} (hx : TyX K H x T) (hk : PySem.W.kitOne K T (.type t) = some b) (k : Q (.bl b) H) : rIsi K [x, .ty t] H Q :=
  ⟨x, .ty t, T, .type t, b, rfl, .ty t, hx, hk, k⟩
theorem isi_int {x : Int} (k : Q (.bl true) H) : rIsi K [.int x, .ty "int"] H Q := c_isi (.base (.int x)) (kit_ty (by decide +kernel)) k
theorem isi_int_bool {x : Int} (k : Q (.bl false) H) : rIsi K [.int x, .ty "bool"] H Q := c_isi (.base (.int x)) (kit_ty (by decide +kernel)) k
theorem isi_bool {x : Bool} (k : Q (.bl true) H) : rIsi K [.bl x, .ty "bool"] H Q := c_isi (.base (.bl x)) (kit_ty (by decide +kernel)) k
theorem isi_bool_int {x : Bool} (k : Q (.bl true) H) : rIsi K [.bl x, .ty "int"] H Q := c_isi (.base (.bl x)) (kit_ty (by decide +kernel)) k
theorem isi_list {α : Type} [Rep α] {xs : List α} {v : V} (h : LA A H v xs) (k : Q (.bl true) H) : rIsi K [v, .ty "list"] H Q := by
  obtain ⟨a, vs, rfl, h1, h2⟩ := h
  exact c_isi (.base (.lst h1)) (kit_ty (by decide +kernel)) k
end
/-! ## equality of data -/
class RepD (α : Type) extends Rep α where
  D : α → PyData
  dp : ∀ {K : PySem.W.Frag} {A H : Hp} {v : V} {x : α}, Same A H → Rep.is A v x → Dp K H v (D x)
  deep : Nat
  shp : ∀ x, (D x).canLay0 = true ∧ (D x).depth ≤ deep
  eqv : ∀ x y, PyData.eqv (D x) (D y) = true ↔ x = y
section
variable {K : PySem.W.Frag} {A B H : Hp} {Q : VK} {α : Type} [RepD α] {x y : α} {v u : V}
theorem shaped_of (h : RepD.deep (α := α) ≤ 64) (x : α) : SeqAt.shaped (RepD.D x) = true := by
  unfold SeqAt.shaped
  obtain ⟨h1, h2⟩ := RepD.shp x
  rw [h1, decide_eq_true (Nat.le_trans h2 h)]
  rfl
theorem c_eqD [DecidableEq α] (hx : Dp K H v (RepD.D x)) (hy : Dp K H u (RepD.D y)) (hd : RepD.deep (α := α) ≤ 64) (k : Q (.bl (decide (x = y))) H) : rEqD K v u H Q := by
  refine ⟨_, _, hx, hy, shaped_of hd x, shaped_of hd y, ?_⟩
  have e : PyData.eqv (RepD.D x) (RepD.D y) = decide (x = y) := by
    by_cases z : x = y
    · rw [(RepD.eqv x y).mpr z, decide_eq_true z]
    · rw [decide_eq_false z]
      cases q : PyData.eqv (RepD.D x) (RepD.D y) with
      | true => exact absurd ((RepD.eqv x y).mp q) z
      | false => rfl
  rw [e]
  exact k
theorem c_neD [DecidableEq α] (hx : Dp K H v (RepD.D x)) (hy : Dp K H u (RepD.D y)) (hd : RepD.deep (α := α) ≤ 64) (k : Q (.bl (!decide (x = y))) H) : rNeD K v u H Q := by
  refine ⟨_, _, hx, hy, shaped_of hd x, shaped_of hd y, ?_⟩
  have e : PyData.eqv (RepD.D x) (RepD.D y) = decide (x = y) := by
    by_cases z : x = y
    · rw [(RepD.eqv x y).mpr z, decide_eq_true z]
    · rw [decide_eq_false z]
      cases q : PyData.eqv (RepD.D x) (RepD.D y) with
      | true => exact absurd ((RepD.eqv x y).mp q) z
      | false => rfl
  rw [e]
  exact k
end
end SB
namespace SB
open PySem PySem.Spec PyProof.Rows L2 Res
class NN (α : Type) [RepD α] : Prop where
  nn : ∀ x : α, RepD.D x ≠ .none
theorem dpAll_of {α : Type} [RepD α] {K : PySem.W.Frag} {A H : Hp} (e : Same A H) : ∀ {vs : List V} {xs : List α}, All2 (Rep.is A) vs xs → DpAll K H vs (xs.map RepD.D)
  | [], [], _ => .nil
  | _ :: _, _ :: _, h => .cons (RepD.dp e h.1) (dpAll_of e h.2)
  | [], _ :: _, h => h.elim
  | _ :: _, [], h => h.elim
theorem lay_all {α : Type} [RepD α] : ∀ xs : List α, PyData.canLayAll0 (xs.map RepD.D) = true ∧ PyData.depthAll (xs.map RepD.D) ≤ RepD.deep (α := α)
  | [] => ⟨rfl, Nat.zero_le _⟩
  | x :: xs => by
    obtain ⟨h1, h2⟩ := lay_all xs
    obtain ⟨k1, k2⟩ := RepD.shp x
    constructor
    · show (PyData.canLay0 (RepD.D x) && PyData.canLayAll0 (xs.map RepD.D)) = true
      rw [k1, h1]
      rfl
    · show max (PyData.depth (RepD.D x)) (PyData.depthAll (xs.map RepD.D)) ≤ _
      exact Nat.max_le.mpr ⟨k2, h2⟩
theorem eqv_all {α : Type} [RepD α] : ∀ xs ys : List α, PyData.eqvAll (xs.map RepD.D) (ys.map RepD.D) = true ↔ xs = ys
  | [], [] => by simp [PyData.eqvAll]
  | [], _ :: _ => by simp [PyData.eqvAll]
  | _ :: _, [] => by simp [PyData.eqvAll]
  | x :: xs, y :: ys => by
    show (PyData.eqv (RepD.D x) (RepD.D y) && PyData.eqvAll (xs.map RepD.D) (ys.map RepD.D)) = true ↔ _
    rw [Bool.and_eq_true, RepD.eqv, eqv_all xs ys]
    constructor
    · rintro ⟨rfl, rfl⟩
      rfl
    · intro h
      injection h with h1 h2
      exact ⟨h1, h2⟩
instance : RepD Int where
  D := .int
  dp := fun _ h => by
    cases h
    exact .int _
  deep := 0
  shp := fun _ => ⟨rfl, Nat.le_refl _⟩
  eqv := fun x y => by
    show (x == y) = true ↔ x = y
    exact beq_iff_eq
instance : RepD Bool where
  D := .bool
  dp := fun _ h => by
    cases h
    exact .bl _
  deep := 0
  shp := fun _ => ⟨rfl, Nat.le_refl _⟩
  eqv := fun x y => by
    show (x == y) = true ↔ x = y
    exact beq_iff_eq
instance : NN Int := ⟨fun _ h => nomatch h⟩
instance : NN Bool := ⟨fun _ h => nomatch h⟩
instance instDList {α : Type} [RepD α] : RepD (List α) where
  D := fun xs => .list (xs.map RepD.D)
  dp := fun e ⟨a, vs, h1, h2, h3⟩ => by
    subst h1
    exact .lst (SqL.of (e _ _ h2)) (dpAll_of e h3.1)
  deep := RepD.deep (α := α) + 1
  shp := fun xs => by
    obtain ⟨h1, h2⟩ := lay_all xs
    exact ⟨h1, Nat.succ_le_succ h2⟩
  eqv := fun xs ys => eqv_all xs ys
instance {α : Type} [RepD α] : NN (List α) := ⟨fun _ h => nomatch h⟩
instance instDProd {α β : Type} [RepD α] [RepD β] : RepD (α × β) where
  D := fun x => .tuple [RepD.D x.1, RepD.D x.2]
  dp := fun e ⟨a, u, w, h1, h2, h3, h4⟩ => by
    subst h1
    exact .tup (SqT.of (e _ _ h2)) (.cons (RepD.dp e h3) (.cons (RepD.dp e h4) .nil))
  deep := max (RepD.deep (α := α)) (RepD.deep (α := β)) + 1
  shp := fun x => by
    obtain ⟨h1, h2⟩ := RepD.shp x.1
    obtain ⟨k1, k2⟩ := RepD.shp x.2
    constructor
    · show (PyData.canLay0 (RepD.D x.1) && (PyData.canLay0 (RepD.D x.2) && true)) = true
      rw [h1, k1]
      rfl
    · show max (PyData.depth (RepD.D x.1)) (max (PyData.depth (RepD.D x.2)) 0) + 1 ≤ _
      omega
  eqv := fun x y => by
    show (PyData.eqv (RepD.D x.1) (RepD.D y.1) && (PyData.eqv (RepD.D x.2) (RepD.D y.2) && true)) = true ↔ _
    rw [Bool.and_true, Bool.and_eq_true, RepD.eqv, RepD.eqv]
    exact ⟨fun ⟨h1, h2⟩ => Prod.ext h1 h2, fun h => by rw [h]; exact ⟨rfl, rfl⟩⟩
instance {α β : Type} [RepD α] [RepD β] : NN (α × β) := ⟨fun _ h => nomatch h⟩
instance instDOpt {α : Type} [RepD α] [NN α] : RepD (Option α) where
  D := fun x => match x with
    | none => .none
    | some y => RepD.D y
  dp := fun {K A H v x} e h => by
    cases x with
    | none =>
      cases h
      exact .non
    | some y => exact RepD.dp e h.2
  deep := RepD.deep (α := α)
  shp := fun x => by
    cases x with
    | none => exact ⟨rfl, Nat.zero_le _⟩
    | some y => exact RepD.shp y
  eqv := fun x y => by
    cases x with
    | none =>
      cases y with
      | none => simp [PyData.eqv]
      | some y =>
        have h := NN.nn y
        show PyData.eqv .none (RepD.D y) = true ↔ _
        cases e : RepD.D y <;> simp_all [PyData.eqv]
    | some x =>
      cases y with
      | none =>
        have h := NN.nn x
        show PyData.eqv (RepD.D x) .none = true ↔ _
        cases e : RepD.D x <;> simp_all [PyData.eqv]
      | some y =>
        show PyData.eqv (RepD.D x) (RepD.D y) = true ↔ _
        rw [RepD.eqv]
        exact ⟨fun h => by rw [h], fun h => Option.some.inj h⟩
section
variable {K : PySem.W.Frag} {A H : Hp} {R : List Hp} {α : Type} [RepD α] {x : α} {v : V}
theorem dp_of (S : St H (A :: R)) (h : Is A v x) : Dp K H v (RepD.D x) := RepD.dp S.1 h
theorem dp_la {xs : List α} (S : St H (A :: R)) (h : LA A H v xs) : Dp K H v (RepD.D xs) := by
  obtain ⟨a, vs, rfl, h1, h2⟩ := h
  exact .lst (SqL.of h1) (dpAll_of S.1 h2.1)
end
end SB
namespace SB
open PySem PySem.Spec PyProof.Rows L2 Res
/-- what is handed in, already reckoned -/
def tArgs (vs : List V) : TA := fun _ H Q => Q vs H
section
variable {K : PySem.W.Frag} {tl : TE} {ta : TA} {tu tz : TS} {tt : TT} {te : TE} {g : TG} {D : Ends} {σ : L2.St} {H : Hp} {Q : VK} {v : V} {vs : List Nat}
theorem c_c (h : Q v H) : tC v σ H Q := h
theorem q_forL (h : tl σ H fun v H1 => tFor (iList K (tC v)) g tu { D with nx := tz D } σ H1) : tSeq (tFor (iList K tl) g tu) tz D σ H := h
theorem s_forL (h : tl σ H fun v H1 => tFor (iList K (tC v)) g tu D σ H1) : tFor (iList K tl) g tu D σ H := h
theorem q_forR1 (h : ta σ H fun us H1 => tFor (iRng1 (tArgs us)) g tu { D with nx := tz D } σ H1) : tSeq (tFor (iRng1 ta) g tu) tz D σ H := h
theorem s_forR1 (h : ta σ H fun us H1 => tFor (iRng1 (tArgs us)) g tu D σ H1) : tFor (iRng1 ta) g tu D σ H := h
theorem q_forR2 (h : ta σ H fun us H1 => tFor (iRng2 (tArgs us)) g tu { D with nx := tz D } σ H1) : tSeq (tFor (iRng2 ta) g tu) tz D σ H := h
theorem s_forR2 (h : ta σ H fun us H1 => tFor (iRng2 (tArgs us)) g tu D σ H1) : tFor (iRng2 ta) g tu D σ H := h
theorem c_lcE (h : tl σ H fun v H1 => tLc (iList K (tC v)) g tt te vs σ H1 Q) : tLc (iList K tl) g tt te vs σ H Q := h
theorem c_lcER (h : ta σ H fun us H1 => tLc (iRng1 (tArgs us)) g tt te vs σ H1 Q) : tLc (iRng1 ta) g tt te vs σ H Q := h
end
/-- what is kept of the pieces -/
theorem St.drop {H : Hp} {m : Hp} {R : List Hp} (S : St H (m :: R)) (k : Nat) (hk : k < R.length) : St H (m :: R.eraseIdx k) := by
  have z := S.pick k hk
  exact ⟨z.1, fun n hn => z.2.1 n (List.mem_cons_of_mem _ hn), z.2.2.2.2⟩
/-! ## refusals -/
structure Cs where
  ex : Nat → Addr
  ring : Addr
  many : Addr
  row : Addr
  body : Addr
  field : Addr
  tower : Addr
  room : Addr
  err : Addr
/-! ## objects -/
class Ob (S : Type) where
  isAt : Cs → Hp → Hp → V → S → Prop
  mono : ∀ {T : Cs} {A B m : Hp} {v : V} {s : S}, Same A B → isAt T A m v s → isAt T B m v s
theorem upO {S : Type} [Ob S] {T : Cs} {A B m : Hp} {v : V} {s : S} (h : Ob.isAt T A m v s) (e : Same A B) : Ob.isAt T B m v s := Ob.mono e h
/-- what is raised; B: the heap at the call -/
def XA (T : Cs) (e : Exn) (cls : Value) (d : Option Addr) (B A : Hp) : Prop := match e with
  | .plain c => cls = .ref (T.ex c) ∧ d = none
  | .ring l => ∃ dd a vs, cls = .ref T.ring ∧ d = some dd ∧ A dd = some (.xd [("ring", .ref a)]) ∧ B dd = none ∧ B a = none ∧ A a = some (.lst vs) ∧ OL A vs l
  | .many n => ∃ dd, cls = .ref T.many ∧ d = some dd ∧ A dd = some (.xd [("many", .int n)]) ∧ B dd = none
  | .atRow n => ∃ dd, cls = .ref T.row ∧ d = some dd ∧ A dd = some (.xd [("at", .int n)]) ∧ B dd = none
theorem none_of_same {A B : Hp} {a : Addr} (e : Same A B) (h : B a = none) : A a = none := by
  cases h1 : A a with
  | none => rfl
  | some o => rw [e _ _ h1] at h; cases h
theorem xa_base {T : Cs} {e : Exn} {cls : Value} {d : Option Addr} {A B C : Hp} (g : Same A B) (h : XA T e cls d B C) : XA T e cls d A C := by
  cases e with
  | plain c => exact h
  | ring l => obtain ⟨dd, a, vs, h1, h2, h3, h4, h5, h6, h7⟩ := h; exact ⟨dd, a, vs, h1, h2, h3, none_of_same g h4, none_of_same g h5, h6, h7⟩
  | many n => obtain ⟨dd, h1, h2, h3, h4⟩ := h; exact ⟨dd, h1, h2, h3, none_of_same g h4⟩
  | atRow n => obtain ⟨dd, h1, h2, h3, h4⟩ := h; exact ⟨dd, h1, h2, h3, none_of_same g h4⟩
theorem xa_back {T : Cs} {e : Exn} {cls : Value} {d : Option Addr} {H A C n : Hp} {R : List Hp} (S : St H (A :: n :: R)) (h : XA T e cls d (join A n) C) : XA T e cls d A (minus C n) := by
  have hl : ∀ {a : Addr}, join A n a = none → A a = none := fun h => none_of_same same_join_l h
  have hr : ∀ {a : Addr}, join A n a = none → n a = none := fun h => none_of_same (same_join_r S.dj) h
  cases e with
  | plain c => exact h
  | ring l => obtain ⟨dd, a, vs, h1, h2, h3, h4, h5, h6, h7⟩ := h; exact ⟨dd, a, vs, h1, h2, minus_of h3 (hr h4), hl h4, hl h5, minus_of h6 (hr h5), OL.any h7⟩
  | many m => obtain ⟨dd, h1, h2, h3, h4⟩ := h; exact ⟨dd, h1, h2, minus_of h3 (hr h4), hl h4⟩
  | atRow m => obtain ⟨dd, h1, h2, h3, h4⟩ := h; exact ⟨dd, h1, h2, minus_of h3 (hr h4), hl h4⟩
/-- a def that is called by its name -/
structure Glob (P : Program) (w : World) (K : PySem.W.Frag) (mg : Str → Option Value) (base : Heap) (X : CXT) (k : Nat) (x : Str) (ps : List Str) (sp : Sp) (f : Addr) (fd : FuncData) : Prop where
  ok : FnOk P w K mg base X k f fd ps sp
  g : mg x = some (.ref f)
  kp : PySem.W.keepIn K (.ref f) = true
  b : Binds K fd ps []
/-- an own class of refusals without fields -/
structure ExC (K : PySem.W.Frag) (mg : Str → Option Value) (x : Str) (C : Addr) : Prop where
  g : mg x = some (.ref C)
  x : PySem.W.excIn K C [.type "ValueError", .type "Exception", .type "BaseException", .type "object"] "ValueError.__new__" = true
  kp : PySem.W.keepIn K (.ref C) = true
  b : PySem.W.subIn K (.ref C) (.type "BaseException") = some true
  t : PySem.W.typeIn K (.ref C) = some (.type "type")
def tRaise0 (E : XK) (C : Addr) : TS := fun _ _ H => E (.ref C) none H
theorem s_raise {E : XK} {C : Addr} {D : Ends} {σ : L2.St} {H : Hp} (h : E (.ref C) none H) : tRaise0 E C D σ H := h
end SB
namespace SB
open PySem PySem.Spec PyProof.Rows L2 Res
def cutL {α : Type} (xs : List α) (lo hi : Option Int) : List α := (xs.drop (HT.sIx xs.length 0 lo)).take (HT.sIx xs.length xs.length hi - HT.sIx xs.length 0 lo)
section
variable {ω α β γ : Type} [Rep α] [Rep β] {A H : Hp} {v u : V} {xs : List α} {R : List Hp} {K : PySem.W.Frag} {Q : VK} {Qr : γ → Prop} {Er : Exn → ω → Prop}
theorem c_slice {lo hi : Option Int} (h : LA A H v xs) (k : RawL A H Q (cutL xs lo hi)) : rSlL K v lo hi H Q := by
  obtain ⟨a, vs, rfl, h1, h2⟩ := h
  refine ⟨a, vs, rfl, SqL.of h1, fun p hp => k p _ hp ?_⟩
  have e : cutV vs lo hi = (vs.drop (HT.sIx xs.length 0 lo)).take (HT.sIx xs.length xs.length hi - HT.sIx xs.length 0 lo) := by
    unfold cutV
    rw [h2.len]
  rw [e]
  refine ⟨(h2.1.drop _).take _, ?_⟩
  unfold cutL
  rw [List.length_take, List.length_drop]
  have := h2.2
  omega
theorem c_ixT0 {x : α × β} (S : St H (A :: R)) (h : Is A v x) (k : ∀ w, Is A w x.1 → Q w H) : rIxT K v (.int 0) H Q := by
  obtain ⟨a, u, w, rfl, h1, h2, h3⟩ := h
  exact ⟨a, [u, w], 0, u, rfl, rfl, SqT.of (S.1 _ _ h1), rfl, k u h2⟩
theorem c_ixT1 {x : α × β} (S : St H (A :: R)) (h : Is A v x) (k : ∀ w, Is A w x.2 → Q w H) : rIxT K v (.int 1) H Q := by
  obtain ⟨a, u, w, rfl, h1, h2, h3⟩ := h
  exact ⟨a, [u, w], 1, w, rfl, rfl, SqT.of (S.1 _ _ h1), rfl, k w h3⟩
theorem c_ixO0 {x : Option (α × β)} {f : α × β → Res ω γ} (S : St H (A :: R)) (h : Is A v x) (hm : (bind (getR x) f).wp Qr Er) (k : ∀ y w, Is A w y.1 → (f y).wp Qr Er → Q w H) : rIxT K v (.int 0) H Q := by
  cases x with
  | none =>
    unfold getR at hm
    exact hm.elim
  | some y =>
    unfold getR at hm
    exact c_ixT0 S h.2 fun w hw => k y w hw hm
theorem c_ixO1 {x : Option (α × β)} {f : α × β → Res ω γ} (S : St H (A :: R)) (h : Is A v x) (hm : (bind (getR x) f).wp Qr Er) (k : ∀ y w, Is A w y.2 → (f y).wp Qr Er → Q w H) : rIxT K v (.int 1) H Q := by
  cases x with
  | none =>
    unfold getR at hm
    exact hm.elim
  | some y =>
    unfold getR at hm
    exact c_ixT1 S h.2 fun w hw => k y w hw hm
theorem opt_dec {x : Option α} (h : Is A v x) : decide (v = .non) = x.isNone := by
  cases x with
  | none =>
    have h : v = .non := h
    rw [h]
    rfl
  | some y => exact decide_eq_false h.1
theorem c_isN {x : Option α} (h : Is A v x) (k : Q (.bl x.isNone) H) : L2.rIsN v .non H Q := by
  refine ⟨rfl, ?_⟩
  rw [opt_dec h]
  exact k
theorem c_notN {x : Option α} (h : Is A v x) (k : Q (.bl (!x.isNone)) H) : L2.rNotN v .non H Q := by
  refine ⟨rfl, ?_⟩
  rw [opt_dec h]
  exact k
theorem c_app {p : Addr} {ws : List V} {x : α} {f : List α → Res ω γ} (S : St H (A :: one p (.lst ws) :: R)) (h : OL A ws xs) (hx : Is A u x) (hm : (bind (appR xs x) f).wp Qr Er)
    (k : ∀ zs us, (f zs).wp Qr Er → ∀ H', St H' (A :: one p (.lst us) :: R) → OL A us zs → Q .non H') : rAppend (.ref p) [u] H Q := by
  unfold appR at hm
  by_cases c : xs.length < sizeLine
  · rw [if_pos c] at hm
    exact ⟨p, ws, u, rfl, rfl, S.second _ _ one_same, by rw [h.len]; exact c, k _ _ hm _ S.wr1 ⟨h.1.append ⟨hx, trivial⟩, by rw [List.length_append]; exact c⟩⟩
  · rw [if_neg c] at hm
    exact hm.elim
end
end SB
namespace SB
open PySem PySem.Spec PyProof.Rows L2 Res
/-! ## readings, one step each -/
section
variable {K : PySem.W.Frag} {σ : L2.St} {H : Hp} {Q : VK} {ta tb te : TE} {r : R2} {v : V} {i : Nat} {t tr : TA} {rc : List V → Hp → VK → Prop} {sp : Sp} {dvs : List V} {E : XK}
theorem c_var (hi : σ[i]? = some (some v)) (h : Q v H) : tVar i σ H Q := ⟨v, hi, h⟩
theorem c_op (h : ta σ H fun x H1 => tb σ H1 fun y H2 => r x y H2 Q) : tOp r ta tb σ H Q := h
theorem c_un {r : V → Hp → VK → Prop} (h : ta σ H fun x H1 => r x H1 Q) : tUn r ta σ H Q := h
theorem c_cb (h : t σ H fun vs H1 => rc vs H1 Q) : tCB rc t σ H Q := h
theorem c_nil {Q : List V → Hp → Prop} (h : Q [] H) : tNil σ H Q := h
theorem c_cons {Q : List V → Hp → Prop} (h : te σ H fun x H1 => tr σ H1 fun xs H2 => Q (x :: xs) H2) : tCons te tr σ H Q := h
theorem c_tst {Q : Bool → Hp → Prop} (h : te σ H fun x H' => ∃ k, x = .bl k ∧ Q k H') : tTest te σ H Q := h
theorem c_tb {Q : Bool → Hp → Prop} (h : te σ H fun x H' => ∃ k, x = .bl k ∧ Q k H') : tB te σ H Q := h
theorem c_bl {b : Bool} {P : Bool → Prop} (h : P b) : ∃ c, V.bl b = .bl c ∧ P c := ⟨b, rfl, h⟩
theorem c_int {n : Int} {P : Int → Prop} (h : P n) : ∃ c, V.int n = .int c ∧ P c := ⟨n, rfl, h⟩
theorem c_I0 {g : Int → Int → V} {a b : Int} (h : Q (g a b) H) : rI0 g (.int a) (.int b) H Q := ⟨a, b, rfl, rfl, h⟩
theorem c_I {C : Int → Int → Prop} {g : Int → Int → V} {a b : Int} (hc : C a b) (h : Q (g a b) H) : rI C g (.int a) (.int b) H Q := ⟨a, b, rfl, rfl, hc, h⟩
theorem c_U {g : Int → V} {a : Int} (h : Q (g a) H) : rU g (.int a) H Q := ⟨a, rfl, h⟩
theorem c_notV (h : ta σ H fun x H1 => ∃ c, x = .bl c ∧ Q (.bl (!c)) H1) : tNotV ta σ H Q := h
theorem c_andV (h : ta σ H fun x H1 => ∃ c, x = .bl c ∧ if c = true then tb σ H1 Q else Q (.bl false) H1) : tAndV ta tb σ H Q := h
theorem c_orV (h : ta σ H fun x H1 => ∃ c, x = .bl c ∧ if c = true then Q (.bl true) H1 else tb σ H1 Q) : tOrV ta tb σ H Q := h
theorem c_tlst (h : t σ H fun xs H1 => NewL Q xs H1) : tLst t σ H Q := h
theorem c_ttup (h : t σ H fun xs H1 => NewT Q xs H1) : tTup t σ H Q := h
theorem c_sl {rs : V → Option Int → Option Int → Hp → VK → Prop} {tl th : TO} (h : te σ H fun x H1 => tl σ H1 fun l H2 => th σ H2 fun u H3 => rs x l u H3 Q) : tSl rs te tl th σ H Q := h
theorem c_nopart {Q : Option Int → Hp → Prop} (h : Q none H) : tNoPart σ H Q := h
theorem c_part {Q : Option Int → Hp → Prop} (h : te σ H fun x H1 => ∃ i, x = .int i ∧ Q (some i) H1) : tPart te σ H Q := h
theorem c_call (h : t σ H fun vs H1 => sp (vs ++ dvs) H1 Q E) : tCall sp dvs E t σ H Q := h
theorem c_bm {T : String} {rm : V → List V → Hp → VK → Prop} (h : te σ H fun x H1 => tyV K T x H1 ∧ t σ H1 fun xs H2 => rm x xs H2 Q) : tBM K T rm te t σ H Q := h
theorem c_bm0 {T : String} {rm : V → List V → Hp → VK → Prop} (h : te σ H fun x H1 => tyV K T x H1 ∧ rm x [] H1 Q) : tBM0 K T rm te σ H Q := h
theorem nx_mk {a d c : L2.St → Hp → Prop} {b : VK} (h : a σ H) : (Ends.mk a b c d).nx σ H := h
theorem c_and2 {P1 P2 : Prop} (h1 : P1) (h2 : P2) : P1 ∧ P2 := ⟨h1, h2⟩
theorem s_aug {f : Int → Int → Int} {x : V} {D : Ends} (hi : σ[i]? = some (some x)) (h : te σ H fun y H1 => ipI f x y H1 fun z H2 => D.nx (σ.set i (some z)) H2) : tAug i te (ipI f) D σ H := ⟨x, hi, h⟩
theorem q_aug {f : Int → Int → Int} {x : V} {D : Ends} {tz : TS} (hi : σ[i]? = some (some x)) (h : te σ H fun y H1 => ipI f x y H1 fun z H2 => tz D (σ.set i (some z)) H2) : tSeq (tAug i te (ipI f)) tz D σ H := ⟨x, hi, h⟩
theorem c_ip {f : Int → Int → Int} {a b : Int} (h : Q (.int (f a b)) H) : ipI f (.int a) (.int b) H Q := ⟨a, b, rfl, rfl, h⟩
end
end SB
namespace SB
open PySem PySem.Spec PyProof.Rows L2 Res
/-! ## comprehensions whose parts may stop, or change an object -/
def compG {ω α β σT : Type} (body : α → σT → Res ω (Option β × σT)) : List α → σT → Res ω (List β × σT)
  | [], s => .ok ([], s)
  | x :: xs, s => match body x s with
    | .ok (r, s') => bind (compG body xs s') fun y => match r with
      | some b => .ok (b :: y.1, y.2)
      | none => .ok y
    | _ => .bad
def andS {ω σT : Type} (c : Bool) (s : σT) (m : Res ω (Bool × σT)) : Res ω (Bool × σT) := if c = true then m else .ok (false, s)
def orS {ω σT : Type} (c : Bool) (s : σT) (m : Res ω (Bool × σT)) : Res ω (Bool × σT) := if c = true then .ok (true, s) else m
theorem c_yes {σ : L2.St} {H : Hp} {te : TE} {K1 : VK} {K0 : Hp → Prop} (h : te σ H K1) : tYes σ H (fun b H3 => if b = true then te σ H3 K1 else K0 H3) := by
  show (if true = true then te σ H K1 else K0 H)
  rw [if_pos rfl]
  exact h
section
variable {ω α β γ σT : Type} [Rep α] [Rep β] {A H : Hp} {v : V} {xs : List α} {R : List Hp} {K : PySem.W.Frag} {Q : VK} {Qr : γ → Prop} {Er : Exn → ω → Prop}
theorem compG_cons {body : α → σT → Res ω (Option β × σT)} {x : α} {l : List α} {s : σT} {f : List β × σT → Res ω γ} (h : (bind (compG body (x :: l) s) f).wp Qr Er) :
    (body x s).wp (fun r => (bind (compG body l r.2) fun y => f (match r.1 with | some b => (b :: y.1, y.2) | none => y)).wp Qr Er) (fun _ _ => False) := by
  unfold compG at h
  cases hb : body x s with
  | bad =>
    rw [hb] at h
    exact h
  | ex e w =>
    rw [hb] at h
    exact h.elim
  | ok r =>
    obtain ⟨r, s'⟩ := r
    rw [hb] at h
    show (bind (compG body l s') _).wp Qr Er
    have h : (bind (bind (compG body l s') fun y => match r with | some b => .ok (b :: y.1, y.2) | none => .ok y) f).wp Qr Er := h
    cases hc : compG body l s' with
    | bad =>
      rw [hc] at h
      exact h
    | ex e w =>
      rw [hc] at h
      exact h
    | ok y =>
      rw [hc] at h
      cases r with
      | none => exact h
      | some b => exact h
/-- the step of such a comprehension -/
def StepG (A : Hp) (tt : TT) (te : TE) (σ2 : V → L2.St) (body : α → σT → Res ω (Option β × σT)) (Rel : Hp → List Hp → σT → Prop) (P : V → α → Hp → Prop) : Prop :=
  ∀ x w A' H' R' s n (C : Option β → σT → Prop) (K1 : VK) (K0 : Hp → Prop), P w x A' → Same A A' → St H' (A' :: n :: R') → Rel A' R' s →
    (∀ A'' H'' R'' y u s', Same A' A'' → St H'' (A'' :: n :: R'') → Rel A'' R'' s' → Is A'' u y → C (some y) s' → K1 u H'') →
    (∀ A'' H'' R'' s', Same A' A'' → St H'' (A'' :: n :: R'') → Rel A'' R'' s' → C none s' → K0 H'') →
    (body x s).wp (fun r => C r.1 r.2) (fun _ _ => False) → tt (σ2 w) H' (fun b H3 => if b = true then te (σ2 w) H3 K1 else K0 H3)
/-- what stands while it goes: what is made so far, and what is still to come -/
def CgP (A : Hp) (Rel : Hp → List Hp → σT → Prop) (body : α → σT → Res ω (Option β × σT)) (f : List β × σT → Res ω γ) (Qr : γ → Prop) (Er : Exn → ω → Prop) (xs : List α) (Dl : Addr) (i : Nat) (H' : Hp) : Prop :=
  ∃ A' R' ws ys s, Same A A' ∧ St H' (A' :: one Dl (.lst ws) :: R') ∧ Rel A' R' s ∧ All2 (Rep.is A') ws ys ∧ ys.length ≤ i ∧ (bind (compG body (xs.drop i) s) fun y => f (ys ++ y.1, y.2)).wp Qr Er
theorem cg_turn {tt : TT} {te : TE} {σ2 : V → L2.St} {body : α → σT → Res ω (Option β × σT)} {Rel : Hp → List Hp → σT → Prop} {P : V → α → Hp → Prop} {f : List β × σT → Res ω γ} {Dl : Addr} {i : Nat} {x : α} {w : V} {H' : Hp}
    (step : StepG A tt te σ2 body Rel P) (hx : xs[i]? = some x) (hi : i < sizeLine) (hP : ∀ A', Same A A' → P w x A') (p : CgP A Rel body f Qr Er xs Dl i H') :
    tt (σ2 w) H' fun b H3 => if b = true then te (σ2 w) H3 fun y H4 => ∃ acc, H4 Dl = some (.lst acc) ∧ acc.length < sizeLine ∧ CgP A Rel body f Qr Er xs Dl (i + 1) (upd H4 Dl (.lst (acc ++ [y]))) else CgP A Rel body f Qr Er xs Dl (i + 1) H3 := by
  obtain ⟨A', R', ws, ys, s, e, S, hr, hv, hl, hw⟩ := p
  have ed : xs.drop i = x :: xs.drop (i + 1) := by
    obtain ⟨hlt, hg⟩ := List.getElem?_eq_some_iff.mp hx
    rw [← hg]
    exact List.drop_eq_getElem_cons hlt
  rw [ed] at hw
  refine step x w A' H' R' s (one Dl (.lst ws)) (fun r s' => (bind (compG body (xs.drop (i + 1)) s') fun y => f (ys ++ (match r with | some b => (b :: y.1, y.2) | none => y).1, (match r with | some b => (b :: y.1, y.2) | none => y).2)).wp Qr Er) _ _ (hP A' e) e S hr ?_ ?_ (compG_cons (f := fun y => f (ys ++ y.1, y.2)) hw)
  · intro A'' H'' R'' y u s' e' S' hr' hu hc
    refine ⟨ws, S'.second _ _ one_same, ?_, A'', R'', ws ++ [u], ys ++ [y], s', e.trans e', S'.wr1, hr', ?_, ?_, ?_⟩
    · rw [hv.len]
      omega
    · exact (hv.mono fun _ _ h => Rep.mono e' h).append ⟨hu, trivial⟩
    · rw [List.length_append, List.length_singleton]
      omega
    · have hc : (bind (compG body (xs.drop (i + 1)) s') fun z => f (ys ++ y :: z.1, z.2)).wp Qr Er := hc
      have e1 : (fun z : List β × σT => f (ys ++ [y] ++ z.1, z.2)) = fun z => f (ys ++ y :: z.1, z.2) := by
        funext z
        rw [List.append_assoc]
        rfl
      rw [e1]
      exact hc
  · intro A'' H'' R'' s' e' S' hr' hc
    exact ⟨A'', R'', ws, ys, s', e.trans e', S', hr', hv.mono fun _ _ h => Rep.mono e' h, by omega, hc⟩
theorem c_lcGL {σ : L2.St} {tl : TE} {tt : TT} {te : TE} {j : Nat} {vs : List Nat} {s0 : σT} {body : α → σT → Res ω (Option β × σT)} {f : List β × σT → Res ω γ} (Rel : Hp → List Hp → σT → Prop)
    (S : St H (A :: R)) (htl : ∀ Q' : VK, Q' v H → tl σ H Q') (hx : Is A v xs) (h0 : Rel A R s0) (hm : (bind (compG body xs s0) f).wp Qr Er) (hw : ∀ x, wipe ((wipe σ vs).set j (some x)) vs = wipe σ vs)
    (step : StepG A tt te (fun w => (wipe σ vs).set j (some w)) body Rel (fun w x A' => x ∈ xs ∧ Is A' w x))
    (k : ∀ p A' H' R' ws y, (f y).wp Qr Er → Same A A' → St H' (A' :: one p (.lst ws) :: R') → Rel A' R' y.2 → OL A' ws y.1 → Q (.ref p) H') : tLc (iList K tl) (gName j) tt te vs σ H Q := by
  obtain ⟨a, us, rfl, h1, h2⟩ := hx
  refine htl _ ⟨a, rfl, ⟨us, SqL.of (S.1 _ _ h1)⟩, fun Dl hD => ?_⟩
  refine lc_list (xs := us) (CgP A Rel body f Qr Er xs Dl) ⟨A, R, [], [], s0, Same.refl _, S.newM hD, h0, trivial, Nat.le_refl _, hm⟩ (fun i H' _ p => ?_) (fun i w H' hi p => ?_) (fun H' p => ?_)
  · obtain ⟨A', R', ws, ys, s, e, S', _⟩ := p
    exact SqL.of (S'.1 _ _ (e _ _ h1))
  · obtain ⟨x, hxi, hxw⟩ := h2.1.getV hi
    have hlt : i < xs.length := (List.getElem?_eq_some_iff.mp hxi).1
    exact ⟨hw w, cg_turn step hxi (Nat.lt_of_lt_of_le hlt h2.2) (fun A' e => ⟨List.mem_of_getElem? hxi, Rep.mono e hxw⟩) p⟩
  · obtain ⟨A', R', ws, ys, s, e, S', hr, hv, hl, hc⟩ := p
    rw [h2.len, List.drop_length] at hc
    have hc : (f (ys ++ [], s)).wp Qr Er := hc
    rw [List.append_nil] at hc
    exact k Dl A' H' R' ws (ys, s) hc e S' hr ⟨hv, by rw [h2.len] at hl; exact Nat.le_trans hl h2.2⟩
theorem c_lcGR {σ : L2.St} {ta : TA} {tt : TT} {te : TE} {j : Nat} {vs : List Nat} {n : Int} {s0 : σT} {body : Int → σT → Res ω (Option β × σT)} {f : List β × σT → Res ω γ} (Rel : Hp → List Hp → σT → Prop)
    (S : St H (A :: R)) (hta : ∀ Q' : List V → Hp → Prop, Q' [.int n] H → ta σ H Q') (h0 : Rel A R s0) (hm : (bind (bind (rlR n) fun l => compG body l s0) f).wp Qr Er) (hw : ∀ x, wipe ((wipe σ vs).set j (some x)) vs = wipe σ vs)
    (step : StepG A tt te (fun w => (wipe σ vs).set j (some w)) body Rel (fun w x _ => x ∈ rangeL 0 n ∧ w = .int x))
    (k : ∀ p A' H' R' ws y, (f y).wp Qr Er → Same A A' → St H' (A' :: one p (.lst ws) :: R') → Rel A' R' y.2 → OL A' ws y.1 → Q (.ref p) H') : tLc (iRng1 ta) (gName j) tt te vs σ H Q := by
  unfold rlR at hm
  by_cases hz : n ≤ 1000000 ∧ -1000000 ≤ n
  case neg =>
    rw [if_neg hz] at hm
    exact hm.elim
  rw [if_pos hz] at hm
  have hm : (bind (compG body (rangeL 0 n) s0) f).wp Qr Er := hm
  have hsz : (1000000 : Nat) < sizeLine := by decide
  have hlen : (rangeL 0 n).length = n.toNat := by unfold rangeL; rw [List.length_map, List.length_range]; omega
  refine hta _ ⟨n, rfl, by omega, by omega, fun Dl hD => ?_⟩
  refine lc_range (lo := 0) (n := n.toNat) (CgP A Rel body f Qr Er (rangeL 0 n) Dl) ⟨A, R, [], [], s0, Same.refl _, S.newM hD, h0, trivial, Nat.le_refl _, hm⟩ (fun i H' hi p => ?_) (fun H' p => ?_)
  · have hxi : (rangeL 0 n)[i]? = some (0 + (i : Int)) := by
      unfold rangeL
      rw [List.getElem?_map, List.getElem?_range (by omega)]
      rfl
    exact ⟨hw _, cg_turn step hxi (Nat.lt_of_le_of_lt (by omega) hsz) (fun A' e => ⟨List.mem_of_getElem? hxi, rfl⟩) p⟩
  · obtain ⟨A', R', ws, ys, s, e, S', hr, hv, hl, hc⟩ := p
    rw [← hlen, List.drop_length] at hc
    have hc : (f (ys ++ [], s)).wp Qr Er := hc
    rw [List.append_nil] at hc
    exact k Dl A' H' R' ws (ys, s) hc e S' hr ⟨hv, Nat.le_trans hl (Nat.le_of_lt (Nat.lt_of_le_of_lt (by omega) hsz))⟩
/-- a test that changes objects -/
theorem q_testS {c : TT} {P : Bool → Hp → Prop} {σ : L2.St} {m : Res ω (Bool × σT)} {f : Bool × σT → Res ω γ} (Rel : Hp → List Hp → σT → Prop) (hm : (bind m f).wp Qr Er)
    (h1 : ∀ Qb : Bool → Hp → Prop, (∀ b s A' H' R', Same A A' → St H' (A' :: R') → Rel A' R' s → (f (b, s)).wp Qr Er → Qb b H') → m.wp (fun r => (f r).wp Qr Er) Er → c σ H Qb)
    (h2 : ∀ r A' H' R', Same A A' → St H' (A' :: R') → Rel A' R' r.2 → (f r).wp Qr Er → P r.1 H') : c σ H P := h1 P (fun b s A' H' R' e S hr h => h2 (b, s) A' H' R' e S hr h) (wp_bind hm)
theorem c_andS {c : Bool} {s : σT} {m : Res ω (Bool × σT)} {Q : Bool × σT → Prop} {P1 P2 : Prop} (hm : (andS c s m).wp Q Er) (h1 : c = true → m.wp Q Er → P1) (h2 : c = false → Q (false, s) → P2) : if c = true then P1 else P2 := by
  cases c with
  | true => exact h1 rfl hm
  | false => exact h2 rfl hm
theorem c_orS {c : Bool} {s : σT} {m : Res ω (Bool × σT)} {Q : Bool × σT → Prop} {P1 P2 : Prop} (hm : (orS c s m).wp Q Er) (h1 : c = true → Q (true, s) → P1) (h2 : c = false → m.wp Q Er → P2) : if c = true then P1 else P2 := by
  cases c with
  | true => exact h1 rfl hm
  | false => exact h2 rfl hm
/-- xs[i] = e -/
@[irreducible] def setR (xs : List α) (i : Int) (x : α) : Res ω (List α) := match ixN xs.length i with
  | some j => .ok (xs.set j x)
  | none => .bad
theorem c_set {p : Addr} {ws : List V} {x : α} {u : V} {i : Int} {f : List α → Res ω γ} {N : Hp → Prop} (S : St H (A :: one p (.lst ws) :: R)) (h : OL A ws xs) (hx : Is A u x) (hm : (bind (setR xs i x) f).wp Qr Er)
    (k : ∀ zs us, (f zs).wp Qr Er → ∀ H', St H' (A :: one p (.lst us) :: R) → OL A us zs → N H') : rSetL (.ref p) (.int i) u H N := by
  unfold setR at hm
  cases e : ixN xs.length i with
  | none =>
    rw [e] at hm
    exact hm.elim
  | some j =>
    rw [e] at hm
    exact ⟨p, ws, i, j, rfl, rfl, S.second _ _ one_same, by rw [h.len]; exact e, k _ _ hm _ S.wr1 ⟨h.1.set hx j, by rw [List.length_set]; exact h.2⟩⟩
end
section
variable {te to ti : TE} {tz : TS} {D : Ends} {σ : L2.St} {H : Hp} {r : TSet}
theorem q_sub (h : te σ H fun v H1 => to σ H1 fun o H2 => ti σ H2 fun i H3 => r o i v H3 fun H4 => tz D σ H4) : tSeq (tAsg te (gSub to ti r)) tz D σ H := h
theorem s_sub (h : te σ H fun v H1 => to σ H1 fun o H2 => ti σ H2 fun i H3 => r o i v H3 fun H4 => D.nx σ H4) : tAsg te (gSub to ti r) D σ H := h
end
end SB

namespace SB
open PySem PySem.Spec PyProof.Rows L2 Res
/-! ## the bag of draws -/
structure Bag where
  l : List Int
  i : Int
  c : Int
  s : Int
instance : Ob Bag := ⟨fun _ A m v b => ∃ p u, v = .ref p ∧ m = one p (.lst [u, .int b.i, .int b.c, .int b.s]) ∧ Is A u b.l, fun e ⟨p, u, h1, h2, h3⟩ => ⟨p, u, h1, h2, up h3 e⟩⟩
/-- xs[i] op= e reads a list's item -/
theorem get_list {X : Cx} : PGet X (rIxL X.K) := by
  intro pins s σ H x y v u Q I rx ry h
  obtain ⟨p, xs, i, z, rfl, rfl, hq, he, q⟩ := h
  cases rx
  obtain ⟨t, rfl⟩ := ry
  obtain ⟨its, r, pl, hz⟩ := I.list hq
  obtain ⟨j, h1, h2, h3, h4, h5⟩ := atI_get he
  obtain ⟨w, ew, rw'⟩ := r.get h2
  have hl := r.length
  have hn := line63
  have fin : EP X pins σ Q w s := ⟨z, H, I, rw', q⟩
  by_cases h0 : 0 ≤ i
  · have hj : i.toNat = j := by
      rw [seqIndex_of h0 h5] at h1
      exact Option.some.inj h1
    exact wpAny_getItem_list pl.isList h0 (by omega) (by rw [hj]; simpa using ew) fin
  · have hj : (i + (its.toArray.size : Int)).toNat = j := by
      rw [seqIndex_neg (by omega) h4] at h1
      rw [List.size_toArray, ← hl]
      exact Option.some.inj h1
    exact wpAny_getItem_list_neg pl.isList (by omega) (by rw [List.size_toArray] <;> omega) (by omega) (by rw [hj]; simpa using ew) fin
def mixV (x i many : Int) : Int := ((x * 48271 + i * 16807 + 11) % 2147483647 * ((x * 48271 + i * 16807 + 11) % 2147483647) % 2147483629 + i) * 69621 % 998244353 / 13 % many
def pullV (b : Bag) (many : Int) : Int × Bag :=
  if b.c ≤ 1 then
    if h : b.i + 1 ≤ (b.l.length : Int) then
      if b.l.getD b.i.toNat 0 < 10 ^ 18 then (mixV (b.l.getD b.i.toNat 0) (b.i + 1) many, { b with i := b.i + 1 })
      else (b.l.getD b.i.toNat 0 % many, { b with i := b.i + 1, c := b.l.getD b.i.toNat 0 / many })
    else (mixV b.s (b.i + 1) many, { b with i := b.i + 1 })
  else (b.c % many, { b with c := b.c / many })
@[irreducible] def m_law_pull (b : Bag) (many : Int) : Res Bag (Int × Bag) := if 0 < many ∧ many < 1073741824 ∧ 0 ≤ b.i then .ok (pullV b many) else .bad
theorem mix_lt {x i many : Int} (h : 0 < many) : 0 ≤ mixV x i many ∧ mixV x i many < many := ⟨Int.emod_nonneg _ (by omega), Int.emod_lt_of_pos _ h⟩
theorem pull_ok {b : Bag} {many : Int} (hi : 0 ≤ b.i) (h : 0 < many) (h' : many < 1073741824) : ∃ r b', m_law_pull b many = .ok (r, b') ∧ 0 ≤ r ∧ r < many ∧ 0 ≤ b'.i := by
  refine ⟨(pullV b many).1, (pullV b many).2, ?_, ?_⟩
  · unfold m_law_pull
    rw [if_pos ⟨h, h', hi⟩]
  · unfold pullV
    split
    · split
      · split
        · exact ⟨(mix_lt h).1, (mix_lt h).2, by show 0 ≤ b.i + 1; omega⟩
        · exact ⟨Int.emod_nonneg _ (by omega), Int.emod_lt_of_pos _ h, by show 0 ≤ b.i + 1; omega⟩
      · exact ⟨(mix_lt h).1, (mix_lt h).2, by show 0 ≤ b.i + 1; omega⟩
    · exact ⟨Int.emod_nonneg _ (by omega), Int.emod_lt_of_pos _ h, hi⟩
def sp_law_pull (T : Cs) (K : PySem.W.Frag) : Sp := fun vs H Q E => ∃ (A : Hp) (R : List Hp) (m_bag_here : Hp) (v_bag_here : V) (x_bag_here : Bag) (x_many : Int), vs = [v_bag_here, (.int x_many)] ∧ St H (A :: m_bag_here :: R) ∧ Ob.isAt T A m_bag_here v_bag_here x_bag_here ∧ (m_law_pull x_bag_here x_many).wp (fun y => ∀ (A' H' : Hp) (m0 : Hp), Same A A' → St H' (A' :: m0 :: R) → Ob.isAt T A' m0 v_bag_here y.2 → Q (.int y.1) H') (fun _ _ => False)
/-- the script -/
def Scr (K : PySem.W.Frag) (A : Hp) (v : V) (ns : List Int) : Prop := ∃ a, v = .ref a ∧ SqL K A a (ns.map V.int) ∧ ns.length ≤ 63
theorem upS {K : PySem.W.Frag} {A B : Hp} {v : V} {ns : List Int} (h : Scr K A v ns) (e : Same A B) : Scr K B v ns := by
  obtain ⟨a, h1, h2, h3⟩ := h
  exact ⟨a, h1, e.seq h2, h3⟩
theorem c_sliceS {K : PySem.W.Frag} {A H : Hp} {R : List Hp} {v : V} {ns : List Int} {lo hi : Option Int} {Q : VK} (S : St H (A :: R)) (h : Scr K A v ns) (k : RawL A H Q (cutL ns lo hi)) : rSlL K v lo hi H Q := by
  obtain ⟨a, rfl, h2, h3⟩ := h
  refine ⟨a, _, rfl, S.1.seq h2, fun p hp => ?_⟩
  have e : cutV (ns.map V.int) lo hi = (cutL ns lo hi).map V.int := by
    unfold cutV cutL
    rw [List.length_map, List.map_take, List.map_drop]
  rw [e]
  refine k p _ hp (int_ol ?_)
  unfold cutL
  rw [List.length_take, List.length_drop]
  have : 63 ≤ sizeLine := by decide
  omega
theorem c_bag {T : Cs} {A H : Hp} {R : List Hp} {u : V} {l : List Int} {i c s : Int} {Q : VK} (S : St H (A :: R)) (h : Is A u l) (k : ∀ p m H', St H' (A :: m :: R) → Ob.isAt T A m (.ref p) (Bag.mk l i c s) → Q (.ref p) H') :
    NewL Q [u, .int i, .int c, .int s] H :=
  ⟨Nat.le_of_lt (small1000 (show 4 ≤ 1000 by decide)), fun p hp => k p _ _ (S.newM hp) ⟨p, u, rfl, rfl, h⟩⟩
/-- an item of a bag -/
abbrev tBx (K : PySem.W.Frag) (k : Int) : TE := tOp (rIxL K) (tVar 0) (tC (.int k))
abbrev rdMul (a b : TE) : TE := tOp (rI CMul fun i j => .int (i * j)) a b
abbrev rdAdd (a b : TE) : TE := tOp (rI0 fun i j => .int (i + j)) a b
abbrev rdMod (a b : TE) : TE := tOp (rI (fun _ j => 0 < j) fun i j => .int (i % j)) a b
abbrev rdDiv (a b : TE) : TE := tOp (rI CDiv fun i j => .int (i / j)) a b
abbrev rdLen (K : PySem.W.Frag) : TE := tCB (Evl.rLenS K) (tCons (tBx K 0) tNil)
def rd_pull_mix (K : PySem.W.Frag) : TS := tSeq (tAsg (rdMod (rdAdd (rdAdd (rdMul (tVar 2) (tC (.int 48271))) (rdMul (tBx K 1) (tC (.int 16807)))) (tC (.int 11))) (tC (.int 2147483647))) (gName 3))
  (tSeq (tAsg (rdMod (rdMul (tVar 3) (tVar 3)) (tC (.int 2147483629))) (gName 3))
  (tRet (rdMod (rdDiv (rdMod (rdMul (rdAdd (tVar 3) (tBx K 1)) (tC (.int 69621))) (tC (.int 998244353))) (tC (.int 13))) (tVar 1))))
def rd_pull_end (K : PySem.W.Frag) : TS := tSeq (tAsg (rdMod (tBx K 2) (tVar 1)) (gName 4)) (tSeq (tAsg (rdDiv (tBx K 2) (tVar 1)) (gSub (tVar 0) (tC (.int 2)) rSetL)) (tRet (tVar 4)))
def rd_law_pull (T : Cs) (K : PySem.W.Frag) (E : XK) : TS := tSeq (tIfS (tTest (tOp (rI0 fun i j => .bl (decide (i ≤ j))) (tBx K 2) (tC (.int 1))))
    (tSeq (tAugS (tVar 0) (tC (.int 1)) (tC (.int 1)) (rIxL K) (ipI fun i j => i + j) rSetL)
    (tSeq (tAsg (tBx K 3) (gName 2))
    (tSeq (tIfS (tTest (tOp (rI0 fun i j => .bl (decide (i ≤ j))) (tBx K 1) (rdLen K))) (tAsg (tOp (rIxL K) (tBx K 0) (tOp (rI0 fun i j => .int (i - j)) (tBx K 1) (tC (.int 1)))) (gName 2)) tNext)
    (tSeq (tIfS (tOr (tTest (tOp (rI0 fun i j => .bl (decide (j < i))) (tBx K 1) (rdLen K))) (tTest (tOp (rI0 fun i j => .bl (decide (i < j))) (tVar 2) (tOp (rI CPow fun i j => .int (i ^ j.toNat)) (tC (.int 10)) (tC (.int 18)))))) (rd_pull_mix K) tNext)
    (tAsg (tVar 2) (gSub (tVar 0) (tC (.int 2)) rSetL)))))) tNext) (rd_pull_end K)
section
variable {K : PySem.W.Frag} {H : Hp} {p : Addr} {u a b c : V} {Q : VK} {σ : L2.St}
theorem bx0 (hs : σ[0]? = some (some (.ref p))) (hp : H p = some (.lst [u, a, b, c])) (h : Q u H) : tBx K 0 σ H Q := ⟨_, hs, p, _, 0, u, rfl, rfl, SqL.of hp, rfl, h⟩
theorem bx1 (hs : σ[0]? = some (some (.ref p))) (hp : H p = some (.lst [u, a, b, c])) (h : Q a H) : tBx K 1 σ H Q := ⟨_, hs, p, _, 1, a, rfl, rfl, SqL.of hp, rfl, h⟩
theorem bx2 (hs : σ[0]? = some (some (.ref p))) (hp : H p = some (.lst [u, a, b, c])) (h : Q b H) : tBx K 2 σ H Q := ⟨_, hs, p, _, 2, b, rfl, rfl, SqL.of hp, rfl, h⟩
theorem bx3 (hs : σ[0]? = some (some (.ref p))) (hp : H p = some (.lst [u, a, b, c])) (h : Q c H) : tBx K 3 σ H Q := ⟨_, hs, p, _, 3, c, rfl, rfl, SqL.of hp, rfl, h⟩
end
theorem small64 {n : Int} (h0 : -4294967296 < n) (h1 : n < 4294967296) : -(2 ^ 64) < n ∧ n < 2 ^ 64 := by
  have e : (2 : Int) ^ 64 = 18446744073709551616 := by decide
  rw [e]
  omega
theorem pull_end {K : PySem.W.Frag} {H A : Hp} {R : List Hp} {p : Addr} {u y2 y3 y4 : V} {o2 o3 o4 : Option V} {D : Ends} {i c s many : Int} (hm : 0 < many) (hm' : many < 1073741824) (S : St H (A :: one p (.lst [u, .int i, .int c, .int s]) :: R))
    (k : ∀ H', St H' (A :: one p (.lst [u, .int i, .int (c / many), .int s]) :: R) → D.rt (.int (c % many)) H') : rd_pull_end K D [some (.ref p), some (.int many), o2, o3, o4] H := by
  have hp := S.second _ _ one_same
  unfold rd_pull_end
  refine q_asg (c_op (bx2 rfl hp (c_var rfl (c_I hm ?_))))
  refine q_seq ?_
  refine c_op (bx2 (p := p) rfl hp (c_var rfl (c_I ⟨hm, hm'⟩ ?_)))
  refine ⟨_, rfl, p, _, 2, 2, rfl, rfl, hp, rfl, ?_⟩
  refine s_ret (c_var rfl (k _ S.wr1))
theorem pull_mix {K : PySem.W.Frag} {H A : Hp} {R : List Hp} {p : Addr} {u : V} {o3 o4 : Option V} {D : Ends} {x i c s many : Int} (hm : 0 < many) (S : St H (A :: one p (.lst [u, .int i, .int c, .int s]) :: R))
    (k : D.rt (.int (mixV x i many)) H) : rd_pull_mix K D [some (.ref p), some (.int many), some (.int x), o3, o4] H := by
  have hp := S.second _ _ one_same
  unfold rd_pull_mix
  have b1 : ∀ y : Int, -(2 ^ 64) < y % 2147483647 ∧ y % 2147483647 < 2 ^ 64 := fun y => small64 (by have := Int.emod_nonneg y (b := 2147483647) (by decide); omega) (by have := Int.emod_lt_of_pos y (b := 2147483647) (by decide); omega)
  refine q_asg (c_op (c_op (c_op (c_op (c_var rfl (c_c (c_I (.inr ⟨by decide, by decide⟩) (c_op (bx1 rfl hp (c_c (c_I (.inr ⟨by decide, by decide⟩) (c_I0 (c_c (c_I0 (c_c (c_I (by decide) (?_)))))))))))))))))
  refine q_asg (c_op (c_op (c_var rfl (c_var rfl (c_I (.inl (b1 _)) (c_c (c_I (by decide) (?_))))))))
  refine s_ret (c_op (c_op (c_op (c_op (c_op (c_var rfl (bx1 (p := p) rfl hp (c_I0 (c_c (c_I (.inr ⟨by decide, by decide⟩) (c_c (c_I (by decide) (c_c (c_I ⟨by decide, by decide⟩ (c_var rfl (c_I hm (?_)))))))))))))))))
  exact k
theorem wk_law_pull {T : Cs} {K : PySem.W.Frag} {vs : List V} {H : Hp} {Q : VK} {E : XK} (h : sp_law_pull T K vs H Q E) : rd_law_pull T K E { nx := fun _ H' => Q .non H', rt := Q } (L2.start ["_law_bag_here", "_law_many", "_law_seed", "_law_mixed", "_law_drawn"] vs) H := by
  obtain ⟨A, R, m, v, bg, many, rfl, S, ⟨p, u, rfl, rfl, hu⟩, h⟩ := h
  unfold m_law_pull at h
  by_cases hc : 0 < many ∧ many < 1073741824 ∧ 0 ≤ bg.i
  case neg =>
    rw [if_neg hc] at h
    exact h.elim
  rw [if_pos hc] at h
  obtain ⟨hm, hm', hi⟩ := hc
  have h : ∀ (A' H' : Hp) (m0 : Hp), Same A A' → St H' (A' :: m0 :: R) → Ob.isAt T A' m0 (V.ref p) (pullV bg many).2 → Q (.int (pullV bg many).1) H' := h
  have hp := S.second _ _ one_same
  show rd_law_pull T K E _ [some (.ref p), some (.int many), none, none, none] H
  unfold rd_law_pull
  refine q_when (c_tst (c_op (bx2 rfl hp (c_c (c_I0 (c_bl ?_))))))
  by_cases h1 : bg.c ≤ 1
  case neg =>
    rw [if_neg (by simpa using h1)]
    refine pull_end (y2 := u) (y3 := u) (y4 := u) hm hm' S fun H' S' => ?_
    have e : pullV bg many = (bg.c % many, { bg with c := bg.c / many }) := by unfold pullV; rw [if_neg h1]
    rw [e] at h
    exact h A H' _ (Same.refl _) S' ⟨p, u, rfl, rfl, hu⟩
  rw [if_pos (by simpa using h1)]
  refine q_seq ?_
  refine c_var rfl (c_c ⟨p, _, 1, _, rfl, rfl, SqL.of hp, rfl, c_c (c_ip ⟨p, _, 1, 1, rfl, rfl, hp, rfl, ?_⟩)⟩)
  have S1 : St (upd H p (.lst [u, .int (bg.i + 1), .int bg.c, .int bg.s])) (A :: one p (.lst [u, .int (bg.i + 1), .int bg.c, .int bg.s]) :: R) := S.wr1
  show tSeq _ _ _ _ (upd H p (.lst [u, .int (bg.i + 1), .int bg.c, .int bg.s]))
  generalize upd H p (.lst [u, .int (bg.i + 1), .int bg.c, .int bg.s]) = H1 at S1 ⊢
  have hp1 := S1.second _ _ one_same
  have hl : LA A H1 u bg.l := la_of S1 hu
  refine q_asg (bx3 rfl hp1 ?_)
  refine q_if (c_tst (c_op (bx1 (p := p) rfl hp1 (c_cb (c_cons (bx0 (p := p) rfl hp1 (c_nil (c_len hl (c_I0 (c_bl ?_))))))))))
  by_cases h2 : bg.i + 1 ≤ (bg.l.length : Int)
  · rw [if_pos (by simpa using h2)]
    obtain ⟨a, us, rfl, hu1, hu2⟩ := hl
    have hx : bg.l[bg.i.toNat]? = some (bg.l.getD bg.i.toNat 0) := by
      have hlt : bg.i.toNat < bg.l.length := by omega
      rw [List.getD_eq_getElem?_getD, List.getElem?_eq_getElem hlt]
      rfl
    have hxi : atI (bg.l.map V.int) (bg.i + 1 - 1) = some (V.int (bg.l.getD bg.i.toNat 0)) := by
      have e0 : bg.i + 1 - 1 = ((bg.i.toNat : Nat) : Int) := by omega
      rw [e0]
      refine atI_nat ?_
      rw [List.getElem?_map, hx]
      rfl
    rw [hu2.int] at hu1
    refine s_asg (c_op (bx0 (p := p) rfl hp1 (c_op (bx1 (p := p) rfl hp1 (c_c (c_I0 ⟨a, _, _, _, rfl, rfl, SqL.of hu1, hxi, ?_⟩))))))
    generalize hX : bg.l.getD bg.i.toNat 0 = X at *
    refine nx_mk ?_
    refine q_if (c_or (c_tst (c_op (bx1 (p := p) rfl hp1 (c_cb (c_cons (bx0 (p := p) rfl hp1 (c_nil (c_len (A := A) (xs := bg.l) ⟨a, _, rfl, hu1, int_ol hu2.2⟩ (c_I0 (c_bl ?_)))))))))))
    rw [if_neg (by simpa using h2)]
    refine c_tst (c_op (c_var rfl (c_op (c_c (c_c (c_I ⟨by decide, by decide, by decide⟩ (c_I0 (c_bl ?_))))))))
    by_cases h3 : X < 10 ^ 18
    · rw [if_pos (by simpa using h3)]
      refine pull_mix hm S1 ?_
      have e : pullV bg many = (mixV X (bg.i + 1) many, { bg with i := bg.i + 1 }) := by unfold pullV; rw [if_pos h1, dif_pos h2, hX, if_pos h3]
      rw [e] at h
      exact h A H1 _ (Same.refl _) S1 ⟨p, _, rfl, rfl, hu⟩
    · rw [if_neg (by simpa using h3)]
      refine s_next (nx_mk ?_)
      refine c_var (i := 2) rfl ⟨_, rfl, p, _, 2, 2, rfl, rfl, hp1, rfl, ?_⟩
      refine nx_mk ?_
      refine pull_end (y2 := V.non) (y3 := V.non) (y4 := V.non) hm hm' S1.wr1 fun H' S' => ?_
      have e : pullV bg many = (X % many, { bg with i := bg.i + 1, c := X / many }) := by unfold pullV; rw [if_pos h1, dif_pos h2, hX, if_neg h3]
      rw [e] at h
      exact h A H' _ (Same.refl _) S' ⟨p, _, rfl, rfl, hu⟩
  · rw [if_neg (by simpa using h2)]
    refine s_next (nx_mk ?_)
    refine q_if (c_or (c_tst (c_op (bx1 (p := p) rfl hp1 (c_cb (c_cons (bx0 (p := p) rfl hp1 (c_nil (c_len hl (c_I0 (c_bl ?_)))))))))))
    rw [if_pos (by simp; omega)]
    rw [if_pos rfl]
    refine pull_mix hm S1 ?_
    have e : pullV bg many = (mixV bg.s (bg.i + 1) many, { bg with i := bg.i + 1 }) := by unfold pullV; rw [if_pos h1, dif_neg h2]
    rw [e] at h
    exact h A H1 _ (Same.refl _) S1 ⟨p, _, rfl, rfl, hu⟩
end SB

namespace SB
open PySem PySem.Spec PyProof.Rows L2 Res
/-! ## mirrors that end well -/
section
variable {ω ω' α β γ σT : Type}
def Okk (m : Res ω α) (P : α → Prop) : Prop := ∃ a, m = .ok a ∧ P a
theorem okk_ok {a : α} {P : α → Prop} (h : P a) : Okk (.ok a : Res ω α) P := ⟨a, rfl, h⟩
theorem okk_bind {m : Res ω α} {f : α → Res ω β} {P : α → Prop} {Q : β → Prop} (h : Okk m P) (k : ∀ a, P a → Okk (f a) Q) : Okk (Res.bind m f) Q := by
  obtain ⟨a, rfl, h⟩ := h
  exact k a h
theorem okk_noex {m : Res ω' α} {P : α → Prop} (h : Okk m P) : Okk (Res.noex m : Res ω α) P := by
  obtain ⟨a, rfl, h⟩ := h
  exact ⟨a, rfl, h⟩
theorem okk_lift {g : ω' → ω} {m : Res ω' α} {P : α → Prop} (h : Okk m P) : Okk (Res.lift g m) P := by
  obtain ⟨a, rfl, h⟩ := h
  exact ⟨a, rfl, h⟩
theorem okk_mono {m : Res ω α} {P Q : α → Prop} (h : Okk m P) (k : ∀ a, P a → Q a) : Okk m Q := by
  obtain ⟨a, e, h⟩ := h
  exact ⟨a, e, k a h⟩
theorem okk_eq {m : Res ω α} {a : α} {P : α → Prop} (e : m = .ok a) (h : P a) : Okk m P := ⟨a, e, h⟩
theorem okk_is {m : Res ω α} {a : α} (h : Okk m (· = a)) : m = .ok a := by
  obtain ⟨b, e, rfl⟩ := h
  exact e
theorem okk_st {m : Res ω α} {f : α → Res ω β} {a : α} {Q : β → Prop} (e : m = .ok a) (k : Okk (f a) Q) : Okk (Res.bind m f) Q := by
  rw [e]
  exact k
theorem okk_stN {m : Res ω' α} {f : α → Res ω β} {a : α} {Q : β → Prop} (e : m = .ok a) (k : Okk (f a) Q) : Okk (Res.bind (Res.noex m) f) Q := by
  rw [e]
  exact k
theorem okk_stL {m : Res ω' α} {g : ω' → ω} {f : α → Res ω β} {a : α} {Q : β → Prop} (e : m = .ok a) (k : Okk (f a) Q) : Okk (Res.bind (Res.lift g m) f) Q := by
  rw [e]
  exact k
theorem okk_no {c : Bool} {m n : Res ω α} {P : α → Prop} (h : c = false) (k : Okk n P) : Okk (if c = true then m else n) P := by
  rw [h]
  exact k
theorem okk_yes {c : Bool} {m n : Res ω α} {P : α → Prop} (h : c = true) (k : Okk m P) : Okk (if c = true then m else n) P := by
  rw [h]
  exact k
theorem or_no {c : Bool} {m : Res ω Bool} (h : c = false) : orR c m = m := by
  rw [h]
  rfl
theorem and_yes {c : Bool} {m : Res ω Bool} (h : c = true) : andR c m = m := by
  rw [h]
  rfl
theorem st_st {m : Res ω α} {f : α → Res ω β} {a : α} {b : β} (e : m = .ok a) (k : f a = .ok b) : Res.bind m f = .ok b := by
  rw [e]
  exact k
theorem st_N {m : Res ω' α} {f : α → Res ω β} {a : α} {b : β} (e : m = .ok a) (k : f a = .ok b) : Res.bind (Res.noex m) f = .ok b := by
  rw [e]
  exact k
theorem okk_if {c : Bool} {m n : Res ω α} {P : α → Prop} (h1 : c = true → Okk m P) (h2 : c = false → Okk n P) : Okk (if c = true then m else n) P := by
  cases c with
  | true => exact h1 rfl
  | false => exact h2 rfl
theorem okk_and {c : Bool} {m : Res ω Bool} {P : Bool → Prop} (h1 : c = true → Okk m P) (h2 : c = false → P false) : Okk (andR c m) P := by
  cases c with
  | true => exact h1 rfl
  | false => exact ⟨false, rfl, h2 rfl⟩
theorem okk_or {c : Bool} {m : Res ω Bool} {P : Bool → Prop} (h1 : c = true → P true) (h2 : c = false → Okk m P) : Okk (orR c m) P := by
  cases c with
  | true => exact ⟨true, rfl, h1 rfl⟩
  | false => exact h2 rfl
theorem okk_andS {c : Bool} {s : σT} {m : Res ω (Bool × σT)} {P : Bool × σT → Prop} (h1 : c = true → Okk m P) (h2 : c = false → P (false, s)) : Okk (andS c s m) P := by
  cases c with
  | true => exact h1 rfl
  | false => exact ⟨_, rfl, h2 rfl⟩
theorem okk_orS {c : Bool} {s : σT} {m : Res ω (Bool × σT)} {P : Bool × σT → Prop} (h1 : c = true → P (true, s)) (h2 : c = false → Okk m P) : Okk (orS c s m) P := by
  cases c with
  | true => exact ⟨_, rfl, h1 rfl⟩
  | false => exact h2 rfl
theorem ix_eq {xs : List α} {i : Int} {x : α} (h : atI xs i = some x) : (ixR xs i : Res ω α) = .ok x := by
  unfold ixR
  rw [h]
theorem atI_of {xs : List α} {i : Int} (h0 : 0 ≤ i) (h1 : i < (xs.length : Int)) : atI xs i = xs[i.toNat]? := by
  unfold atI ixN
  rw [if_pos h0, if_pos h1]
  rfl
theorem okk_ix {xs : List α} {i : Int} {P : α → Prop} (h0 : 0 ≤ i) (h1 : i < (xs.length : Int)) (h : ∀ x, xs[i.toNat]? = some x → P x) : Okk (ixR xs i : Res ω α) P := by
  have hlt : i.toNat < xs.length := by omega
  exact ⟨xs[i.toNat], ix_eq (by rw [atI_of h0 h1, List.getElem?_eq_getElem hlt]), h _ (List.getElem?_eq_getElem hlt)⟩
theorem okk_mem {xs : List α} {i : Int} {P : α → Prop} (h0 : 0 ≤ i) (h1 : i < (xs.length : Int)) (h : ∀ x ∈ xs, P x) : Okk (ixR xs i : Res ω α) P :=
  okk_ix h0 h1 fun x e => h x (List.mem_of_getElem? e)
theorem mul_eq {a b : Int} (h : (-(2 ^ 64) < a ∧ a < 2 ^ 64) ∨ (-(2 ^ 64) < b ∧ b < 2 ^ 64)) : (mulR a b : Res ω Int) = .ok (a * b) := by
  unfold mulR
  rw [if_pos h]
theorem mod_eq {a b : Int} (h : 0 < b) : (modR a b : Res ω Int) = .ok (a % b) := by
  unfold modR
  rw [if_pos h]
theorem div_eq {a b : Int} (h : 0 < b ∧ b < 1073741824) : (divR a b : Res ω Int) = .ok (a / b) := by
  unfold divR
  rw [if_pos h]
theorem size_big : (16777216 : Nat) ≤ sizeLine := by decide
theorem cat_eq {xs ys : List α} (h : xs.length + ys.length ≤ 16777216) : (catR xs ys : Res ω (List α)) = .ok (xs ++ ys) := by
  unfold catR
  rw [if_pos (Nat.le_trans h size_big)]
theorem app_eq {xs : List α} {x : α} (h : xs.length < 16777216) : (appR xs x : Res ω (List α)) = .ok (xs ++ [x]) := by
  unfold appR
  rw [if_pos (Nat.lt_of_lt_of_le h size_big)]
theorem rg_eq {lo hi : Int} (h : -4000000000 ≤ lo ∧ lo ≤ 4000000000 ∧ -4000000000 ≤ hi ∧ hi ≤ 4000000000) : (rgR lo hi : Res ω (List Int)) = .ok (rangeL lo hi) := by
  unfold rgR
  have e : (2 : Int) ^ 62 = 4611686018427387904 := by decide
  rw [e, if_pos (by omega)]
theorem rl_eq {n : Int} (h : -1000000 ≤ n ∧ n ≤ 1000000) : (rlR n : Res ω (List Int)) = .ok (rangeL 0 n) := by
  unfold rlR
  rw [if_pos ⟨h.2, h.1⟩]
theorem mem_range {lo hi x : Int} : x ∈ rangeL lo hi ↔ lo ≤ x ∧ x < hi := by
  unfold rangeL
  rw [List.mem_map]
  constructor
  · rintro ⟨i, hi, rfl⟩
    rw [List.mem_range] at hi
    omega
  · rintro ⟨h1, h2⟩
    exact ⟨(x - lo).toNat, List.mem_range.mpr (by omega), by omega⟩
theorem range_len (lo hi : Int) : (rangeL lo hi).length = (hi - lo).toNat := by
  unfold rangeL
  rw [List.length_map, List.length_range]
/-- a loop, by what holds of the part taken and the state -/
theorem okk_for {body : α → σT → Res ω (Fl β σT)} {Qr : β → Prop} (I : List α → σT → Prop) : ∀ (xs pre : List α) (s : σT), I pre s →
    (∀ p x r s, pre ++ xs = p ++ x :: r → I p s → Okk (body x s) (fun f => match f with | .next s' => I (p ++ [x]) s' | .ret y => Qr y)) →
    Okk (forM body xs s) (fun f => match f with | .next s' => I (pre ++ xs) s' | .ret y => Qr y)
  | [], pre, s, h0, _ => ⟨.next s, rfl, by
      show I (pre ++ []) s
      rw [List.append_nil]
      exact h0⟩
  | x :: xs, pre, s, h0, step => by
    obtain ⟨f, e, hf⟩ := step pre x xs s rfl h0
    unfold forM
    rw [e]
    cases f with
    | ret y => exact ⟨.ret y, rfl, hf⟩
    | next s' =>
      have ih := okk_for I xs (pre ++ [x]) s' hf (fun p y r s hp hI => step p y r s (by rw [← hp, List.append_assoc]; rfl) hI)
      rw [List.append_assoc] at ih
      exact ih
/-- a loop that never hands back -/
theorem okk_loop {body : α → σT → Res ω (Fl β σT)} {xs : List α} {s : σT} {Q : Fl β σT → Prop} (I : List α → σT → Prop) (h0 : I [] s)
    (step : ∀ p x r s, xs = p ++ x :: r → I p s → Okk (body x s) (fun f => ∃ s', f = .next s' ∧ I (p ++ [x]) s')) (done : ∀ s, I xs s → Q (.next s)) : Okk (forM body xs s) Q := by
  refine okk_mono (okk_for (Qr := fun _ => False) I xs [] s h0 fun p x r s e h => okk_mono (step p x r s e h) fun f hf => ?_) fun f hf => ?_
  · obtain ⟨s', rfl, h⟩ := hf
    exact h
  · cases f with
    | next s' => exact done s' hf
    | ret y => exact hf.elim
/-- a loop whose state is any that fits, turn by turn -/
theorem okk_each {body : α → σT → Res ω (Fl β σT)} {xs : List α} {s : σT} {Q : Fl β σT → Prop} (I : σT → Prop) (h0 : I s)
    (step : ∀ x s, x ∈ xs → I s → Okk (body x s) (fun f => ∃ s', f = .next s' ∧ I s')) (done : ∀ s, I s → Q (.next s)) : Okk (forM body xs s) Q :=
  okk_loop (fun _ => I) h0 (fun p x r s e h => step x s (by rw [e]; simp) h) done
/-- a comprehension: what holds of its items, and the objects' state -/
theorem okk_comp {body : α → σT → Res ω (Option β × σT)} (I : σT → Prop) (P : β → Prop) : ∀ (xs : List α) (s : σT), I s →
    (∀ x s, x ∈ xs → I s → Okk (body x s) (fun r => (∀ y, r.1 = some y → P y) ∧ I r.2)) → Okk (compG body xs s) (fun y => (∀ b ∈ y.1, P b) ∧ y.1.length ≤ xs.length ∧ I y.2)
  | [], s, h0, _ => ⟨([], s), rfl, fun _ h => (nomatch h), Nat.le_refl _, h0⟩
  | x :: xs, s, h0, step => by
    obtain ⟨⟨r, s'⟩, e, h1, h2⟩ := step x s List.mem_cons_self h0
    obtain ⟨y, e2, h3, h4, h5⟩ := okk_comp I P xs s' h2 fun z s hz hs => step z s (List.mem_cons_of_mem _ hz) hs
    unfold compG
    rw [e]
    show Okk (Res.bind (compG body xs s') _) _
    rw [e2]
    cases r with
    | none => exact ⟨y, rfl, h3, Nat.le_succ_of_le h4, h5⟩
    | some b => exact ⟨(b :: y.1, y.2), rfl, fun c hc => by
        cases hc with
        | head => exact h1 _ rfl
        | tail _ hc => exact h3 c hc, Nat.succ_le_succ h4, h5⟩
theorem comp_eq {body : α → Unit → Res ω (Option β × Unit)} {g : α → Option β} : ∀ (xs : List α), (∀ x ∈ xs, body x () = .ok (g x, ())) → compG body xs () = .ok (xs.filterMap g, ())
  | [], _ => rfl
  | x :: xs, h => by
    unfold compG
    rw [h x List.mem_cons_self, List.filterMap_cons]
    show Res.bind (compG body xs ()) _ = _
    rw [comp_eq xs fun y hy => h y (List.mem_cons_of_mem _ hy)]
    cases g x <;> rfl
/-- a loop that folds -/
theorem for_fold {body : α → σT → Res ω (Fl β σT)} {f : σT → α → σT} (I : List α → σT → Prop) : ∀ (xs pre : List α) (s : σT), I pre s → (∀ p x r s, pre ++ xs = p ++ x :: r → I p s → body x s = .ok (.next (f s x)) ∧ I (p ++ [x]) (f s x)) →
    forM body xs s = .ok (.next (xs.foldl f s))
  | [], pre, s, h0, _ => rfl
  | x :: xs, pre, s, h0, step => by
    obtain ⟨e, h1⟩ := step pre x xs s rfl h0
    unfold forM
    rw [e]
    show forM body xs (f s x) = _
    exact for_fold I xs (pre ++ [x]) (f s x) h1 fun p y r s hp hI => step p y r s (by rw [← hp, List.append_assoc]; rfl) hI
end

/-! ## sums -/
def Sm (l : List Int) : Prop := l.Pairwise (· < ·)
instance (l : List Int) : Decidable (Sm l) := inferInstanceAs (Decidable (l.Pairwise (· < ·)))
def joinF (a b : List Int) : List Int := sortI (a.filter (fun x => !decide (x ∈ b)) ++ b.filter (fun x => !decide (x ∈ a)))
theorem mem_sort {x : Int} {l : List Int} : x ∈ sortI l ↔ x ∈ l := (sortI_perm l).mem_iff
theorem mem_join {x : Int} {a b : List Int} : x ∈ joinF a b ↔ (x ∈ a ∧ x ∉ b) ∨ (x ∈ b ∧ x ∉ a) := by
  unfold joinF
  rw [mem_sort, List.mem_append, List.mem_filter, List.mem_filter]
  simp
theorem Sm.nodup {l : List Int} (h : Sm l) : l.Nodup := List.Pairwise.imp (fun h => Int.ne_of_lt h) h
theorem sm_of {l : List Int} (h1 : l.Pairwise (· ≤ ·)) (h2 : l.Nodup) : Sm l := by
  unfold Sm
  have := List.pairwise_and_iff.mpr ⟨h1, h2⟩
  exact this.imp fun ⟨a, b⟩ => by omega
theorem Sm.le {l : List Int} (h : Sm l) : l.Pairwise (· ≤ ·) := List.Pairwise.imp (fun h => Int.le_of_lt h) h
theorem perm_of {a b : List Int} (ha : a.Nodup) (hb : b.Nodup) (h : ∀ x, x ∈ a ↔ x ∈ b) : a.Perm b := by
  rw [List.perm_iff_count]
  intro x
  rw [ha.count, hb.count]
  by_cases hx : x ∈ a
  · rw [if_pos hx, if_pos ((h x).mp hx)]
  · rw [if_neg hx, if_neg fun z => hx ((h x).mpr z)]
theorem Sm.ext {a b : List Int} (ha : Sm a) (hb : Sm b) (h : ∀ x, x ∈ a ↔ x ∈ b) : a = b := sorted_eq (perm_of ha.nodup hb.nodup h) ha.le hb.le
theorem sm_sort {l : List Int} (h : l.Nodup) : Sm (sortI l) := sm_of (sortI_sorted l) ((sortI_perm l).nodup_iff.mpr h)
theorem sm_join {a b : List Int} (ha : Sm a) (hb : Sm b) : Sm (joinF a b) := by
  refine sm_sort (List.nodup_append.mpr ⟨ha.nodup.filter _, hb.nodup.filter _, fun x hx y hy => ?_⟩)
  rintro rfl
  simp at hx hy
  exact hy.2 hx.1
theorem join_len (a b : List Int) : (joinF a b).length ≤ a.length + b.length := by
  unfold joinF
  rw [(sortI_perm _).length_eq, List.length_append]
  exact Nat.add_le_add (List.length_filter_le _ _) (List.length_filter_le _ _)
theorem join_comm (a b : List Int) (ha : Sm a) (hb : Sm b) : joinF a b = joinF b a := (sm_join ha hb).ext (sm_join hb ha) fun x => by
  rw [mem_join, mem_join]
  exact Or.comm
theorem join_self (a : List Int) : joinF a a = [] := by
  apply List.eq_nil_iff_forall_not_mem.mpr
  intro x
  rw [mem_join]
  simp
theorem join_nil (a : List Int) (ha : Sm a) : joinF a [] = a := (sm_join ha .nil).ext ha fun x => by
  rw [mem_join]
  simp
theorem nil_join (a : List Int) (ha : Sm a) : joinF [] a = a := (sm_join .nil ha).ext ha fun x => by
  rw [mem_join]
  simp
theorem join_assoc (a b c : List Int) (ha : Sm a) (hb : Sm b) (hc : Sm c) : joinF (joinF a b) c = joinF a (joinF b c) :=
  (sm_join (sm_join ha hb) hc).ext (sm_join ha (sm_join hb hc)) fun x => by
    simp only [mem_join]
    by_cases h1 : x ∈ a <;> by_cases h2 : x ∈ b <;> by_cases h3 : x ∈ c <;> simp [h1, h2, h3]
theorem map_id_fun (l : List Int) : l.map (fun z => z) = l := List.map_id' l
end SB

namespace SB
open PySem PySem.Spec PyProof.Rows L2 Res
/-! ## tables with ints for keys -/
section
variable {α : Type}
def agt (l : List (Int × α)) (k : Int) : Option α := (l.find? fun p => decide (p.1 = k)).map (·.2)
def aput (l : List (Int × α)) (k : Int) (x : α) : List (Int × α) := if (l.any fun p => decide (p.1 = k)) = true then l.map (fun p => if p.1 = k then (p.1, x) else p) else l ++ [(k, x)]
def adrop (l : List (Int × α)) (k : Int) : List (Int × α) := l.filter fun p => decide (p.1 ≠ k)
@[irreducible] def agR {ω : Type} (l : List (Int × α)) (k : Int) : Res ω α := match agt l k with
  | some x => .ok x
  | none => .bad
@[irreducible] def aputR {ω : Type} (l : List (Int × α)) (k : Int) (x : α) : Res ω (List (Int × α)) := if l.length < sizeLine then .ok (aput l k x) else .bad
@[irreducible] def apopR {ω : Type} (l : List (Int × α)) (k : Int) : Res ω (α × List (Int × α)) := match agt l k with
  | some x => .ok (x, adrop l k)
  | none => .bad
end
section
variable {α : Type} [Rep α] {A B H : Hp} {kvs : List (Key × V)} {l : List (Int × α)}
def DK (A : Hp) : List (Key × V) → List (Int × α) → Prop
  | [], [] => True
  | kv :: kvs, p :: l => kv.1 = Sum.inl p.1 ∧ Is A kv.2 p.2 ∧ DK A kvs l
  | _, _ => False
theorem DK.up : ∀ {kvs : List (Key × V)} {l : List (Int × α)}, DK A kvs l → Same A B → DK B kvs l
  | [], [], h, _ => h
  | _ :: _, _ :: _, h, e => ⟨h.1, SB.up h.2.1 e, DK.up h.2.2 e⟩
  | [], _ :: _, h, _ => h.elim
  | _ :: _, [], h, _ => h.elim
theorem DK.len : ∀ {kvs : List (Key × V)} {l : List (Int × α)}, DK A kvs l → kvs.length = l.length
  | [], [], _ => rfl
  | _ :: kvs, _ :: l, h => by
    show kvs.length + 1 = l.length + 1
    rw [DK.len h.2.2]
  | [], _ :: _, h => h.elim
  | _ :: _, [], h => h.elim
theorem DK.keys : ∀ {kvs : List (Key × V)} {l : List (Int × α)}, DK A kvs l → (kvs.map fun kv => kV kv.1) = (l.map (·.1)).map V.int
  | [], [], _ => rfl
  | kv :: kvs, p :: l, h => by
    rw [List.map_cons, DK.keys h.2.2, h.1]
    rfl
  | [], _ :: _, h => h.elim
  | _ :: _, [], h => h.elim
theorem inl_iff {a b : Int} : (Sum.inl a : Key) = Sum.inl b ↔ a = b := ⟨Sum.inl.inj, fun h => by rw [h]⟩
theorem DK.none_of {k : Int} : ∀ {kvs : List (Key × V)} {l : List (Int × α)}, DK A kvs l → agt l k = none → valV kvs (Sum.inl k : Key) = none
  | [], [], _, _ => rfl
  | kv :: kvs, p :: l, h, e => by
    by_cases hp : p.1 = k
    · unfold agt at e
      rw [List.find?_cons, decide_eq_true hp] at e
      cases e
    · have e' : agt l k = none := by
        unfold agt at e ⊢
        rw [List.find?_cons, decide_eq_false hp] at e
        exact e
      rw [valV_neg (by rw [h.1]; exact fun z => hp (Sum.inl.inj z))]
      exact DK.none_of h.2.2 e'
  | [], _ :: _, h, _ => h.elim
  | _ :: _, [], h, _ => h.elim
theorem DK.some_of {k : Int} {x : α} : ∀ {kvs : List (Key × V)} {l : List (Int × α)}, DK A kvs l → agt l k = some x → ∃ w, valV kvs (Sum.inl k : Key) = some w ∧ Is A w x
  | [], [], _, e => by cases e
  | kv :: kvs, p :: l, h, e => by
    by_cases hp : p.1 = k
    · unfold agt at e
      rw [List.find?_cons, decide_eq_true hp] at e
      cases e
      exact ⟨kv.2, valV_pos (by rw [h.1, hp]), h.2.1⟩
    · have e' : agt l k = some x := by
        unfold agt at e ⊢
        rw [List.find?_cons, decide_eq_false hp] at e
        exact e
      rw [valV_neg (by rw [h.1]; exact fun z => hp (Sum.inl.inj z))]
      exact DK.some_of h.2.2 e'
  | [], _ :: _, h, _ => h.elim
  | _ :: _, [], h, _ => h.elim
theorem DK.isSome {k : Int} (h : DK A kvs l) : (valV kvs (Sum.inl k : Key)).isSome = (agt l k).isSome := by
  cases e : agt l k with
  | none =>
    rw [h.none_of e]
    rfl
  | some x =>
    obtain ⟨w, e', _⟩ := h.some_of e
    rw [e']
    rfl
theorem DK.any {k : Int} : ∀ {kvs : List (Key × V)} {l : List (Int × α)}, DK A kvs l → (kvs.any fun kv => decide (kv.1 = (Sum.inl k : Key))) = l.any fun p => decide (p.1 = k)
  | [], [], _ => rfl
  | kv :: kvs, p :: l, h => by
    rw [List.any_cons, List.any_cons, DK.any h.2.2, h.1]
    congr 1
    by_cases e : p.1 = k
    · rw [decide_eq_true e, decide_eq_true (inl_iff.mpr e)]
    · rw [decide_eq_false e, decide_eq_false fun z => e (inl_iff.mp z)]
  | [], _ :: _, h => h.elim
  | _ :: _, [], h => h.elim
theorem DK.mapPut {k : Int} {w : V} {x : α} (hw : Is A w x) : ∀ {kvs : List (Key × V)} {l : List (Int × α)}, DK A kvs l → DK A (kvs.map fun kv => if kv.1 = (Sum.inl k : Key) then (kv.1, w) else kv) (l.map fun p => if p.1 = k then (p.1, x) else p)
  | [], [], h => h
  | kv :: kvs, p :: l, h => by
    rw [List.map_cons, List.map_cons]
    refine ⟨?_, ?_, DK.mapPut hw h.2.2⟩
    · by_cases e : p.1 = k
      · rw [if_pos e, if_pos (h.1.trans (inl_iff.mpr e))]
        exact h.1
      · rw [if_neg e, if_neg fun z => e (inl_iff.mp (h.1.symm.trans z))]
        exact h.1
    · by_cases e : p.1 = k
      · rw [if_pos e, if_pos (h.1.trans (inl_iff.mpr e))]
        exact hw
      · rw [if_neg e, if_neg fun z => e (inl_iff.mp (h.1.symm.trans z))]
        exact h.2.1
  | [], _ :: _, h => h.elim
  | _ :: _, [], h => h.elim
theorem DK.snoc {k : Int} {w : V} {x : α} (hw : Is A w x) : ∀ {kvs : List (Key × V)} {l : List (Int × α)}, DK A kvs l → DK A (kvs ++ [(Sum.inl k, w)]) (l ++ [(k, x)])
  | [], [], _ => ⟨rfl, hw, trivial⟩
  | _ :: _, _ :: _, h => ⟨h.1, h.2.1, DK.snoc hw h.2.2⟩
  | [], _ :: _, h => h.elim
  | _ :: _, [], h => h.elim
theorem DK.put {k : Int} {w : V} {x : α} (h : DK A kvs l) (hw : Is A w x) : DK A (putK kvs (Sum.inl k) w) (aput l k x) := by
  unfold putK aput
  rw [h.any]
  by_cases c : (l.any fun p => decide (p.1 = k)) = true
  · rw [if_pos c, if_pos c]
    exact h.mapPut hw
  · rw [if_neg c, if_neg c]
    exact h.snoc hw
theorem DK.drop {k : Int} : ∀ {kvs : List (Key × V)} {l : List (Int × α)}, DK A kvs l → DK A (dropK kvs (Sum.inl k)) (adrop l k)
  | [], [], h => h
  | kv :: kvs, p :: l, h => by
    unfold dropK adrop
    rw [List.filter_cons, List.filter_cons]
    by_cases e : p.1 = k
    · rw [if_neg (by rw [h.1]; simpa using e), if_neg (by simpa using e)]
      exact DK.drop h.2.2
    · rw [if_pos (by rw [h.1]; simpa using e), if_pos (by simpa using e)]
      exact ⟨h.1, h.2.1, DK.drop h.2.2⟩
  | [], _ :: _, h => h.elim
  | _ :: _, [], h => h.elim
end
/-! ## what is asked of a table -/
def DInV (x y : V) (H : Hp) (Q : VK) : Prop := ∃ a o, x = .ref a ∧ DGet H a y o ∧ Q (.bl o.isSome) H
def DNotInV (x y : V) (H : Hp) (Q : VK) : Prop := ∃ a o, x = .ref a ∧ DGet H a y o ∧ Q (.bl (!o.isSome)) H
def DGetV (x y : V) (H : Hp) (Q : VK) : Prop := ∃ a v, x = .ref a ∧ DGet H a y (some v) ∧ Q v H
def DPutV (x y v : V) (H : Hp) (N : Hp → Prop) : Prop := ∃ a H4, x = .ref a ∧ DPut H a y v H4 ∧ N H4
def DPopV (a : Addr) (y : V) (H : Hp) (Q : VK) : Prop := ∃ kvs k v, H a = some (.dK kvs) ∧ y = kV k ∧ valV kvs k = some v ∧ Q v (upd H a (.dK (dropK kvs k)))
def rLenD : List V → Hp → VK → Prop := fun xs H Q => ∃ a kvs, xs = [V.ref a] ∧ H a = some (.dK kvs) ∧ Q (.int kvs.length) H
section
variable {σ : L2.St} {H A : Hp} {R : List Hp} {Q : VK} {td ty tv : TE} {D : Ends} {tz : TS} {d : Addr} {kvs : List (Key × V)} {n : Int}
theorem c_din (h : ty σ H fun y H1 => td σ H1 fun x H2 => DInV x y H2 Q) : tDIn ty td σ H Q := h
theorem c_dnotin (h : ty σ H fun y H1 => td σ H1 fun x H2 => DNotInV x y H2 Q) : tDNotIn ty td σ H Q := h
theorem c_dget (h : td σ H fun x H1 => ty σ H1 fun y H2 => DGetV x y H2 Q) : tDGet td ty σ H Q := h
theorem q_dput (h : tv σ H fun v H1 => td σ H1 fun x H2 => ty σ H2 fun y H3 => DPutV x y v H3 fun H4 => tz D σ H4) : tSeq (sDPut td ty tv) tz D σ H := h
theorem s_dput (h : tv σ H fun v H1 => td σ H1 fun x H2 => ty σ H2 fun y H3 => DPutV x y v H3 fun H4 => D.nx σ H4) : sDPut td ty tv D σ H := h
theorem c_dpop (h : td σ H fun x H1 => ∃ a, x = .ref a ∧ IsD H1 a ∧ ty σ H1 fun y H2 => DPopV a y H2 Q) : tDPop1 td ty σ H Q := h
theorem d_isd {P : Addr → Prop} (hd : H d = some (.dK kvs)) (h : P d) : ∃ a, V.ref d = .ref a ∧ IsD H a ∧ P a := ⟨d, rfl, .inl ⟨kvs, .inl hd⟩, h⟩
end
section
variable {ω α γ : Type} [Rep α] {H A : Hp} {R : List Hp} {Q : VK} {d : Addr} {kvs : List (Key × V)} {l : List (Int × α)} {li : List (Int × Int)} {n : Int} {Qr : γ → Prop} {Er : Exn → ω → Prop}
theorem d_in (hd : H d = some (.dK kvs)) (hk : DK A kvs l) (k : Q (.bl (agt l n).isSome) H) : DInV (.ref d) (.int n) H Q := by
  refine ⟨d, _, rfl, DGet.k (k := Sum.inl n) hd, ?_⟩
  rw [hk.isSome]
  exact k
theorem d_notin (hd : H d = some (.dK kvs)) (hk : DK A kvs l) (k : Q (.bl (!(agt l n).isSome)) H) : DNotInV (.ref d) (.int n) H Q := by
  refine ⟨d, _, rfl, DGet.k (k := Sum.inl n) hd, ?_⟩
  rw [hk.isSome]
  exact k
theorem d_get {f : α → Res ω γ} (hd : H d = some (.dK kvs)) (hk : DK A kvs l) (hm : (bind (agR l n) f).wp Qr Er) (k : ∀ x w, Is A w x → (f x).wp Qr Er → Q w H) : DGetV (.ref d) (.int n) H Q := by
  unfold agR at hm
  cases e : agt l n with
  | none =>
    rw [e] at hm
    exact hm.elim
  | some x =>
    rw [e] at hm
    obtain ⟨w, e', hw⟩ := hk.some_of e
    refine ⟨d, w, rfl, ?_, k x w hw hm⟩
    rw [← e']
    exact DGet.k (k := Sum.inl n) hd
theorem d_getI {f : Int → Res ω γ} (hd : H d = some (.dK kvs)) (hk : DK A kvs li) (hm : (bind (agR li n) f).wp Qr Er) (k : ∀ x : Int, (f x).wp Qr Er → Q (.int x) H) : DGetV (.ref d) (.int n) H Q :=
  d_get hd hk hm fun x w hw h => by
    obtain rfl : w = .int x := hw
    exact k x h
theorem d_put {N : Hp → Prop} {x : α} {w : V} {f : List (Int × α) → Res ω γ} (hd : H d = some (.dK kvs)) (hk : DK A kvs l) (hw : Is A w x) (hm : (bind (aputR l n x) f).wp Qr Er) (k : ∀ kvs' l', (f l').wp Qr Er → DK A kvs' l' → N (upd H d (.dK kvs'))) : DPutV (.ref d) (.int n) w H N := by
  unfold aputR at hm
  by_cases c : l.length < sizeLine
  · rw [if_pos c] at hm
    exact ⟨d, _, rfl, DPut.k (k := Sum.inl n) hd (by rw [hk.len]; exact c), k _ _ hm (hk.put hw)⟩
  · rw [if_neg c] at hm
    exact hm.elim
theorem d_pop {f : α × List (Int × α) → Res ω γ} (hd : H d = some (.dK kvs)) (hk : DK A kvs l) (hm : (bind (apopR l n) f).wp Qr Er) (k : ∀ y w kvs', Is A w y.1 → (f y).wp Qr Er → DK A kvs' y.2 → Q w (upd H d (.dK kvs'))) : DPopV d (.int n) H Q := by
  unfold apopR at hm
  cases e : agt l n with
  | none =>
    rw [e] at hm
    exact hm.elim
  | some x =>
    rw [e] at hm
    obtain ⟨w, e', hw⟩ := hk.some_of e
    exact ⟨kvs, Sum.inl n, w, hd, rfl, e', k (x, adrop l n) w _ hw hm hk.drop⟩
theorem d_len {K : PySem.W.Frag} (hd : H d = some (.dK kvs)) (hk : DK A kvs l) (k : Q (.int (l.length : Int)) H) : rLenD [.ref d] H Q := by
  refine ⟨d, kvs, rfl, hd, ?_⟩
  rw [hk.len]
  exact k
@[irreducible] def keysR (l : List (Int × α)) : Res ω (List Int) := if l.length ≤ sizeLine then .ok (l.map (·.1)) else .bad
theorem d_list {f : List Int → Res ω γ} (hd : H d = some (.dK kvs)) (hk : DK A kvs l) (hm : (bind (keysR l) f).wp Qr Er) (k : ∀ zs, (f zs).wp Qr Er → RawL A H Q zs) : rListD [.ref d] H Q := by
  unfold keysR at hm
  by_cases c : l.length ≤ sizeLine
  · rw [if_pos c] at hm
    refine ⟨d, kvs, rfl, hd, fun p hp => ?_⟩
    rw [hk.keys]
    exact k _ hm p _ hp (int_ol (by rw [List.length_map]; exact c))
  · rw [if_neg c] at hm
    exact hm.elim
end
/-! ## bodies and fields -/
/-- the state of a Body (t false) or a Field (t true) -/
structure FS (t : Bool) where
  ranks : List (Int × Int)
  edges : List (Int × List Int)
  after : Int
  ahead : List (Int × Int)
  behind : List (Int × Int)
def Cs.cls (T : Cs) (t : Bool) : Addr := if t then T.field else T.body
def flds (t : Bool) (dr de : Addr) (n : Int) (da db : Addr) : List (Str × V) := match t with
  | false => [("ranks", .ref dr), ("edges", .ref de), ("after", .int n)]
  | true => [("ranks", .ref dr), ("edges", .ref de), ("after", .int n), ("ahead", .ref da), ("behind", .ref db)]
/-- the arrows' two tables, where it is a field -/
def Arr (t : Bool) (A m : Hp) (dr de da db : Addr) (ah be : List (Int × Int)) : Prop := match t with
  | false => True
  | true => (∃ ka, m da = some (.dK ka) ∧ DK A ka ah) ∧ (∃ kb, m db = some (.dK kb) ∧ DK A kb be) ∧ da ≠ db ∧ da ≠ dr ∧ da ≠ de ∧ db ≠ dr ∧ db ≠ de
def FAt (t : Bool) (T : Cs) (A m : Hp) (v : V) (s : FS t) : Prop := ∃ p dx dr de da db, v = .ref p ∧ m p = some (.ins (T.cls t) dx (flds t dr de s.after da db)) ∧ (∃ kr, m dr = some (.dK kr) ∧ DK A kr s.ranks) ∧ (∃ ke, m de = some (.dK ke) ∧ DK A ke s.edges) ∧ dr ≠ de ∧ Arr t A m dr de da db s.ahead s.behind
theorem Arr.up {t : Bool} {A B m : Hp} {dr de da db : Addr} {ah be : List (Int × Int)} (h : Arr t A m dr de da db ah be) (e : Same A B) : Arr t B m dr de da db ah be := by
  cases t with
  | false => trivial
  | true =>
    obtain ⟨⟨ka, h1, h2⟩, ⟨kb, h3, h4⟩, h5⟩ := h
    exact ⟨⟨ka, h1, h2.up e⟩, ⟨kb, h3, h4.up e⟩, h5⟩
instance instObFS {t : Bool} : Ob (FS t) := ⟨FAt t, fun e ⟨p, dx, dr, de, da, db, h1, h2, ⟨kr, h3, h4⟩, ⟨ke, h5, h6⟩, h7, h8⟩ => ⟨p, dx, dr, de, da, db, h1, h2, ⟨kr, h3, h4.up e⟩, ⟨ke, h5, h6.up e⟩, h7, h8.up e⟩⟩
/-- what the walk asks of a class -/
structure Kl (K : PySem.W.Frag) (C : Addr) (t : Bool) : Prop where
  cl : Cls K C
  ranks : NoAttr K C "ranks"
  edges : NoAttr K C "edges"
  after : NoAttr K C "after"
  ahead : t = true → NoAttr K C "ahead"
  behind : t = true → NoAttr K C "behind"
/-- x.f, x.f = y, x.m(..): by values -/
def FldV (K : PySem.W.Frag) (f : Str) (x : V) (H : Hp) (Q : VK) : Prop := ∃ a C dx fs v, x = .ref a ∧ H a = some (.ins C dx fs) ∧ Cls K C ∧ NoAttr K C f ∧ fs.lookup f = some v ∧ Q v H
def FldS (K : PySem.W.Frag) (f : Str) (y x : V) (H : Hp) (N : Hp → Prop) : Prop := ∃ a C dx fs, x = .ref a ∧ H a = some (.ins C dx fs) ∧ Cls K C ∧ NoAttr K C f ∧ fs.length < 1000 ∧ N (upd H a (.ins C dx (putF f y fs)))
def MetV (C : Addr) (m : Str) (x : V) (H : Hp) (P : Prop) : Prop := ∃ a dx fs, x = .ref a ∧ H a = some (.ins C dx fs) ∧ fs.lookup m = none ∧ P
section
variable {K : PySem.W.Frag} {σ : L2.St} {H : Hp} {Q : VK} {ta tv : TE} {f m : Str} {D : Ends} {tz : TS} {C : Addr} {sp : Sp} {dvs : List V} {E : XK} {t : TA}
theorem c_fld (h : ta σ H fun x H1 => FldV K f x H1 Q) : tFld K ta f σ H Q := h
theorem q_fld (h : tv σ H fun y H1 => ta σ H1 fun x H2 => FldS K f y x H2 fun H3 => tz D σ H3) : tSeq (sFld K ta tv f) tz D σ H := h
theorem s_fldS (h : tv σ H fun y H1 => ta σ H1 fun x H2 => FldS K f y x H2 fun H3 => D.nx σ H3) : sFld K ta tv f D σ H := h
theorem c_met (h : ta σ H fun x H1 => MetV C m x H1 (t σ H1 fun vs H2 => sp (x :: (vs ++ dvs)) H2 Q E)) : tMeth C m sp dvs E ta t σ H Q := h
end
theorem lk_ranks {t : Bool} {dr de : Addr} {n : Int} {da db : Addr} : (flds t dr de n da db).lookup ("ranks" : Str) = some (.ref dr) := by cases t <;> rfl
theorem lk_edges {t : Bool} {dr de : Addr} {n : Int} {da db : Addr} : (flds t dr de n da db).lookup ("edges" : Str) = some (.ref de) := by cases t <;> rfl
theorem lk_after {t : Bool} {dr de : Addr} {n : Int} {da db : Addr} : (flds t dr de n da db).lookup ("after" : Str) = some (.int n) := by cases t <;> rfl
theorem lk_ahead {dr de : Addr} {n : Int} {da db : Addr} : (flds true dr de n da db).lookup ("ahead" : Str) = some (.ref da) := rfl
theorem lk_behind {dr de : Addr} {n : Int} {da db : Addr} : (flds true dr de n da db).lookup ("behind" : Str) = some (.ref db) := rfl
theorem put_after {t : Bool} {dr de : Addr} {n : Int} {da db : Addr} {k : Int} : putF "after" (.int k) (flds t dr de n da db) = flds t dr de k da db := by cases t <;> rfl
theorem fl_len {t : Bool} {dr de : Addr} {n : Int} {da db : Addr} : (flds t dr de n da db).length < 1000 := by
  cases t with
  | false => exact (by decide : 3 < 1000)
  | true => exact (by decide : 5 < 1000)
/-- a table of an object may be changed -/
def Cap {S α : Type} [Ob S] [Rep α] (T : Cs) (A m : Hp) (R : List Hp) (H : Hp) (v : V) (d : Addr) (g : List (Int × α) → S) : Prop :=
  ∀ kvs' l', DK A kvs' l' → ∃ m', St (upd H d (.dK kvs')) (A :: m' :: R) ∧ Ob.isAt T A m' v (g l')
section
variable {K : PySem.W.Frag} {T : Cs} {A m H : Hp} {R : List Hp} {v : V} {Q : VK} {t : Bool} {s : FS t} {sf : FS true}
theorem ins_ne {a b : Addr} {C dx : Addr} {fs : List (Str × V)} {kvs : List (Key × V)} (h1 : m a = some (.ins C dx fs)) (h2 : m b = some (.dK kvs)) : a ≠ b := ne_of h1 h2 (fun z => by cases z)
theorem arr_upd {dr de da db a : Addr} {o : HO} {ah be : List (Int × Int)} (h : Arr t A m dr de da db ah be) (h1 : t = true → da ≠ a ∧ db ≠ a) : Arr t A (upd m a o) dr de da db ah be := by
  cases t with
  | false => trivial
  | true =>
    obtain ⟨⟨ka, e1, e2⟩, ⟨kb, e3, e4⟩, e5⟩ := h
    obtain ⟨n1, n2⟩ := h1 rfl
    exact ⟨⟨ka, by rw [upd_ne n1]; exact e1, e2⟩, ⟨kb, by rw [upd_ne n2]; exact e3, e4⟩, e5⟩
theorem f_ranks (kl : Kl K (T.cls t) t) (S : St H (A :: m :: R)) (h : Ob.isAt T A m v s) (k : ∀ d kvs, H d = some (.dK kvs) → DK A kvs s.ranks → Cap T A m R H v d (fun l => ({ s with ranks := l } : FS t)) → Q (.ref d) H) : FldV K "ranks" v H Q := by
  obtain ⟨p, dx, dr, de, da, db, rfl, h2, ⟨kr, h3, h4⟩, ⟨ke, h5, h6⟩, h7, h8⟩ := h
  refine ⟨p, _, dx, _, _, rfl, S.second _ _ h2, kl.cl, kl.ranks, lk_ranks, k dr kr (S.second _ _ h3) h4 fun kvs' l' hk => ⟨_, S.wr h3, p, dx, dr, de, da, db, rfl, ?_, ⟨kvs', upd_same, hk⟩, ⟨ke, ?_, h6⟩, h7, arr_upd h8 fun ht => ?_⟩⟩
  · rw [upd_ne (ins_ne h2 h3)]
    exact h2
  · rw [upd_ne h7.symm]
    exact h5
  · subst ht
    exact ⟨h8.2.2.2.1, h8.2.2.2.2.2.1⟩
theorem f_edges (kl : Kl K (T.cls t) t) (S : St H (A :: m :: R)) (h : Ob.isAt T A m v s) (k : ∀ d kvs, H d = some (.dK kvs) → DK A kvs s.edges → Cap T A m R H v d (fun l => ({ s with edges := l } : FS t)) → Q (.ref d) H) : FldV K "edges" v H Q := by
  obtain ⟨p, dx, dr, de, da, db, rfl, h2, ⟨kr, h3, h4⟩, ⟨ke, h5, h6⟩, h7, h8⟩ := h
  refine ⟨p, _, dx, _, _, rfl, S.second _ _ h2, kl.cl, kl.edges, lk_edges, k de ke (S.second _ _ h5) h6 fun kvs' l' hk => ⟨_, S.wr h5, p, dx, dr, de, da, db, rfl, ?_, ⟨kr, ?_, h4⟩, ⟨kvs', upd_same, hk⟩, h7, arr_upd h8 fun ht => ?_⟩⟩
  · rw [upd_ne (ins_ne h2 h5)]
    exact h2
  · rw [upd_ne h7]
    exact h3
  · subst ht
    exact ⟨h8.2.2.2.2.1, h8.2.2.2.2.2.2⟩
theorem f_ahead (kl : Kl K (T.cls true) true) (S : St H (A :: m :: R)) (h : Ob.isAt T A m v sf) (k : ∀ d kvs, H d = some (.dK kvs) → DK A kvs sf.ahead → Cap T A m R H v d (fun l => ({ sf with ahead := l } : FS true)) → Q (.ref d) H) : FldV K "ahead" v H Q := by
  obtain ⟨p, dx, dr, de, da, db, rfl, h2, ⟨kr, h3, h4⟩, ⟨ke, h5, h6⟩, h7, ⟨ka, e1, e2⟩, ⟨kb, e3, e4⟩, n1, n2, n3, n4, n5⟩ := h
  refine ⟨p, _, dx, _, _, rfl, S.second _ _ h2, kl.cl, kl.ahead rfl, lk_ahead, k da ka (S.second _ _ e1) e2 fun kvs' l' hk => ⟨_, S.wr e1, p, dx, dr, de, da, db, rfl, ?_, ⟨kr, ?_, h4⟩, ⟨ke, ?_, h6⟩, h7, ⟨kvs', upd_same, hk⟩, ⟨kb, ?_, e4⟩, n1, n2, n3, n4, n5⟩⟩
  · rw [upd_ne (ins_ne h2 e1)]
    exact h2
  · rw [upd_ne n2.symm]
    exact h3
  · rw [upd_ne n3.symm]
    exact h5
  · rw [upd_ne n1.symm]
    exact e3
theorem f_behind (kl : Kl K (T.cls true) true) (S : St H (A :: m :: R)) (h : Ob.isAt T A m v sf) (k : ∀ d kvs, H d = some (.dK kvs) → DK A kvs sf.behind → Cap T A m R H v d (fun l => ({ sf with behind := l } : FS true)) → Q (.ref d) H) : FldV K "behind" v H Q := by
  obtain ⟨p, dx, dr, de, da, db, rfl, h2, ⟨kr, h3, h4⟩, ⟨ke, h5, h6⟩, h7, ⟨ka, e1, e2⟩, ⟨kb, e3, e4⟩, n1, n2, n3, n4, n5⟩ := h
  refine ⟨p, _, dx, _, _, rfl, S.second _ _ h2, kl.cl, kl.behind rfl, lk_behind, k db kb (S.second _ _ e3) e4 fun kvs' l' hk => ⟨_, S.wr e3, p, dx, dr, de, da, db, rfl, ?_, ⟨kr, ?_, h4⟩, ⟨ke, ?_, h6⟩, h7, ⟨ka, ?_, e2⟩, ⟨kvs', upd_same, hk⟩, n1, n2, n3, n4, n5⟩⟩
  · rw [upd_ne (ins_ne h2 e3)]
    exact h2
  · rw [upd_ne n4.symm]
    exact h3
  · rw [upd_ne n5.symm]
    exact h5
  · rw [upd_ne n1]
    exact e1
theorem f_after (kl : Kl K (T.cls t) t) (S : St H (A :: m :: R)) (h : Ob.isAt T A m v s) (k : Q (.int s.after) H) : FldV K "after" v H Q := by
  obtain ⟨p, dx, dr, de, da, db, rfl, h2, _⟩ := h
  exact ⟨p, _, dx, _, _, rfl, S.second _ _ h2, kl.cl, kl.after, lk_after, k⟩
theorem f_setAfter {n : Int} {N : Hp → Prop} (kl : Kl K (T.cls t) t) (S : St H (A :: m :: R)) (h : Ob.isAt T A m v s) (k : ∀ m' H', St H' (A :: m' :: R) → Ob.isAt T A m' v ({ s with after := n } : FS t) → N H') : FldS K "after" (.int n) v H N := by
  obtain ⟨p, dx, dr, de, da, db, rfl, h2, ⟨kr, h3, h4⟩, ⟨ke, h5, h6⟩, h7, h8⟩ := h
  refine ⟨p, _, dx, _, rfl, S.second _ _ h2, kl.cl, kl.after, fl_len, k _ _ (S.wr h2) ⟨p, dx, dr, de, da, db, rfl, ?_, ⟨kr, ?_, h4⟩, ⟨ke, ?_, h6⟩, h7, arr_upd h8 fun ht => ?_⟩⟩
  · rw [upd_same, put_after]
  · rw [upd_ne (ins_ne h2 h3).symm]
    exact h3
  · rw [upd_ne (ins_ne h2 h5).symm]
    exact h5
  · subst ht
    obtain ⟨⟨ka, e1, _⟩, ⟨kb, e2, _⟩, _⟩ := h8
    exact ⟨(ins_ne h2 e1).symm, (ins_ne h2 e2).symm⟩
theorem fl_no {t : Bool} {dr de : Addr} {n : Int} {da db : Addr} {x : Str} (h : (["ranks", "edges", "after", "ahead", "behind"] : List Str).all (fun y => !(x == y)) = true) : (flds t dr de n da db).lookup x = none := by
  simp only [List.all_cons, List.all_nil, Bool.and_true, Bool.and_eq_true, Bool.not_eq_true'] at h
  obtain ⟨h1, h2, h3, h4, h5⟩ := h
  cases t with
  | false => simp only [flds, List.lookup, h1, h2, h3]
  | true => simp only [flds, List.lookup, h1, h2, h3, h4, h5]
theorem f_met {x : Str} {P : Prop} (S : St H (A :: m :: R)) (h : Ob.isAt T A m v s) (hx : (["ranks", "edges", "after", "ahead", "behind"] : List Str).all (fun y => !(x == y)) = true) (k : P) : MetV (T.cls t) x v H P := by
  obtain ⟨p, dx, dr, de, da, db, rfl, h2, _⟩ := h
  exact ⟨p, dx, _, rfl, S.second _ _ h2, fl_no hx, k⟩
end
end SB

namespace SB
open PySem PySem.Spec PyProof.Rows L2 Res
/-! ## while, with fuel -/
def whileM {ω β σT : Type} (test : σT → Res ω Bool) (body : σT → Res ω (Fl β σT)) : Nat → σT → Res ω (Fl β σT)
  | 0, _ => .bad
  | n + 1, s => bind (test s) fun b => if b = true then bind (body s) fun r => (match r with
      | .next s' => whileM test body n s'
      | .ret y => .ok (.ret y)) else .ok (.next s)
@[irreducible] def fuel : Nat := 100000
section
variable {ω β β' γ σT α : Type} [Rep α] {A H : Hp} {R : List Hp} {Qr : γ → Prop} {Er : Exn → ω → Prop} {xs : List α} {K : PySem.W.Frag} {v : V}
theorem c_while {σ : L2.St} {tc : TT} {tu : TS} {D : Ends} {s0 : σT} {test : σT → Res ω Bool} {body : σT → Res ω (Fl β' σT)} {f : Fl β' σT → Res ω γ} {n : Nat} (Rel : Hp → L2.St → List Hp → σT → Prop)
    (S : St H (A :: R)) (h0 : Rel A σ R s0) (hm : (bind (whileM test body n s0) f).wp Qr Er)
    (step : ∀ A' H' σ' R' s (C : Bool → Prop) (P : Bool → Hp → Prop), Same A A' → St H' (A' :: R') → Rel A' σ' R' s →
      (∀ b A'' H'' R'', Same A A'' → St H'' (A'' :: R'') → Rel A'' σ' R'' s → C b → P b H'') → (test s).wp C Er → tc σ' H' P)
    (turn : ∀ A' H' σ' R' s (C : σT → Prop) (N : L2.St → Hp → Prop), Same A A' → St H' (A' :: R') → Rel A' σ' R' s →
      (∀ A'' H'' σ'' R'' s', Same A A'' → St H'' (A'' :: R'') → Rel A'' σ'' R'' s' → C s' → N σ'' H'') →
      (body s).wp (fun r => match r with | .next s' => C s' | .ret y => (f (.ret y)).wp Qr Er) Er → tu { D with nx := N, ct := N, bk := D.nx } σ' H')
    (done : ∀ A' H' σ' R' s, Same A A' → St H' (A' :: R') → Rel A' σ' R' s → (f (.next s)).wp Qr Er → D.nx σ' H') : tWhile tc tu D σ H := by
  refine ⟨fun m σ' H' => ∃ A' R' s, Same A A' ∧ St H' (A' :: R') ∧ Rel A' σ' R' s ∧ (bind (whileM test body m s) f).wp Qr Er, ⟨n, A, R, s0, Same.refl _, S, h0, hm⟩, ?_⟩
  rintro m σ' H' ⟨A', R', s, e, S', hr, hw⟩
  cases m with
  | zero => exact hw.elim
  | succ m =>
    unfold whileM at hw
    have hw : (bind (test s) fun b => bind (if b = true then bind (body s) fun r => (match r with
      | .next s' => whileM test body m s'
      | .ret y => .ok (.ret y)) else .ok (.next s)) f).wp Qr Er := by
      cases ht : test s with
      | ok b =>
        rw [ht] at hw
        exact hw
      | ex e w =>
        rw [ht] at hw
        exact hw
      | bad =>
        rw [ht] at hw
        exact hw
    refine step A' H' σ' R' s (fun b => (bind (if b = true then bind (body s) fun r => (match r with
      | .next s' => whileM test body m s'
      | .ret y => .ok (.ret y)) else .ok (.next s)) f).wp Qr Er) _ e S' hr (fun b A'' H'' R'' e' S'' hr' hc => ?_) (wp_bind hw)
    cases b with
    | false => exact done A'' H'' σ' R'' s e' S'' hr' hc
    | true =>
      show ∃ N, _
      refine ⟨fun σ2 H2 => ∃ A2 R2 s', Same A A2 ∧ St H2 (A2 :: R2) ∧ Rel A2 σ2 R2 s' ∧ (bind (whileM test body m s') f).wp Qr Er, fun σ2 H2 h => ⟨m, Nat.lt_succ_self m, h⟩, ?_⟩
      refine turn A'' H'' σ' R'' s (fun s' => (bind (whileM test body m s') f).wp Qr Er) _ e' S'' hr' (fun A3 H3 σ3 R3 s' e3 S3 hr3 hc3 => ⟨A3, R3, s', e3, S3, hr3, hc3⟩) ?_
      have hc : (bind (bind (body s) fun r => (match r with
        | .next s' => whileM test body m s'
        | .ret y => .ok (.ret y))) f).wp Qr Er := hc
      cases hb : body s with
      | ok r =>
        rw [hb] at hc
        cases r with
        | next s' => exact hc
        | ret y => exact hc
      | ex e w =>
        rw [hb] at hc
        exact hc
      | bad =>
        rw [hb] at hc
        exact hc
/-- a value whose ways meet -/
theorem q_val {te : TE} {P : VK} {σ : L2.St} {m : Res ω α} {f : α → Res ω γ} (hm : (bind m f).wp Qr Er)
    (h1 : ∀ Qv : VK, (∀ x w A' H', Same A A' → St H' (A' :: R) → Is A' w x → (Res.ok x : Res ω α).wp (fun x => (f x).wp Qr Er) Er → Qv w H') → m.wp (fun x => (f x).wp Qr Er) Er → te σ H Qv)
    (h2 : ∀ x w A' H', Same A A' → St H' (A' :: R) → Is A' w x → (f x).wp Qr Er → P w H') : te σ H P := h1 P (fun x w A' H' e S hw h => h2 x w A' H' e S hw h) (wp_bind hm)
theorem c_ife {tt : TT} {ta tb : TE} {σ : L2.St} {Q : VK} (h : tt σ H fun c H1 => if c = true then ta σ H1 Q else tb σ H1 Q) : tIf tt ta tb σ H Q := h
/-- for a, b in a frozen list of pairs -/
theorem c_forP {σ : L2.St} {tl : TE} {tu : TS} {j1 j2 : Nat} {D : Ends} {s0 : σT} {ps : List (α × β)} [Rep β] {body : α × β → σT → Res ω (Fl β' σT)} {f : Fl β' σT → Res ω γ} (Rel : Hp → L2.St → List Hp → σT → Prop)
    (S : St H (A :: R)) (htl : ∀ Q' : VK, Q' v H → tl σ H Q') (hx : Is A v ps) (h0 : Rel A σ R s0) (hm : (bind (forM body ps s0) f).wp Qr Er)
    (step : ∀ x w1 w2 A' H' σ' R' s (C : σT → Prop) (N : L2.St → Hp → Prop), x ∈ ps → Same A A' → St H' (A' :: R') → Is A' w1 x.1 → Is A' w2 x.2 → Rel A' σ' R' s →
      (∀ A'' H'' σ'' R'' s', Same A A'' → St H'' (A'' :: R'') → Rel A'' σ'' R'' s' → C s' → N σ'' H'') →
      (body x s).wp (fun r => match r with | .next s' => C s' | .ret y => (f (.ret y)).wp Qr Er) Er → tu { D with nx := N, ct := N, bk := D.nx } ((σ'.set j1 (some w1)).set j2 (some w2)) H')
    (done : ∀ A' H' σ' R' s, Same A A' → St H' (A' :: R') → Rel A' σ' R' s → (f (.next s)).wp Qr Er → D.nx σ' H') : tFor (iList K tl) (gTup K 2 (gCons (gName j1) (gCons (gName j2) gNil))) tu D σ H := by
  obtain ⟨a, us, rfl, h1, h2⟩ := hx
  refine htl _ ⟨a, rfl, ⟨us, SqL.of (S.1 _ _ h1)⟩, ?_⟩
  refine for_list (xs := us) (fun i σ' H' => ∃ A' R' s, Same A A' ∧ St H' (A' :: R') ∧ Rel A' σ' R' s ∧ (bind (forM body (ps.drop i) s) f).wp Qr Er) ⟨A, R, s0, Same.refl _, S, h0, hm⟩ (fun i σ' H' _ ⟨A', R', s, e, S', _⟩ => SqL.of (S'.1 _ _ (e _ _ h1))) (fun i w σ' H' hi ⟨A', R', s, e, S', hr, hw⟩ => ?_) (fun σ' H' ⟨A', R', s, e, S', hr, hw⟩ => ?_)
  · obtain ⟨x, hxi, hxw⟩ := h2.1.getV hi
    have ed : ps.drop i = x :: ps.drop (i + 1) := by
      obtain ⟨hlt, hg⟩ := List.getElem?_eq_some_iff.mp hxi
      rw [← hg]
      exact List.drop_eq_getElem_cons hlt
    rw [ed] at hw
    obtain ⟨b, u1, u2, rfl, k1, k2, k3⟩ := Rep.mono e hxw
    refine ⟨b, [u1, u2], rfl, SqT.of (S'.1 _ _ k1), rfl, u1, [u2], rfl, u2, [], rfl, rfl, ?_⟩
    refine step x u1 u2 A' H' σ' R' s (fun s' => (bind (forM body (ps.drop (i + 1)) s') f).wp Qr Er) _ (List.mem_of_getElem? hxi) e S' k2 k3 hr (fun A'' H'' σ'' R'' s' e' S'' hr' hc => ⟨A'', R'', s', e', S'', hr', hc⟩) ?_
    unfold forM at hw
    cases hb : body x s with
    | ok r =>
      rw [hb] at hw
      cases r with
      | next s' => exact hw
      | ret y => exact hw
    | ex e w =>
      rw [hb] at hw
      exact hw
    | bad =>
      rw [hb] at hw
      exact hw
  · rw [h2.len, List.drop_length] at hw
    exact done A' H' σ' R' s e S' hr hw
/-- a list with its places -/
def enumF {α : Type} : Int → List α → List (Int × α)
  | _, [] => []
  | k, x :: xs => (k, x) :: enumF (k + 1) xs
def enumL {α : Type} (xs : List α) : List (Int × α) := enumF 0 xs
theorem enumF_get {α : Type} : ∀ {xs : List α} {i : Nat} {x : α} (k : Int), xs[i]? = some x → (enumF k xs)[i]? = some (k + (i : Int), x)
  | [], _, _, _, h => by cases h
  | y :: xs, 0, x, k, h => by
    cases h
    show some (k, _) = some (k + ((0 : Nat) : Int), _)
    rw [show k + ((0 : Nat) : Int) = k by omega]
  | y :: xs, i + 1, x, k, h => by
    have := enumF_get (k + 1) (show xs[i]? = some x from h)
    show (enumF (k + 1) xs)[i]? = _
    rw [this, show k + 1 + (i : Int) = k + ((i + 1 : Nat) : Int) by omega]
theorem enum_get {α : Type} {xs : List α} {i : Nat} {x : α} (h : xs[i]? = some x) : (enumL xs)[i]? = some ((i : Int), x) := by
  have := enumF_get 0 h
  rw [show (0 : Int) + (i : Int) = (i : Int) by omega] at this
  exact this
theorem enumF_len {α : Type} : ∀ (k : Int) (xs : List α), (enumF k xs).length = xs.length
  | _, [] => rfl
  | k, x :: xs => by
    show (enumF (k + 1) xs).length + 1 = xs.length + 1
    rw [enumF_len]
theorem enum_len {α : Type} (xs : List α) : (enumL xs).length = xs.length := enumF_len 0 xs
theorem c_forE {σ : L2.St} {ta : TA} {tu : TS} {j1 j2 : Nat} {D : Ends} {s0 : σT} {body : Int × α → σT → Res ω (Fl β' σT)} {f : Fl β' σT → Res ω γ} (Rel : Hp → L2.St → List Hp → σT → Prop)
    (S : St H (A :: R)) (hta : ∀ Q' : List V → Hp → Prop, Q' [v] H → ta σ H Q') (hx : Is A v xs) (h0 : Rel A σ R s0) (hm : (bind (forM body (enumL xs) s0) f).wp Qr Er)
    (step : ∀ x w2 A' H' σ' R' s (C : σT → Prop) (N : L2.St → Hp → Prop), x ∈ enumL xs → Same A A' → St H' (A' :: R') → Is A' w2 x.2 → Rel A' σ' R' s →
      (∀ A'' H'' σ'' R'' s', Same A A'' → St H'' (A'' :: R'') → Rel A'' σ'' R'' s' → C s' → N σ'' H'') →
      (body x s).wp (fun r => match r with | .next s' => C s' | .ret y => (f (.ret y)).wp Qr Er) Er → tu { D with nx := N, ct := N, bk := D.nx } ((σ'.set j1 (some (.int x.1))).set j2 (some w2)) H')
    (done : ∀ A' H' σ' R' s, Same A A' → St H' (A' :: R') → Rel A' σ' R' s → (f (.next s)).wp Qr Er → D.nx σ' H') : tFor (iEnum K ta) (gTup K 2 (gCons (gName j1) (gCons (gName j2) gNil))) tu D σ H := by
  obtain ⟨a, us, rfl, h1, h2⟩ := hx
  refine hta _ ⟨a, us, rfl, SqL.of (S.1 _ _ h1), ?_⟩
  refine ⟨fun i m σ' H' => i + m = xs.length ∧ ∃ A' R' s, Same A A' ∧ St H' (A' :: R') ∧ Rel A' σ' R' s ∧ (bind (forM body ((enumL xs).drop i) s) f).wp Qr Er, ⟨xs.length, by omega, A, R, s0, Same.refl _, S, h0, hm⟩, ?_⟩
  rintro i m σ' H' ⟨him, A', R', s, e, S', hr, hw⟩
  have hq : SqL K H' a us := SqL.of (S'.1 _ _ (e _ _ h1))
  by_cases hi : i < xs.length
  · have hxi : xs[i]? = some xs[i] := List.getElem?_eq_getElem hi
    obtain ⟨u, hu, hxu⟩ := h2.1.get hxi
    refine .inr ⟨⟨us, u, hq, hu⟩, fun σ2 H2 => ∃ A' R' s, Same A A' ∧ St H2 (A' :: R') ∧ Rel A' σ2 R' s ∧ (bind (forM body ((enumL xs).drop (i + 1)) s) f).wp Qr Er, fun σ2 H2 h => ⟨m - 1, by omega, by omega, h⟩, ?_⟩
    rintro y H2 ⟨Tp, z, rfl, hT, rfl, hz⟩
    have ez : z = u := Option.some.inj ((hz us hq).symm.trans hu)
    subst ez
    have S2 := S'.new (o := .tup [.int (i : Nat), z]) hT
    have hT' : A' Tp = none := S'.1.free hT
    have e2 := same_upd (o := .tup [.int (i : Nat), z]) hT'
    refine ⟨Tp, _, rfl, SqT.of upd_same, rfl, _, [z], rfl, z, [], rfl, rfl, ?_⟩
    have hg := enum_get hxi
    have ed : (enumL xs).drop i = ((i : Int), xs[i]) :: (enumL xs).drop (i + 1) := by
      obtain ⟨hlt, hg'⟩ := List.getElem?_eq_some_iff.mp hg
      rw [← hg']
      exact List.drop_eq_getElem_cons hlt
    rw [ed] at hw
    -- the relation holds still: the tuple is dropped
    refine step ((i : Int), xs[i]) z A' (upd H' Tp (.tup [.int (i : Nat), z])) σ' R' s (fun s' => (bind (forM body ((enumL xs).drop (i + 1)) s') f).wp Qr Er) _ (List.mem_of_getElem? hg) e (S'.grow (same_upd hT)) (Rep.mono e hxu) hr (fun A'' H'' σ'' R'' s' e' S'' hr' hc => ⟨A'', R'', s', e', S'', hr', hc⟩) ?_
    unfold forM at hw
    cases hb : body ((i : Int), xs[i]) s with
    | ok r =>
      rw [hb] at hw
      cases r with
      | next s' => exact hw
      | ret y => exact hw
    | ex e w =>
      rw [hb] at hw
      exact hw
    | bad =>
      rw [hb] at hw
      exact hw
  · refine .inl ⟨⟨us, hq, by rw [h2.len]; omega⟩, ?_⟩
    have ei : (enumL xs).drop i = [] := List.drop_eq_nil_of_le (by rw [enum_len]; omega)
    rw [ei] at hw
    exact done A' H' σ' R' s e S' hr hw
end
section
variable {K : PySem.W.Frag} {tl : TE} {ta : TA} {tu tz : TS} {g : TG} {D : Ends} {σ : L2.St} {H : Hp} {c : TT} {to ti te : TE} {tget : V → V → Hp → VK → Prop} {tip : TIp} {tset : TSet}
theorem q_forE (h : ta σ H fun us H1 => tFor (iEnum K (tArgs us)) g tu { D with nx := tz D } σ H1) : tSeq (tFor (iEnum K ta) g tu) tz D σ H := h
theorem s_forE (h : ta σ H fun us H1 => tFor (iEnum K (tArgs us)) g tu D σ H1) : tFor (iEnum K ta) g tu D σ H := h
theorem q_while (h : tWhile c tu { D with nx := tz D } σ H) : tSeq (tWhile c tu) tz D σ H := h
theorem q_augS (h : to σ H fun o H1 => ti σ H1 fun i H2 => tget o i H2 fun x H3 => te σ H3 fun y H4 => tip x y H4 fun z H5 => tset o i z H5 fun H6 => tz D σ H6) : tSeq (tAugS to ti te tget tip tset) tz D σ H := h
theorem s_augS (h : to σ H fun o H1 => ti σ H1 fun i H2 => tget o i H2 fun x H3 => te σ H3 fun y H4 => tip x y H4 fun z H5 => tset o i z H5 fun H6 => D.nx σ H6) : tAugS to ti te tget tip tset D σ H := h
end
/-- a method that is called through an object -/
structure MGlob (P : Program) (w : World) (K : PySem.W.Frag) (mg : Str → Option Value) (base : Heap) (X : CXT) (k : Nat) (C : Addr) (x : Str) (ps : List Str) (sp : Sp) (f : Addr) (fd : FuncData) : Prop where
  ok : FnOk P w K mg base X k f fd ps sp
  mt : Meth K C x f
  b : Binds K fd ps []
/-- a class that is made without arguments -/
structure NGlob (P : Program) (w : World) (K : PySem.W.Frag) (mg : Str → Option Value) (base : Heap) (k : Nat) (C : Addr) (x : Str) (sp : Sp) (f : Addr) (fd : FuncData) : Prop where
  ok : FnOk P w K mg base CX0 k f fd ["self"] sp
  g : mg x = some (.ref C)
  made : Mk K C f
  b : Binds K fd ["self"] []
/-! ## a new object -/
def sp_new (t : Bool) (T : Cs) (K : PySem.W.Frag) : Sp := fun vs H Q _ => ∃ (A : Hp) (R : List Hp) (p dx : Addr), vs = [.ref p] ∧ St H (A :: one p (.ins (T.cls t) dx []) :: R) ∧
  ∀ m H', St H' (A :: m :: R) → Ob.isAt T A m (.ref p) (FS.mk [] [] 0 [] [] : FS t) → Q .non H'
def emptyF (t : Bool) : FS t := FS.mk [] [] 0 [] []
theorem c_new {t : Bool} {T : Cs} {K : PySem.W.Frag} {A H : Hp} {R : List Hp} {E : XK} {σ : L2.St} {Q : VK} (S : St H (A :: R)) (k : ∀ p m H', St H' (A :: m :: R) → Ob.isAt T A m (.ref p) (emptyF t) → Q (.ref p) H') : tMake (T.cls t) (sp_new t T K) [] E tNil σ H Q := by
  intro x dx hx hdx hne
  have S1 : St (upd H dx (.own x)) (A :: R) := S.grow (same_upd hdx)
  refine ⟨A, R, x, dx, rfl, S1.newM (by rw [upd_ne hne.symm]; exact hx), fun m H' S' h => ⟨rfl, k x m H' S' h⟩⟩
def rd_Body_init (T : Cs) (K : PySem.W.Frag) (E : XK) : TS := tSeq (sFld K (tVar 0) tDNewK "ranks") (tSeq (sFld K (tVar 0) tDNewK "edges") (sFld K (tVar 0) (tC (.int 0)) "after"))
theorem wk_Body_init {T : Cs} {K : PySem.W.Frag} {vs : List V} {H : Hp} {Q : VK} {E : XK} (kl : Kl K (T.cls false) false) (h : sp_new false T K vs H Q E) : rd_Body_init T K E { nx := fun _ H' => Q .non H', rt := Q } (L2.start ["self"] vs) H := by
  obtain ⟨A, R, p, dx, rfl, S, h⟩ := h
  have hp := S.second _ _ one_same
  show rd_Body_init T K E _ [some (.ref p)] H
  unfold rd_Body_init
  refine q_seq fun dr hdr => ?_
  have npr : p ≠ dr := ne_of_none hp hdr
  refine ⟨_, rfl, p, _, dx, [], rfl, by rw [upd_ne npr]; exact hp, kl.cl, kl.ranks, (by show 0 < 1000; decide), ?_⟩
  have S1 := (S.newM (o := .dK []) hdr).pick 1 (Nat.le_of_ble_eq_true rfl)
  have S2 : St (upd (upd H dr (.dK [])) p (.ins (T.cls false) dx (putF "ranks" (.ref dr) []))) (A :: one p (.ins (T.cls false) dx (putF "ranks" (.ref dr) [])) :: one dr (.dK []) :: R) := S1.wr1
  generalize upd (upd H dr (.dK [])) p (.ins (T.cls false) dx (putF "ranks" (.ref dr) [])) = H2 at S2 ⊢
  refine q_seq fun de hde => ?_
  have hp2 := S2.second _ _ one_same
  have npe : p ≠ de := ne_of_none hp2 hde
  refine ⟨_, rfl, p, _, dx, _, rfl, by rw [upd_ne npe]; exact hp2, kl.cl, kl.edges, (by show 1 < 1000; decide), ?_⟩
  have S3 := (S2.newM (o := .dK []) hde).pick 1 (Nat.le_of_ble_eq_true rfl)
  have S4 : St (upd (upd H2 de (.dK [])) p (.ins (T.cls false) dx (putF "edges" (.ref de) (putF "ranks" (.ref dr) [])))) (A :: one p (.ins (T.cls false) dx (putF "edges" (.ref de) (putF "ranks" (.ref dr) []))) :: one de (.dK []) :: one dr (.dK []) :: R) := S3.wr1
  generalize upd (upd H2 de (.dK [])) p (.ins (T.cls false) dx (putF "edges" (.ref de) (putF "ranks" (.ref dr) []))) = H4 at S4 ⊢
  have hp4 := S4.second _ _ one_same
  refine ⟨_, rfl, p, _, dx, _, rfl, hp4, kl.cl, kl.after, (by show 2 < 1000; decide), ?_⟩
  have S5 : St (upd H4 p (.ins (T.cls false) dx (flds false dr de 0 dr de))) (A :: one p (.ins (T.cls false) dx (flds false dr de 0 dr de)) :: one de (.dK []) :: one dr (.dK []) :: R) := S4.wr1
  have d1 : dr ≠ de := by
    intro z
    subst z
    exact S5.2.2.2.2.2.1 _ (List.mem_cons_self) _ _ _ one_same one_same
  have dp1 : p ≠ de := by
    intro z
    subst z
    exact S5.2.2.2.1 _ (List.mem_cons_self) _ _ _ one_same one_same
  have dp2 : p ≠ dr := by
    intro z
    subst z
    exact S5.2.2.2.1 _ (List.mem_cons_of_mem _ List.mem_cons_self) _ _ _ one_same one_same
  have S6 : St (upd H4 p (.ins (T.cls false) dx (flds false dr de 0 dr de))) (A :: join (join (one p (.ins (T.cls false) dx (flds false dr de 0 dr de))) (one de (.dK []))) (one dr (.dK [])) :: R) := S5.join2.join2
  refine h _ _ S6 ⟨p, dx, dr, de, dr, de, rfl, ?_, ⟨[], ?_, trivial⟩, ⟨[], ?_, trivial⟩, d1, trivial⟩
  · exact same_join_l _ _ (same_join_l _ _ one_same)
  · refine same_join_r (fun b o u e e' => ?_) _ _ one_same
    obtain ⟨rfl, _⟩ := one_some e'
    rcases join_some e with e | e
    · exact dp2 (one_some e).1.symm
    · exact d1 (one_some e).1
  · refine same_join_l _ _ (same_join_r (fun b o u e e' => ?_) _ _ one_same)
    obtain ⟨rfl, _⟩ := one_some e'
    exact dp1 (one_some e).1.symm
end SB
namespace SB
open PySem PySem.Spec PyProof.Rows L2 Res
/-! ## pairs or none -/
section
variable {α β : Type} [Rep α] [Rep β] {A : Hp} {v : V} {ws : List V}
theorem opt_some {x : α × β} (h : Is A v x) : Is A v (some x) := by
  refine ⟨?_, h⟩
  obtain ⟨a, _, _, rfl, _⟩ := h
  exact fun z => by cases z
theorem all2_some : ∀ {ws : List V} {xs : List (α × β)}, All2 (Rep.is A) ws xs → All2 (Rep.is A) ws (xs.map some)
  | [], [], _ => trivial
  | _ :: _, _ :: _, h => ⟨opt_some h.1, all2_some h.2⟩
  | [], _ :: _, h => h.elim
  | _ :: _, [], h => h.elim
theorem ol_some {xs : List (α × β)} (h : OL A ws xs) : OL A ws (xs.map some) := ⟨all2_some h.1, by rw [List.length_map]; exact h.2⟩
theorem is_somes {xs : List (α × β)} (h : Is A v xs) : Is A v (xs.map some) := by
  obtain ⟨a, vs, h1, h2, h3⟩ := h
  exact ⟨a, vs, h1, h2, ol_some h3⟩
end
/-! ## comprehensions over any list that stays -/
section
variable {ω α β γ σT : Type} [Rep α] [Rep β] {A H : Hp} {v : V} {xs : List α} {R : List Hp} {K : PySem.W.Frag} {Q : VK} {Qr : γ → Prop} {Er : Exn → ω → Prop}
theorem c_lcGX {σ : L2.St} {tl : TE} {tt : TT} {te : TE} {j : Nat} {vs : List Nat} {a : Addr} {us : List V} {s0 : σT} {body : α → σT → Res ω (Option β × σT)} {f : List β × σT → Res ω γ} (Rel : Hp → List Hp → σT → Prop)
    (S : St H (A :: R)) (htl : ∀ Q' : VK, Q' (.ref a) H → tl σ H Q') (h2 : OL A us xs) (hsrc : ∀ A' R' s, Same A A' → Rel A' R' s → A' a = some (.lst us) ∨ ∃ n ∈ R', n a = some (.lst us)) (h0 : Rel A R s0) (hm : (bind (compG body xs s0) f).wp Qr Er) (hw : ∀ x, wipe ((wipe σ vs).set j (some x)) vs = wipe σ vs)
    (step : StepG A tt te (fun w => (wipe σ vs).set j (some w)) body Rel (fun w x A' => x ∈ xs ∧ Is A' w x))
    (k : ∀ p A' H' R' ws y, (f y).wp Qr Er → Same A A' → St H' (A' :: one p (.lst ws) :: R') → Rel A' R' y.2 → OL A' ws y.1 → Q (.ref p) H') : tLc (iList K tl) (gName j) tt te vs σ H Q := by
  have hat : ∀ {A' H' R' s n}, Same A A' → St H' (A' :: n :: R') → Rel A' R' s → H' a = some (.lst us) := fun {A' H' R' s n} e S' hr => by
    rcases hsrc A' R' s e hr with z | ⟨q, hq, z⟩
    · exact S'.1 _ _ z
    · exact St.mem S'.2.2.2.2 q hq _ _ z
  have hat0 : H a = some (.lst us) := by
    rcases hsrc A R s0 (Same.refl _) h0 with z | ⟨q, hq, z⟩
    · exact S.1 _ _ z
    · exact St.mem S.2.2 q hq _ _ z
  refine htl _ ⟨a, rfl, ⟨us, SqL.of hat0⟩, fun Dl hD => ?_⟩
  refine lc_list (xs := us) (CgP A Rel body f Qr Er xs Dl) ⟨A, R, [], [], s0, Same.refl _, S.newM hD, h0, trivial, Nat.le_refl _, hm⟩ (fun i H' _ p => ?_) (fun i w H' hi p => ?_) (fun H' p => ?_)
  · obtain ⟨A', R', ws, ys, s, e, S', hr, _⟩ := p
    exact SqL.of (hat e S' hr)
  · obtain ⟨x, hxi, hxw⟩ := h2.1.getV hi
    have hlt : i < xs.length := (List.getElem?_eq_some_iff.mp hxi).1
    exact ⟨hw w, cg_turn step hxi (Nat.lt_of_lt_of_le hlt h2.2) (fun A' e => ⟨List.mem_of_getElem? hxi, Rep.mono e hxw⟩) p⟩
  · obtain ⟨A', R', ws, ys, s, e, S', hr, hv, hl, hc⟩ := p
    rw [h2.len, List.drop_length] at hc
    have hc : (f (ys ++ [], s)).wp Qr Er := hc
    rw [List.append_nil] at hc
    exact k Dl A' H' R' ws (ys, s) hc e S' hr ⟨hv, by rw [h2.len] at hl; exact Nat.le_trans hl h2.2⟩
variable {α2 : Type} [Rep α2] {ps : List (α × α2)}
/-- the step where the target is a pair -/
def StepP (A : Hp) (tt : TT) (te : TE) (σ2 : V → V → L2.St) (body : α × α2 → σT → Res ω (Option β × σT)) (Rel : Hp → List Hp → σT → Prop) (xs : List (α × α2)) : Prop :=
  ∀ x w1 w2 A' H' R' s n (C : Option β → σT → Prop) (K1 : VK) (K0 : Hp → Prop), x ∈ xs → Is A' w1 x.1 → Is A' w2 x.2 → Same A A' → St H' (A' :: n :: R') → Rel A' R' s →
    (∀ A'' H'' R'' y u s', Same A' A'' → St H'' (A'' :: n :: R'') → Rel A'' R'' s' → Is A'' u y → C (some y) s' → K1 u H'') →
    (∀ A'' H'' R'' s', Same A' A'' → St H'' (A'' :: n :: R'') → Rel A'' R'' s' → C none s' → K0 H'') →
    (body x s).wp (fun r => C r.1 r.2) (fun _ _ => False) → tt (σ2 w1 w2) H' (fun b H3 => if b = true then te (σ2 w1 w2) H3 K1 else K0 H3)
theorem c_lcGP {σ : L2.St} {tl : TE} {tt : TT} {te : TE} {j1 j2 : Nat} {vs : List Nat} {a : Addr} {us : List V} {s0 : σT} {body : α × α2 → σT → Res ω (Option β × σT)} {f : List β × σT → Res ω γ} (Rel : Hp → List Hp → σT → Prop)
    (S : St H (A :: R)) (htl : ∀ Q' : VK, Q' (.ref a) H → tl σ H Q') (h2 : OL A us ps) (hsrc : ∀ A' R' s, Same A A' → Rel A' R' s → A' a = some (.lst us) ∨ ∃ n ∈ R', n a = some (.lst us)) (h0 : Rel A R s0) (hm : (bind (compG body ps s0) f).wp Qr Er)
    (hw : ∀ x y, wipe (((wipe σ vs).set j1 (some x)).set j2 (some y)) vs = wipe σ vs)
    (step : StepP A tt te (fun w1 w2 => ((wipe σ vs).set j1 (some w1)).set j2 (some w2)) body Rel ps)
    (k : ∀ p A' H' R' ws y, (f y).wp Qr Er → Same A A' → St H' (A' :: one p (.lst ws) :: R') → Rel A' R' y.2 → OL A' ws y.1 → Q (.ref p) H') : tLc (iList K tl) (gTup K 2 (gCons (gName j1) (gCons (gName j2) gNil))) tt te vs σ H Q := by
  have hat : ∀ {A' H' R' s n}, Same A A' → St H' (A' :: n :: R') → Rel A' R' s → H' a = some (.lst us) := fun {A' H' R' s n} e S' hr => by
    rcases hsrc A' R' s e hr with z | ⟨q, hq, z⟩
    · exact S'.1 _ _ z
    · exact St.mem S'.2.2.2.2 q hq _ _ z
  have hat0 : H a = some (.lst us) := by
    rcases hsrc A R s0 (Same.refl _) h0 with z | ⟨q, hq, z⟩
    · exact S.1 _ _ z
    · exact St.mem S.2.2 q hq _ _ z
  refine htl _ ⟨a, rfl, ⟨us, SqL.of hat0⟩, fun Dl hD => ?_⟩
  refine lc_list (xs := us) (CgP A Rel body f Qr Er ps Dl) ⟨A, R, [], [], s0, Same.refl _, S.newM hD, h0, trivial, Nat.le_refl _, hm⟩ (fun i H' _ p => ?_) (fun i w H' hi p => ?_) (fun H' p => ?_)
  · obtain ⟨A', R', ws, ys, s, e, S', hr, _⟩ := p
    exact SqL.of (hat e S' hr)
  · obtain ⟨x, hxi, hxw⟩ := h2.1.getV hi
    have hlt : i < ps.length := (List.getElem?_eq_some_iff.mp hxi).1
    obtain ⟨b, u1, u2, rfl, k1, k2, k3⟩ := hxw
    obtain ⟨A', R', ws, ys, s, e, S', hr, rest⟩ := id p
    refine ⟨b, [u1, u2], rfl, SqT.of (S'.1 _ _ (e _ _ k1)), rfl, u1, [u2], rfl, u2, [], rfl, rfl, hw u1 u2, ?_⟩
    refine cg_turn (A := A) (σ2 := fun _ => ((wipe σ vs).set j1 (some u1)).set j2 (some u2)) (P := fun _ y A' => y = x ∧ Same A A') (w := .non) (x := x) ?_ hxi (Nat.lt_of_lt_of_le hlt h2.2) (fun A' e => ⟨rfl, e⟩) p
    rintro y _ A1 H1 R1 s1 n1 C K1 K0 ⟨rfl, e1⟩ e2 S1 hr1 hK1 hK0 hb
    exact step y u1 u2 A1 H1 R1 s1 n1 C K1 K0 (List.mem_of_getElem? hxi) (Rep.mono e1 k2) (Rep.mono e1 k3) e2 S1 hr1 hK1 hK0 hb
  · obtain ⟨A', R', ws, ys, s, e, S', hr, hv, hl, hc⟩ := p
    rw [h2.len, List.drop_length] at hc
    have hc : (f (ys ++ [], s)).wp Qr Er := hc
    rw [List.append_nil] at hc
    exact k Dl A' H' R' ws (ys, s) hc e S' hr ⟨hv, by rw [h2.len] at hl; exact Nat.le_trans hl h2.2⟩
theorem c_lcPF {σ : L2.St} {tl : TE} {tt : TT} {te : TE} {j1 j2 : Nat} {vs : List Nat} {s0 : σT} {body : α × α2 → σT → Res ω (Option β × σT)} {f : List β × σT → Res ω γ} (Rel : Hp → List Hp → σT → Prop)
    (S : St H (A :: R)) (htl : ∀ Q' : VK, Q' v H → tl σ H Q') (hx : Is A v ps) (h0 : Rel A R s0) (hm : (bind (compG body ps s0) f).wp Qr Er)
    (hw : ∀ x y, wipe (((wipe σ vs).set j1 (some x)).set j2 (some y)) vs = wipe σ vs)
    (step : StepP A tt te (fun w1 w2 => ((wipe σ vs).set j1 (some w1)).set j2 (some w2)) body Rel ps)
    (k : ∀ p A' H' R' ws y, (f y).wp Qr Er → Same A A' → St H' (A' :: one p (.lst ws) :: R') → Rel A' R' y.2 → OL A' ws y.1 → Q (.ref p) H') : tLc (iList K tl) (gTup K 2 (gCons (gName j1) (gCons (gName j2) gNil))) tt te vs σ H Q := by
  obtain ⟨a, us, rfl, h1, h2⟩ := hx
  exact c_lcGP Rel S htl h2 (fun A' R' s e _ => .inl (e _ _ h1)) h0 hm hw step k
end
/-- a module's name, by its value -/
theorem pe_kc {X : Cx} {x : Str} {v : V} {pos : Pos} (hg : Gl X x) (h : ∃ u, X.mg x = some u ∧ RelV v u) (hd : (x == ("__debug__" : Str)) = false := by decide) : PE X (.Name x pos) (tC v) :=
  match h with
  | ⟨_, hm, r⟩ => pe_glob hg hm r hd
end SB

namespace SB
open PySem PySem.Spec PyProof.Rows L2 Res
/-! ## try with clauses of any kind -/
/-- a clause: the classes that it names, the slot of its name, its suite -/
structure Cla where
  cs : List Value
  slot : Option Nat
  ts : Addr → Value → Option Addr → TS
def inAs (o : Option Nat) (a : Addr) (σ : L2.St) : L2.St := match o with
  | none => σ
  | some i => σ.set i (some (.ref a))
def outAs (o : Option Nat) (σ : L2.St) : L2.St := match o with
  | none => σ
  | some i => σ.set i none
def endAs (o : Option Nat) (D : Ends) : Ends := { nx := fun σ H => D.nx (outAs o σ) H, rt := D.rt, bk := fun σ H => D.bk (outAs o σ) H, ct := fun σ H => D.ct (outAs o σ) H }
def wCl (K : PySem.W.Frag) (Wout : WX) (D : Ends) : List Cla → WX
  | [] => Wout
  | c :: r => fun cls d σ H => ∃ b, PySem.W.exmAny K cls c.cs = some b ∧ (b = true → ∀ a, H a = none → c.ts a cls d (endAs c.slot D) (inAs c.slot a σ) H) ∧ (b = false → wCl K Wout D r cls d σ H)
def SuOk (X : Cx) (body : List Stmt) (ts : Addr → Value → Option Addr → TS) : Prop := ∀ (a : Addr) (oe : Obj) (cls : Value) (d : Option Addr) (pn : List (Addr × Obj)), Zc cls d oe → (∃ vs, oe.data = .fields vs) → PSs (X.suite a ((a, oe) :: pn)) body (ts a cls d)
inductive ClOk (X : Cx) : List ExceptHandler → List Cla → Prop
  | nil : ClOk X [] []
  | one {x : Str} {c : Value} {ts : Addr → Value → Option Addr → TS} {b0 : Stmt} {su : List Stmt} {np q : Pos} {hs : List ExceptHandler} {l : List Cla} (hc : Names X x c) (hsu : SuOk X (b0 :: su) ts) (r : ClOk X hs l) :
      ClOk X (.ExceptHandler (some (.Name x np)) none (b0 :: su) q :: hs) (⟨[c], none, ts⟩ :: l)
  | two {x y : Str} {c e : Value} {ts : Addr → Value → Option Addr → TS} {b0 : Stmt} {su : List Stmt} {np mp tp q : Pos} {kk : Nat} {hs : List ExceptHandler} {l : List Cla} (hc : Names X x c) (he : Names X y e) (hsu : SuOk X (b0 :: su) ts) (r : ClOk X hs l) :
      ClOk X (.ExceptHandler (some (.Tuple [.Name x np, .Name y mp] kk tp)) none (b0 :: su) q :: hs) (⟨[c, e], none, ts⟩ :: l)
  | as {x n : Str} {c : Value} {i : Nat} {ts : Addr → Value → Option Addr → TS} {b0 : Stmt} {su : List Stmt} {np q : Pos} {hs : List ExceptHandler} {l : List Cla} (hN : X.N.Nodup) (hi : X.N[i]? = some n) (hln : X.env.kindOf n = some .local) (hc : Names X x c) (hsu : SuOk X (b0 :: su) ts) (r : ClOk X hs l) :
      ClOk X (.ExceptHandler (some (.Name x np)) (some n) (b0 :: su) q :: hs) (⟨[c], some i, ts⟩ :: l)
/-- an exception at a, seen by this frame, all else as σ and H tell -/
structure Seen (X : Cx) (pins : List (Addr × Obj)) (σ : L2.St) (H : Hp) (a : Addr) (cls : Value) (d : Option Addr) (B : Heap) (sI s : Shared) : Prop where
  inv : Inv X pins σ H sI
  nb : ∀ b o, sI.heap.get? b = some o → b ∉ frs X.stack → B.get? b = some o
  up : sI.heap.UpToSlots s.heap
  fl : HandSPX.FlyingZ B (X.env :: X.outer) a (Zc cls d) s.heap
  na : H a = none
  os : s.os = sI.os
  ag : AllBare s.gens
section
variable {X : Cx} {pins : List (Addr × Obj)} {σ : L2.St} {H : Hp} {a : Addr} {cls : Value} {d : Option Addr} {B : Heap} {sI s : Shared}
theorem Seen.here (z : Seen X pins σ H a cls d B sI s) : Inv X pins σ H s := z.inv.landed z.nb z.fl.1 z.up z.os z.ag
theorem Seen.more (z : Seen X pins σ H a cls d B sI s) {h : Heap} (fl : HandSPX.FlyingZ B (X.env :: X.outer) a (Zc cls d) h) (u : s.heap.UpToSlots h) : Seen X pins σ H a cls d B sI { s with heap := h } :=
  ⟨z.inv, z.nb, z.up.trans u, fl, z.na, z.os, z.ag⟩
theorem Seen.keeps (z : Seen X pins σ H a cls d B sI s) {h : Heap} (k : ∀ b o, s.heap.get? b = some o → h.get? b = some o) : Seen X pins σ H a cls d B sI { s with heap := h } := by
  refine z.more ?_ (Heap.UpToSlots.of_keeps k)
  obtain ⟨f1, f2, f3, oe, vs, T, oT, ts, g1, g2, g3, g4, g5, g6, g7, g8⟩ := z.fl
  exact ⟨fun b o e => k b o (f1 b o e), f2, Heap.FunFrames.of_keeps (fun b o e _ => ⟨o, k b o e, rfl⟩) f3, oe, vs, T, oT, ts, k _ _ g1, g2, g3, g4, g5, g6, k _ _ g7, g8⟩
theorem Seen.suite (hf : X.env.frame = some X.env.locals) (z : Seen X pins σ H a cls d B sI s) : ∃ oe, s.heap.get? a = some oe ∧ Zc cls d oe ∧ (∃ vs, oe.data = .fields vs) ∧ Inv (X.suite a ((a, oe) :: (X.pn ++ pins))) [] σ H s := by
  obtain ⟨oe, vs, h1, h2, h3⟩ := z.fl.there
  have nfr : a ∉ frs (X.env :: X.outer) := fun hm => by
    obtain ⟨_, o', e', hnf⟩ := z.fl.2.2.1.mem hm
    rw [h1] at e'
    cases e'
    exact hnf _ h3
  refine ⟨oe, h1, h2, ⟨vs, h3⟩, z.here.suite h1 h3 z.na (fun q => nfr (List.mem_filterMap.mpr ⟨X.env, List.mem_cons_self, by rw [hf, q]⟩)) fun hm => ?_⟩
  obtain ⟨e, he, q⟩ := List.mem_filterMap.mp hm
  exact nfr (List.mem_filterMap.mpr ⟨e, List.mem_cons_of_mem _ he, q⟩)
theorem Seen.ty (z : Seen X pins σ H a cls d B sI s) : PySem.W.Looks (model X.prog X.w) s.heap (typeOf (.ref a)) cls := by
  obtain ⟨oe, vs, h1, h2, h3⟩ := z.fl.there
  exact fun A Q E s k q => wpAny_typeOf_ref (k _ _ h1) (by rw [h2.1]; exact q)
/-- a class that is named in a clause -/
theorem name_in {x : Str} {c : Value} {np : Pos} {A' : Addr} {l : List (Addr × Obj)} {Q : Value → Shared → Prop} {E : Value → Shared → Prop} (hc : Names X x c) (I : Inv (X.suite A' l) [] σ H s) (q : Q c s) :
    wpAny (model X.prog X.w) (X.A.mark (some (.ref A'))) (eval (.Name x np) X.env) Q E s := by
  obtain ⟨hg, hb, hm | ⟨hm, hv, hn⟩⟩ := hc
  · exact ld_glob (X := X.suite A' l) I hg hm q hb
  · exact ld_blt (X := X.suite A' l) I hg hm hv q hn hb
theorem exm_one_of {K : PySem.W.Frag} {c : Value} {b : Bool} (h : PySem.W.exmAny K cls [c] = some b) : PySem.W.exmOne K cls c = some b := by
  obtain ⟨b1, d1, h1, h2, rfl⟩ := PySem.W.exmAny_cons h
  cases h2
  rw [h1, Bool.or_false]
end
section
variable {X : Cx} {body : List Stmt} {h0 : ExceptHandler} {hds : List ExceptHandler} {l : List Cla} {pos : Pos} {tb : WX → TS} {Wout : WX}
theorem clauses {pins : List (Addr × Obj)} {σ : L2.St} {H : Hp} {a : Addr} {cls : Value} {d : Option Addr} {B : Heap} {sI : Shared} {D : Ends} (ok : X.Ok) (hs : X.stack = X.env :: X.outer) (hf : X.env.frame = some X.env.locals) (tk : Takes X Wout) :
    ∀ {hds : List ExceptHandler} {l : List Cla}, ClOk X hds l → ∀ s : Shared, Seen X pins σ H a cls d B sI s → wCl X.K Wout D l cls d σ H → wpAny (model X.prog X.w) X.A (handleBy (.ref a) X.env hds) (SP X pins D) X.xe s := by
  intro hds l hk
  induction hk with
  | nil =>
    intro s z w
    refine wpAny_handleBy_nil ?_
    obtain ⟨_, _, _, oe, vs, T, oT, ts, g1, g2, g3, g4, g5⟩ := id z.fl
    unfold PySem.passOn
    refine wpAny_bind (wpAny_field g1 g3 g4 ?_)
    rw [if_neg (show ¬ ((Value.ref T == Value.none) = true) from by simp)]
    have go : wpAny (model X.prog X.w) X.A (setFlight (.ref a) X.env.frame) (fun _ t => wpAny (model X.prog X.w) X.A (throw (.ref a) : Sem Flow) (SP X pins D) X.xe t) X.xe s := by
      rw [hf]
      refine HandSPX.setFlight_upZ z.fl fun h hh u => wpAny_throw (tk _ _ ⟨a, B, sI, pins, σ, H, cls, d, rfl, z.inv, z.nb, z.up.trans u, .inr (.inr ?_), z.na, z.os, z.ag, w⟩)
      rw [hs]
      exact hh
    first
      | exact wpAny_bind (wpAny_pure (wpAny_bind go))
      | exact wpAny_bind go
  | one hc hsu r ih =>
    intro s z w
    obtain ⟨b, w1, w2, w3⟩ := w
    obtain ⟨oe, g1, g2, g3, S⟩ := z.suite hf
    refine wpAny_handleBy_cons (codeAny_handlers_test ?_) (by intro q; cases q)
    refine name_in hc S ((PySem.W.exm_one (M := model X.prog X.w) z.here.kIn z.ty (exm_one_of w1)).here ?_)
    cases b with
    | false => exact ih s z (w3 rfl)
    | true =>
      refine codeAny_handlers_suite (HandSPX.lands_againZ z.fl fun h f u => ?_)
      have z2 := z.more f u
      obtain ⟨oe2, k1, k2, k3, S2⟩ := z2.suite hf
      refine wpAny_mono ((hsu a oe2 cls d (X.pn ++ pins) k2 k3).run [] _ _ H _ S2 (w2 rfl a z.na)) (fun f t q => ?_) (fun _ _ z => False.elim z)
      cases f with
      | ret v =>
        obtain ⟨v', σ', H', S', rv, q'⟩ := q
        exact ⟨_, _, _, S'.unsuite ok, rv, q'⟩
      | next | brk | cont =>
        obtain ⟨σ', H', S', q'⟩ := q
        exact ⟨_, _, S'.unsuite ok, q'⟩
  | two hc he hsu r ih =>
    intro s z w
    obtain ⟨b, w1, w2, w3⟩ := w
    obtain ⟨oe, g1, g2, g3, S⟩ := z.suite hf
    refine wpAny_handleBy_cons (codeAny_handlers_test ?_) (by intro q; cases q)
    refine wpAny_Tuple (wpAny_items_cons (name_in hc S (wpAny_items_cons (name_in he S (wpAny_items_nil ⟨by size_fits, ?_⟩)))))
    rename_i c1 c2 _ _ _ _ _ _ _ _ _ _
    have kp : ∀ q o, s.heap.get? q = some o → (s.heap.push { cls := .type "tuple", data := .seq [c1, c2].toArray }).get? q = some o := fun _ _ e => Heap.get?_push_of_some _ e
    have zt := z.keeps kp
    refine (PySem.W.exm_tup2 (M := model X.prog X.w) zt.here.kIn zt.ty (Heap.get?_push_size s.heap rfl) w1).here ?_
    cases b with
    | false => exact ih _ zt (w3 rfl)
    | true =>
      refine codeAny_handlers_suite (HandSPX.lands_againZ zt.fl fun h f u => ?_)
      have z2 := zt.more f u
      obtain ⟨oe2, k1, k2, k3, S2⟩ := z2.suite hf
      refine wpAny_mono ((hsu a oe2 cls d (X.pn ++ pins) k2 k3).run [] _ _ H _ S2 (w2 rfl a z.na)) (fun f t q => ?_) (fun _ _ z => False.elim z)
      cases f with
      | ret v =>
        obtain ⟨v', σ', H', S', rv, q'⟩ := q
        exact ⟨_, _, _, S'.unsuite ok, rv, q'⟩
      | next | brk | cont =>
        obtain ⟨σ', H', S', q'⟩ := q
        exact ⟨_, _, S'.unsuite ok, q'⟩
  | @as x n c i ts b0 su np qp hs2 l2 hN hi hln hc hsu r ih =>
    intro s z w
    obtain ⟨b, w1, w2, w3⟩ := w
    obtain ⟨oe, g1, g2, g3, S⟩ := z.suite hf
    refine wpAny_handleBy_cons (codeAny_handlers_test ?_) (by intro q; cases q)
    refine name_in hc S ((PySem.W.exm_one (M := model X.prog X.w) z.here.kIn z.ty (exm_one_of w1)).here ?_)
    cases b with
    | false => exact ih s z (w3 rfl)
    | true =>
      refine codeAny_handlers_suite_as (HandSPX.lands_againZ z.fl fun h f u => ?_)
      have z2 := z.more f u
      obtain ⟨oe2, k1, k2, k3, S2⟩ := z2.suite hf
      refine store_ok (X := X.suite a ((a, oe2) :: (X.pn ++ pins))) (v := .ref a) S2 hN hi (.inl hln) rfl (fun t St => ?_) (.inr hln)
      refine wpAny_mono ((hsu a oe2 cls d (X.pn ++ pins) k2 k3).run [] t _ H _ St (w2 rfl a z.na)) (fun f t2 q => ?_) (fun _ _ z => False.elim z)
      have leave : ∀ {σ' : L2.St} {H' : Hp} {Q : Shared → Prop}, Inv (X.suite a ((a, oe2) :: (X.pn ++ pins))) [] σ' H' t2 → (∀ t3, Inv X pins (σ'.set i none) H' t3 → Q t3) → _ := fun {σ' H' Q} S' hq => gone_ok (M := model X.prog X.w) (A := X.A) (E := X.xe) (pos := qp) (Q := fun _ t3 => Q t3) (S'.unsuite ok) hN hi hln hq
      cases f with
      | ret v =>
        obtain ⟨v', σ', H', S', rv, q'⟩ := q
        exact leave S' fun t3 J => ⟨_, _, _, J, rv, q'⟩
      | next | brk | cont =>
        obtain ⟨σ', H', S', q'⟩ := q
        exact leave S' fun t3 J => ⟨_, _, J, q'⟩
theorem ps_tryG (hs : X.stack = X.env :: X.outer) (hf : X.env.frame = some X.env.locals) (tk : Takes X Wout)
    (hb : ∀ (W : WX) (pn : List (Addr × Obj)) (xe : Value → Shared → Prop), Takes (X.tr pn xe) W → PassesOwn (model X.prog X.w) X.A X.env xe → PSs (X.tr pn xe) body (tb W)) (hh : ClOk X (h0 :: hds) l) :
    PS X (.Try body (h0 :: hds) [] [] pos) (fun D σ H => tb (wCl X.K Wout D l) D σ H) := by
  refine ⟨fun pins s σ H D I h => ?_⟩
  have ok := I.ok
  refine wpAny_Try_except ?_
  refine wpAny_mono ((hb (wCl X.K Wout D l) (X.pn ++ pins) (fun e s1 => wpAny (model X.prog X.w) X.A (noteFrame e X.env) (fun _ s2 => wpAny (model X.prog X.w) X.A (setFlight e none) (fun _ s3 => wpAny (model X.prog X.w) X.A (handleBy e X.env (h0 :: hds)) (SP X pins D) X.xe s3) X.xe s2) X.xe s1)
    (fun u t xx => ?_) PassesOwn.looking).run [] s σ H D (I.toTry _) h) (fun f t q => ?_) (fun e t he => he)
  · obtain ⟨a, B, sI, pins', σ', H', cls, d, rfl, J', nb, up, sky, na, os, ag, w⟩ := xx
    have sky2 : Sky B (X.env :: X.outer) a (Zc cls d) X.env.locals t.heap := by
      rw [← hs]
      exact sky
    show wpAny (model X.prog X.w) X.A (noteFrame (.ref a) X.env) _ _ _
    exact Sky.land Zc.steady (by rw [ok.frames, hs]) hf sky2 fun h3 fl3 up3 => clauses ok hs hf tk hh _ ⟨J'.ofTry ok, nb, up.trans up3, fl3, na, os, ag⟩ w
  · cases f with
    | next =>
      obtain ⟨σ', H', J', q'⟩ := q
      exact wpAny_execs_nil ⟨σ', H', J'.ofTry ok, q'⟩
    | brk | cont =>
      obtain ⟨σ', H', J', q'⟩ := q
      exact ⟨σ', H', J'.ofTry ok, q'⟩
    | ret u =>
      obtain ⟨v, σ', H', J', rv, q'⟩ := q
      exact ⟨v, σ', H', J'.ofTry ok, rv, q'⟩
end
end SB

namespace SB
open PySem PySem.Spec PyProof.Rows L2 Res
/-! ## calls in a try -/
def tMetS (C : Addr) (m : Str) (sp : Sp) (E : L2.St → XK) (ta : TE) (t : TA) : TE := fun σ H Q => ta σ H fun x H1 => MetV C m x H1 (t σ H1 fun vs H2 => sp (x :: vs) H2 Q (E σ))
section
variable {X : Cx} {CX : CXT} {k : Nat} {f C : Addr} {fd : FuncData} {ps : List Str} {sp : Sp} {E : L2.St → XK} {m : Str} {pos apos : Pos} {e o : Expr} {es : List Expr} {ta : TE} {t : TA}
theorem pe_metS {pl : Sem Bool} (he : PE X o ta) (c : Cls X.K C) (hm : Meth X.K C m f) (F : FnOk X.prog X.w X.K X.mg X.base CX k f fd ps sp) (hr : Room k X.A) (hb : Binds X.K fd ps []) (hx : ∀ σ, PassesAt CX X σ (E σ)) (ha : PA X (e :: es) t)
    (hst : starEach (e :: es) X.env = (false, eval e X.env) :: starEach es X.env := by rfl) (hpl : (backTo pos (starEach es X.env)).any (·.1) = false := by rfl)
    (ht : eval (.Call (.Attribute o m apos) (e :: es) [] pos) X.env = (do
      let ov ← eval o X.env; standAt apos.atName; let (f, first) ← holding [ov] (getMethod ov m pl); callWith pos f first (backTo pos (starEach (e :: es) X.env)) (backToKw pos (keywordEach [] X.env))) := by rfl) :
    PE X (.Call (.Attribute o m apos) (e :: es) [] pos) (tMetS C m sp E ta t) := by
  refine ⟨fun pins s σ H Q I h => ?_⟩
  refine PySem.W.methodCall_KW (pl := pl) (thn (he.run pins s σ H _ I h) fun u s1 ⟨x, H1, I1, rx, a, dx, fs, hx1, ea, l, q⟩ => ?_) ht
  subst hx1
  obtain rfl : u = Value.ref a := rx
  refine getmeth_ok I1 ea c hm l (PySem.W.callWith_K (first := [.ref a]) (h₀ := X.base) I.ok.mod.kin hm.kp (thn (ha.run pos pins s1 σ H1 _ I1 q) fun us s2 ⟨vs, H2, I2, r, q2⟩ => ⟨I2.kIn, ?_⟩) hst hpl)
  exact run_fnS (us := .ref a :: us) (vs := .ref a :: vs) F hr hb (hx σ) I2 (.cons rfl r) q2
theorem pe_metS0 {pl : Sem Bool} (he : PE X o ta) (c : Cls X.K C) (hm : Meth X.K C m f) (F : FnOk X.prog X.w X.K X.mg X.base CX k f fd ps sp) (hr : Room k X.A) (hb : Binds X.K fd ps []) (hx : ∀ σ, PassesAt CX X σ (E σ))
    (ht : eval (.Call (.Attribute o m apos) [] [] pos) X.env = (do
      let ov ← eval o X.env; standAt apos.atName; let (f, first) ← holding [ov] (getMethod ov m pl); callWith pos f first (backTo pos (starEach [] X.env)) (backToKw pos (keywordEach [] X.env))) := by rfl) :
    PE X (.Call (.Attribute o m apos) [] [] pos) (tMetS C m sp E ta tNil) := by
  refine ⟨fun pins s σ H Q I h => ?_⟩
  refine PySem.W.methodCall_KW (pl := pl) (thn (he.run pins s σ H _ I h) fun u s1 ⟨x, H1, I1, rx, a, dx, fs, hx1, ea, l, q⟩ => ?_) ht
  subst hx1
  obtain rfl : u = Value.ref a := rx
  refine getmeth_ok I1 ea c hm l (PySem.W.callWith_K0 (first := [.ref a]) I1.kIn hm.kp ?_)
  exact run_fnS (us := [.ref a]) (vs := [.ref a]) F hr hb (hx σ) I1 (.cons rfl .nil) q
theorem c_metS {σ : L2.St} {H : Hp} {Q : VK} (h : ta σ H fun x H1 => MetV C m x H1 (t σ H1 fun vs H2 => sp (x :: vs) H2 Q (E σ))) : tMetS C m sp E ta t σ H Q := h
theorem c_callS {σ : L2.St} {H : Hp} {Q : VK} (h : t σ H fun vs H1 => sp vs H1 Q (E σ)) : tCallS sp E t σ H Q := h
/-- C.m(self, ..) where C is a class and m a def of it -/
def tCC (C : Addr) (sp : Sp) (E : XK) (ta : TE) (t : TA) : TE := fun σ H Q => ta σ H fun x H1 => x = .ref C ∧ t σ H1 fun vs H2 => sp vs H2 Q E
theorem pe_cc {pl : Sem Bool} {mc : Value} {E : XK} (he : PE X o ta) (r : ClX.CRead X.K C mc) (ha1 : PySem.W.findCls X.K (.ref C) mc m = some (.val (.ref f))) (kp : PySem.W.keepIn X.K (.ref f) = true) (F : FnOk X.prog X.w X.K X.mg X.base CX k f fd ps sp) (hr : Room k X.A) (hb : Binds X.K fd ps []) (hx : Passes CX X E) (ha : PA X (e :: es) t)
    (hst : starEach (e :: es) X.env = (false, eval e X.env) :: starEach es X.env := by rfl) (hpl : (backTo pos (starEach es X.env)).any (·.1) = false := by rfl)
    (ht : eval (.Call (.Attribute o m apos) (e :: es) [] pos) X.env = (do
      let ov ← eval o X.env; standAt apos.atName; let (f, first) ← holding [ov] (getMethod ov m pl); callWith pos f first (backTo pos (starEach (e :: es) X.env)) (backToKw pos (keywordEach [] X.env))) := by rfl) :
    PE X (.Call (.Attribute o m apos) (e :: es) [] pos) (tCC C sp E ta t) := by
  refine ⟨fun pins s σ H Q I h => ?_⟩
  refine PySem.W.methodCall_KW (pl := pl) (thn (he.run pins s σ H _ I h) fun u s1 ⟨x, H1, I1, rx, hx1, q⟩ => ?_) ht
  subst hx1
  obtain rfl : u = Value.ref C := rx
  refine PySem.W.method_cls I1.kIn r.ga (ClX.getcval_ok (v := .ref f) I1 r ⟨ha1, rfl⟩ fun s2 I2 => ?_)
  refine PySem.W.callWith_K (first := []) (h₀ := X.base) I.ok.mod.kin kp (thn (ha.run pos pins s2 σ H1 _ I2 q) fun us s3 ⟨vs, H2, I3, rv, q2⟩ => ⟨I3.kIn, ?_⟩) hst hpl
  refine run_fn (us := us) (vs := vs) (dvs := []) F hr hb .nil hx I3 rv ?_
  rw [List.append_nil]
  exact q2
end
/-! ## try -/
def tTry (K : PySem.W.Frag) (Wout : WX) (tb : WX → TS) (l : List Cla) : TS := fun D σ H => tb (wCl K Wout D l) D σ H
def tryM {ωb ω σT : Type} (mb : Res ωb σT) (mh : Exn → ωb → Res ω σT) : Res ω σT := match mb with
  | .ok s => .ok s
  | .ex e w => mh e w
  | .bad => .bad
section
variable {ωb ω γ σT : Type} {A H : Hp} {Qr : γ → Prop} {Er : Exn → ω → Prop} {T : Cs} {K : PySem.W.Frag} {Wout : WX} {tb : WX → TS} {l : List Cla} {u : TS} {D : Ends} {σ : L2.St} {mb : Res ωb σT} {mh : Exn → ωb → Res ω σT} {f : σT → Res ω γ}
abbrev TryB (T : Cs) (A : Hp) (H : Hp) (σ : L2.St) (D : Ends) (tb : WX → TS) (mb : Res ωb σT) (Rel : Hp → L2.St → List Hp → σT → Prop) (RelX : Hp → L2.St → List Hp → ωb → Prop) : Prop :=
  ∀ (C : σT → Prop) (CE : Exn → ωb → Prop) (W : WX) (N : L2.St → Hp → Prop), (∀ A' H' σ' R' s, Same A A' → St H' (A' :: R') → Rel A' σ' R' s → C s → N σ' H') →
    (∀ A' H' σ' R' w e cls d, Same A A' → St H' (A' :: R') → RelX A' σ' R' w → XA T e cls d A A' → CE e w → W cls d σ' H') → mb.wp C CE → tb W { D with nx := N } σ H
abbrev TryH (T : Cs) (A : Hp) (K : PySem.W.Frag) (Wout : WX) (D : Ends) (l : List Cla) (mh : Exn → ωb → Res ω σT) (Er : Exn → ω → Prop) (Rel : Hp → L2.St → List Hp → σT → Prop) (RelX : Hp → L2.St → List Hp → ωb → Prop) : Prop :=
  ∀ (C : σT → Prop) (N : L2.St → Hp → Prop), (∀ A' H' σ' R' s, Same A A' → St H' (A' :: R') → Rel A' σ' R' s → C s → N σ' H') →
    ∀ A' H' σ' R' w e cls d, Same A A' → St H' (A' :: R') → RelX A' σ' R' w → XA T e cls d A A' → (mh e w).wp C Er → wCl K Wout { D with nx := N } l cls d σ' H'
theorem try_go (Rel : Hp → L2.St → List Hp → σT → Prop) (RelX : Hp → L2.St → List Hp → ωb → Prop) {P : σT → Prop} {N : L2.St → Hp → Prop} (hm : (tryM mb mh).wp P Er) (h1 : TryB T A H σ D tb mb Rel RelX) (h2 : TryH T A K Wout D l mh Er Rel RelX)
    (h3 : ∀ A' H' σ' R' s, Same A A' → St H' (A' :: R') → Rel A' σ' R' s → P s → N σ' H') : tTry K Wout tb l { D with nx := N } σ H := by
  refine h1 P (fun e w => (mh e w).wp P Er) _ N h3 (fun A' H' σ' R' w e cls d g S r x c => h2 P N h3 A' H' σ' R' w e cls d g S r x c) ?_
  cases mb <;> exact hm
theorem q_try (Rel : Hp → L2.St → List Hp → σT → Prop) (RelX : Hp → L2.St → List Hp → ωb → Prop) (hm : (bind (tryM mb mh) f).wp Qr Er) (h1 : TryB T A H σ D tb mb Rel RelX) (h2 : TryH T A K Wout D l mh Er Rel RelX)
    (h3 : ∀ A' H' σ' R' s, Same A A' → St H' (A' :: R') → Rel A' σ' R' s → (f s).wp Qr Er → u D σ' H') : Evl.tCut (tTry K Wout tb l) u D σ H :=
  ⟨fun σ' H' => ∃ A' R' s, Same A A' ∧ St H' (A' :: R') ∧ Rel A' σ' R' s ∧ (f s).wp Qr Er, try_go Rel RelX (P := fun s => (f s).wp Qr Er) (wp_bind hm) h1 h2 fun A' H' σ' R' s e S r w => ⟨A', R', s, e, S, r, w⟩, fun σ' H' ⟨A', R', s, e, S, r, w⟩ => h3 A' H' σ' R' s e S r w⟩
theorem s_try {N : L2.St → Hp → Prop} {b : VK} {c d : L2.St → Hp → Prop} (Rel : Hp → L2.St → List Hp → σT → Prop) (RelX : Hp → L2.St → List Hp → ωb → Prop) (hm : (bind (tryM mb mh) f).wp Qr Er) (h1 : TryB T A H σ (Ends.mk N b c d) tb mb Rel RelX) (h2 : TryH T A K Wout (Ends.mk N b c d) l mh Er Rel RelX)
    (h3 : ∀ A' H' σ' R' s, Same A A' → St H' (A' :: R') → Rel A' σ' R' s → (f s).wp Qr Er → N σ' H') : tTry K Wout tb l (Ends.mk N b c d) σ H :=
  try_go (D := Ends.mk N b c d) Rel RelX (P := fun s => (f s).wp Qr Er) (wp_bind hm) h1 h2 h3
end
/-! ## which clause takes an exception -/
section
variable {K : PySem.W.Frag} {Wout : WX} {D : Ends} {c : Cla} {r : List Cla} {cls : Value} {d : Option Addr} {σ : L2.St} {H : Hp} {c1 c2 : Value} {b1 b2 : Bool}
theorem cl_yes (he : PySem.W.exmAny K cls c.cs = some true) (h : ∀ a, H a = none → c.ts a cls d (endAs c.slot D) (inAs c.slot a σ) H) : wCl K Wout D (c :: r) cls d σ H := ⟨true, he, fun _ => h, fun z => nomatch z⟩
theorem cl_no (he : PySem.W.exmAny K cls c.cs = some false) (h : wCl K Wout D r cls d σ H) : wCl K Wout D (c :: r) cls d σ H := ⟨false, he, fun z => (nomatch z), fun _ => h⟩
theorem ex_1 (h : PySem.W.exmOne K cls c1 = some b1) : PySem.W.exmAny K cls [c1] = some b1 := by
  unfold PySem.W.exmAny PySem.W.exmAny
  rw [h]
  show some (b1 || false) = _
  rw [Bool.or_false]
theorem ex_2 (h : PySem.W.exmOne K cls c1 = some b1) (h2 : PySem.W.exmOne K cls c2 = some b2) : PySem.W.exmAny K cls [c1, c2] = some (b1 || b2) := by
  unfold PySem.W.exmAny
  rw [h, ex_1 h2]
end
/-! ## targets -/
section
variable {K : PySem.W.Frag} {σ : L2.St} {H : Hp} {a : Addr} {xs : List V} {n i : Nat} {t : TGs} {Q : L2.St → Hp → Prop} {x v : V} {g : TG} {te : TE} {tz : TS} {D : Ends}
theorem q_asgG (h : te σ H fun v H' => g v σ H' fun σ' H'' => tz D σ' H'') : tSeq (tAsg te g) tz D σ H := h
theorem s_asgG (h : te σ H fun v H' => g v σ H' fun σ' H'' => D.nx σ' H'') : tAsg te g D σ H := h
theorem g_tup (hv : H a = some (.tup xs)) (hl : xs.length = n) (h : t xs σ H Q) : gTup K n t (.ref a) σ H Q := ⟨a, xs, rfl, SqT.of hv, hl, h⟩
theorem g_cons (h : g x σ H fun σ' H' => t xs σ' H' Q) : gCons g t (x :: xs) σ H Q := ⟨x, xs, rfl, h⟩
theorem g_nil (h : Q σ H) : gNil [] σ H Q := ⟨rfl, h⟩
theorem g_name (h : Q (σ.set i (some v)) H) : gName i v σ H Q := h
end
end SB
namespace SB
open PySem PySem.Spec PyProof.Rows L2 Res
/-! ## a list or None, owned -/
def emp : Hp := fun _ => none
def OptAt {α : Type} [Rep α] (A m : Hp) (v : V) (x : Option (List α)) : Prop := match x with
  | none => v = .non ∧ m = emp
  | some l => ∃ p ws, v = .ref p ∧ m = one p (.lst ws) ∧ OL A ws l
instance instObOpt {α : Type} [Rep α] : Ob (Option (List α)) := ⟨fun _ A m v x => OptAt A m v x, fun {T A B m v x} e h => match x, h with
  | none, h => h
  | some _, ⟨p, ws, h1, h2, h3⟩ => ⟨p, ws, h1, h2, h3.up e⟩⟩
theorem St.emp {H : Hp} {m : Hp} {R : List Hp} (S : St H (m :: R)) : St H (m :: emp :: R) :=
  ⟨S.1, fun n hn => by
    cases hn with
    | head => exact fun a o u _ e => nomatch e
    | tail _ hn => exact S.2.1 n hn, fun a o e => (nomatch e), fun n _ a o u e _ => (nomatch e), S.2.2⟩
section
variable {ω α γ : Type} [Rep α] {T : Cs} {A H m : Hp} {R : List Hp} {v : V} {x : Option (List α)} {Q : VK} {P : Prop} {Qr : γ → Prop} {Er : Exn → ω → Prop}
theorem oo_none : Ob.isAt T A emp .non (none : Option (List α)) := ⟨rfl, rfl⟩
theorem oo_some {p : Addr} {ws : List V} {l : List α} (h : OL A ws l) : Ob.isAt T A (one p (.lst ws)) (.ref p) (some l) := ⟨p, ws, rfl, rfl, h⟩
theorem oo_dec (h : Ob.isAt T A m v x) : decide (v = .non) = x.isNone := by
  cases x with
  | none => exact decide_eq_true h.1
  | some l =>
    obtain ⟨p, ws, rfl, _⟩ := h
    rfl
theorem c_isNo (h : Ob.isAt T A m v x) (k : Q (.bl x.isNone) H) : L2.rIsN v .non H Q := by
  refine ⟨rfl, ?_⟩
  rw [oo_dec h]
  exact k
theorem c_notNo (h : Ob.isAt T A m v x) (k : Q (.bl (!x.isNone)) H) : L2.rNotN v .non H Q := by
  refine ⟨rfl, ?_⟩
  rw [oo_dec h]
  exact k
theorem oo_get {f : List α → Res ω γ} (h : Ob.isAt T A m v x) (hm : (bind (getR x) f).wp Qr Er) (k : ∀ p ws l, v = .ref p → m = one p (.lst ws) → OL A ws l → (f l).wp Qr Er → P) : P := by
  unfold getR at hm
  cases x with
  | none => exact hm.elim
  | some l =>
    obtain ⟨p, ws, h1, h2, h3⟩ := h
    exact k p ws l h1 h2 h3 hm
theorem un_opt {β : Type} [Rep β] {x : Option β} {f : β → Res ω γ} (h : Is A v x) (hm : (bind (getR x) f).wp Qr Er) (k : ∀ y, Is A v y → (f y).wp Qr Er → P) : P := by
  unfold getR at hm
  cases x with
  | none => exact hm.elim
  | some y => exact k y h.2 hm
theorem opt_int {n : Int} : Is A (.int n) (some n : Option Int) := ⟨fun z => (nomatch z), rfl⟩
theorem opt_any {β : Type} [Rep β] {y : β} {p : Addr} (h : Is A (.ref p) y) : Is A (.ref p) (some y) := ⟨fun z => (nomatch z), h⟩
end
/-! ## exceptions with a field -/
structure XoC (K : PySem.W.Frag) (C : Addr) (f : Str) : Prop where
  o : OexC K C
  no : PySem.W.findIn K (.ref C) f = some none
  xf : XfC K C
def sp_xi (K : PySem.W.Frag) (C : Addr) (f : Str) : Sp := fun vs H Q _ => ∃ (a : Addr) (y : V), vs = [.ref a, y] ∧ OexC K C ∧ PySem.W.findIn K (.ref C) f = some none ∧ H a = some (exo a C none) ∧ ∀ dx, H dx = none → dx ≠ a → Q .non (upd (upd H dx (exd dx [(f, y)])) a (exo a C (some dx)))
structure XiC (P : Program) (w : World) (K : PySem.W.Frag) (mg : Str → Option Value) (base : Heap) (C : Addr) (f : Str) (fI : Addr) (fd : FuncData) : Prop where
  ini : PySem.W.findIn K (.ref C) "__init__" = some (some (.ref fI))
  ty : PySem.W.typeIn K (.ref fI) = some (.type "function")
  ok : FnOk P w K mg base CX0 1 fI fd ["self", f] (sp_xi K C f)
  b : Binds K fd ["self", f] []
def rd_xi (K : PySem.W.Frag) (f : Str) : TS := tOst K f (tVar 0) (tVar 1)
theorem wk_xi {K : PySem.W.Frag} {C : Addr} {f p : Str} {vs : List V} {H : Hp} {Q : VK} {E : XK} (h : sp_xi K C f vs H Q E) : rd_xi K f { nx := fun _ H' => Q .non H', rt := Q } (L2.start ["self", p] vs) H := by
  obtain ⟨a, y, rfl, h1, h2, h3, h4⟩ := h
  exact ⟨y, rfl, .ref a, rfl, a, C, rfl, h1, h2, .inl ⟨h3, fun dx hd hn => h4 dx hd hn⟩⟩
def tRaiseP (K : PySem.W.Frag) (E : XK) (C : Addr) (f : Str) (te : TE) : TS := fun _ σ H => tMkO C (sp_xi K C f) [] (tCons te tNil) σ H fun cls d H' => E cls d H'
theorem s_raiseP {K : PySem.W.Frag} {E : XK} {C : Addr} {f : Str} {te : TE} {D : Ends} {σ : L2.St} {H : Hp} (o : OexC K C) (no : PySem.W.findIn K (.ref C) f = some none) (h : te σ H fun y H1 => ∀ d, H1 d = none → E (.ref C) (some d) (upd H1 d (.xd [(f, y)]))) (mono : ∀ (Q Q' : VK), (∀ y H1, Q y H1 → Q' y H1) → te σ H Q → te σ H Q') : tRaiseP K E C f te D σ H := by
  refine mono _ _ (fun y H1 h => ?_) h
  refine ⟨Nat.le_of_ble_eq_true rfl, fun a ha => ⟨a, y, rfl, o, no, upd_same, fun dx hd hn => ⟨rfl, dx, [(f, y)], upd_same, ?_, ?_, ?_⟩⟩⟩
  · rw [upd_ne hn, upd_same]
  · rw [upd_ne hn] at hd
    exact hd
  · rw [upd_ne hn] at hd
    have e : upd (del (upd (upd (upd H1 a (exo a C none)) dx (exd dx [(f, y)])) a (exo a C (some dx))) a) dx (.xd [(f, y)]) = upd H1 dx (.xd [(f, y)]) := by
      funext b
      by_cases hb : b = dx
      · rw [hb, upd_same, upd_same]
      · rw [upd_ne hb, upd_ne hb]
        by_cases hb2 : b = a
        · rw [hb2, del_same, ha]
        · rw [del_ne hb2, upd_ne hb2, upd_ne hb, upd_ne hb2]
    rw [e]
    exact h dx hd
theorem mono_var {σ : L2.St} {H : Hp} {i : Nat} (Q Q' : VK) (k : ∀ y H1, Q y H1 → Q' y H1) (h : tVar i σ H Q) : tVar i σ H Q' := by
  obtain ⟨v, h1, h2⟩ := h
  exact ⟨v, h1, k _ _ h2⟩
section
variable {T : Cs} {A0 A H : Hp} {R : List Hp} {p : Addr} {ws : List V} {l : List Int} {E : XK} {n : Int}
theorem x_ring (S : St H (A :: one p (.lst ws) :: R)) (e0 : Same A0 A) (h : OL A ws l) (k : ∀ A' H' d, Same A A' → Same A0 A' → St H' (A' :: R) → XA T (.ring l) (.ref T.ring) (some d) A0 A' → E (.ref T.ring) (some d) H') : ∀ d, H d = none → E (.ref T.ring) (some d) (upd H d (.xd [("ring", .ref p)])) := fun d hd => by
  have S1 := S.frz
  have hA : A p = none := by
    cases e : A p with
    | none => rfl
    | some o => exact (S.dj _ _ _ e one_same).elim
  have hjd : join A (one p (.lst ws)) d = none := S1.1.free hd
  have ne : p ≠ d := fun z => by
    subst z
    rw [same_join_r S.dj _ _ one_same] at hjd
    cases hjd
  refine k _ _ d (same_join_l.trans (same_upd hjd)) ((e0.trans same_join_l).trans (same_upd hjd)) (S1.new hd) ⟨d, p, ws, rfl, rfl, upd_same, ?_, none_of_same e0 hA, ?_, OL.any h⟩
  · exact none_of_same (e0.trans same_join_l) hjd
  · rw [upd_ne ne]
    exact same_join_r S.dj _ _ one_same
theorem x_many (S : St H (A :: R)) (e0 : Same A0 A) (k : ∀ A' H' d, Same A A' → Same A0 A' → St H' (A' :: R) → XA T (.many n) (.ref T.many) (some d) A0 A' → E (.ref T.many) (some d) H') : ∀ d, H d = none → E (.ref T.many) (some d) (upd H d (.xd [("many", .int n)])) := fun d hd =>
  k _ _ d (same_upd (S.1.free hd)) (e0.trans (same_upd (S.1.free hd))) (S.new hd) ⟨d, rfl, rfl, upd_same, none_of_same e0 (S.1.free hd)⟩
theorem x_row (S : St H (A :: R)) (e0 : Same A0 A) (k : ∀ A' H' d, Same A A' → Same A0 A' → St H' (A' :: R) → XA T (.atRow n) (.ref T.row) (some d) A0 A' → E (.ref T.row) (some d) H') : ∀ d, H d = none → E (.ref T.row) (some d) (upd H d (.xd [("at", .int n)])) := fun d hd =>
  k _ _ d (same_upd (S.1.free hd)) (e0.trans (same_upd (S.1.free hd))) (S.new hd) ⟨d, rfl, rfl, upd_same, none_of_same e0 (S.1.free hd)⟩
end
/-- by the kind of exception -/
def exM {ω α : Type} (e : Exn) (p : Nat → Res ω α) (r : List Int → Res ω α) (m a : Int → Res ω α) : Res ω α := match e with
  | .plain k => p k
  | .ring l => r l
  | .many n => m n
  | .atRow n => a n
section
variable {ω α : Type} {T : Cs} {A B : Hp} {cls : Value} {d : Option Addr} {e : Exn} {p : Nat → Res ω α} {r : List Int → Res ω α} {m a : Int → Res ω α} {C : α → Prop} {Er : Exn → ω → Prop} {G : Prop}
theorem exM_by (x : XA T e cls d A B) (h : (exM e p r m a).wp C Er) (h1 : ∀ k, cls = .ref (T.ex k) → d = none → (p k).wp C Er → G) (h2 : ∀ l dd q vs, cls = .ref T.ring → d = some dd → B dd = some (.xd [("ring", .ref q)]) → B q = some (.lst vs) → OL B vs l → (r l).wp C Er → G)
    (h3 : ∀ n dd, cls = .ref T.many → d = some dd → B dd = some (.xd [("many", .int n)]) → (m n).wp C Er → G) (h4 : ∀ n dd, cls = .ref T.row → d = some dd → B dd = some (.xd [("at", .int n)]) → (a n).wp C Er → G) : G := by
  cases e with
  | plain k => exact h1 k x.1 x.2 h
  | ring l =>
    obtain ⟨dd, q, vs, x1, x2, x3, _, _, x4, x5⟩ := x
    exact h2 l dd q vs x1 x2 x3 x4 x5 h
  | many n =>
    obtain ⟨dd, x1, x2, x3, _⟩ := x
    exact h3 n dd x1 x2 x3 h
  | atRow n =>
    obtain ⟨dd, x1, x2, x3, _⟩ := x
    exact h4 n dd x1 x2 x3 h
theorem c_ifk {k j : Nat} {m1 m2 : Res ω α} (h : (if k = j then m1 else m2).wp C Er) (h1 : k = j → m1.wp C Er → G) (h2 : m2.wp C Er → G) : G := by
  by_cases e : k = j
  · rw [if_pos e] at h
    exact h1 e h
  · rw [if_neg e] at h
    exact h2 h
end
section
variable {K : PySem.W.Frag} {Wout : WX} {D : Ends} {cs : List Value} {ts : Addr → Value → Option Addr → TS} {r : List Cla} {cls : Value} {d : Option Addr} {σ : L2.St} {H : Hp} {i : Nat}
theorem cl_yes0 (he : PySem.W.exmAny K cls cs = some true) (h : ∀ a, H a = none → ts a cls d D σ H) : wCl K Wout D (⟨cs, none, ts⟩ :: r) cls d σ H := cl_yes he h
theorem cl_yesA (he : PySem.W.exmAny K cls cs = some true) (h : ∀ a, H a = none → ts a cls d (Ends.mk (fun σ' H' => D.nx (σ'.set i none) H') D.rt (fun σ' H' => D.bk (σ'.set i none) H') (fun σ' H' => D.ct (σ'.set i none) H')) (σ.set i (some (.ref a))) H) : wCl K Wout D (⟨cs, some i, ts⟩ :: r) cls d σ H := cl_yes he h
theorem c_xf {a C : Addr} {f : Str} {te : TE} {Q : VK} {dd : Addr} {v : V} (h : te σ H fun x H1 => x = .ref a ∧ H1 dd = some (.xd [(f, v)]) ∧ Q v H1) (mono : ∀ (Q Q' : VK), (∀ y H1, Q y H1 → Q' y H1) → te σ H Q → te σ H Q') : tXf a (.ref C) (some dd) C f te σ H Q :=
  mono _ _ (fun x H1 ⟨h1, h2, h3⟩ => ⟨h1, rfl, dd, _, v, rfl, h2, by simp [List.lookup], h3⟩) h
end
theorem ps_tryT {X : Cx} {body : List Stmt} {h0 : ExceptHandler} {hds : List ExceptHandler} {l : List Cla} {pos : Pos} {tb : WX → TS} {Wout : WX} (hs : X.stack = X.env :: X.outer) (hf : X.env.frame = some X.env.locals) (tk : Takes X Wout)
    (hb : ∀ (W : WX) (pn : List (Addr × Obj)) (xe : Value → Shared → Prop), Takes (X.tr pn xe) W → PassesOwn (model X.prog X.w) X.A X.env xe → PSs (X.tr pn xe) body (tb W)) (hh : ClOk X (h0 :: hds) l) : PS X (.Try body (h0 :: hds) [] [] pos) (tTry X.K Wout tb l) := ps_tryG hs hf tk hb hh
end SB

namespace SB
open PySem PySem.Spec PyProof.Rows L2 Res
/-! ## sorted pairs -/
def leP (x y : Int × Int) : Prop := x.1 < y.1 ∨ (x.1 = y.1 ∧ x.2 ≤ y.2)
instance (x y : Int × Int) : Decidable (leP x y) := inferInstanceAs (Decidable (_ ∨ _))
theorem leP_total {x y : Int × Int} (h : ¬ leP x y) : leP y x := by
  unfold leP at *
  omega
theorem leP_trans {x y z : Int × Int} (h : leP x y) (k : leP y z) : leP x z := by
  unfold leP at *
  omega
theorem leP_anti {x y : Int × Int} (h : leP x y) (k : leP y x) : x = y := by
  unfold leP at *
  exact Prod.ext (by omega) (by omega)
def insP (x : Int × Int) : List (Int × Int) → List (Int × Int)
  | [] => [x]
  | y :: ys => if leP x y then x :: y :: ys else y :: insP x ys
def sortP : List (Int × Int) → List (Int × Int)
  | [] => []
  | x :: xs => insP x (sortP xs)
theorem insP_perm (x : Int × Int) : ∀ ys : List (Int × Int), (insP x ys).Perm (x :: ys)
  | [] => List.Perm.refl _
  | y :: ys => by
    unfold insP
    split
    · exact List.Perm.refl _
    · exact ((insP_perm x ys).cons y).trans (List.Perm.swap _ _ _)
theorem sortP_perm : ∀ xs : List (Int × Int), (sortP xs).Perm xs
  | [] => List.Perm.refl _
  | x :: xs => (insP_perm x _).trans ((sortP_perm xs).cons x)
theorem insP_sorted (x : Int × Int) : ∀ ys : List (Int × Int), ys.Pairwise leP → (insP x ys).Pairwise leP
  | [], _ => List.pairwise_singleton _ _
  | y :: ys, h => by
    unfold insP
    have h' := List.pairwise_cons.mp h
    split
    · rename_i c
      refine List.pairwise_cons.mpr ⟨fun z hz => ?_, h⟩
      cases hz with
      | head => exact c
      | tail _ hz => exact leP_trans c (h'.1 z hz)
    · rename_i c
      refine List.pairwise_cons.mpr ⟨fun z hz => ?_, insP_sorted x ys h'.2⟩
      cases (insP_perm x ys).mem_iff.mp hz with
      | head => exact leP_total c
      | tail _ hz => exact h'.1 z hz
theorem sortP_sorted : ∀ xs : List (Int × Int), (sortP xs).Pairwise leP
  | [] => .nil
  | x :: xs => insP_sorted x _ (sortP_sorted xs)
theorem sortedP_eq : ∀ {xs ys : List (Int × Int)}, xs.Perm ys → xs.Pairwise leP → ys.Pairwise leP → xs = ys
  | [], ys, h, _, _ => (List.Perm.eq_nil h.symm).symm
  | x :: xs, [], h, _, _ => absurd h.length_eq (by simp)
  | x :: xs, y :: ys, h, h1, h2 => by
    have a1 := List.pairwise_cons.mp h1
    have a2 := List.pairwise_cons.mp h2
    have e : x = y := by
      have m1 : x ∈ y :: ys := h.mem_iff.mp List.mem_cons_self
      have m2 : y ∈ x :: xs := h.mem_iff.mpr List.mem_cons_self
      cases m1 with
      | head => rfl
      | tail _ m1 =>
        cases m2 with
        | head => rfl
        | tail _ m2 => exact leP_anti (a1.1 y m2) (a2.1 x m1)
    subst e
    rw [sortedP_eq h.cons_inv a1.2 a2.2]
def keyP (A : Hp) : V → Int × Int
  | .ref t => match A t with
    | some (.tup [.int i, .int j]) => (i, j)
    | _ => (0, 0)
  | _ => (0, 0)
theorem keyP_of {A : Hp} {v : V} {x : Int × Int} (h : Is A v x) : keyP A v = x ∧ ∃ t, v = .ref t ∧ A t = some (.tup [.int x.1, .int x.2]) := by
  obtain ⟨a, u, w, rfl, h2, h3, h4⟩ := h
  obtain rfl : u = .int x.1 := h3
  obtain rfl : w = .int x.2 := h4
  refine ⟨?_, a, rfl, h2⟩
  show (match A a with | some (.tup [.int i, .int j]) => (i, j) | _ => (0, 0)) = x
  rw [h2]
theorem all2_map {α : Type} {P : V → α → Prop} {g : V → α} : ∀ {us : List V} {ps : List α}, All2 P us ps → (∀ v x, P v x → g v = x) → us.map g = ps
  | [], [], _, _ => rfl
  | _ :: _, _ :: _, h, k => by rw [List.map_cons, k _ _ h.1, all2_map h.2 k]
  | [], _ :: _, h, _ => h.elim
  | _ :: _, [], h, _ => h.elim
theorem map_all2 {α : Type} {P : V → α → Prop} {g : V → α} : ∀ {us : List V}, (∀ v ∈ us, P v (g v)) → All2 P us (us.map g)
  | [], _ => trivial
  | v :: us, h => ⟨h v List.mem_cons_self, map_all2 fun w hw => h w (List.mem_cons_of_mem _ hw)⟩
theorem all2_mem {α : Type} {P : V → α → Prop} : ∀ {us : List V} {ps : List α}, All2 P us ps → ∀ v ∈ us, ∃ x ∈ ps, P v x
  | [], [], _, _, h => nomatch h
  | u :: us, p :: ps, h, v, hv => by
    cases hv with
    | head => exact ⟨p, List.mem_cons_self, h.1⟩
    | tail _ hv =>
      obtain ⟨x, hx, hp⟩ := all2_mem h.2 v hv
      exact ⟨x, List.mem_cons_of_mem _ hx, hp⟩
  | [], _ :: _, h, _, _ => h.elim
  | _ :: _, [], h, _, _ => h.elim
section
variable {ω γ : Type} {A H : Hp} {R : List Hp} {v : V} {ps : List (Int × Int)} {K : PySem.W.Frag} {Q : VK} {Qr : γ → Prop} {Er : Exn → ω → Prop}
theorem c_sortP {f : List (Int × Int) → Res ω γ} (S : St H (A :: R)) (h : LA A H v ps) (hm : (bind (.ok (sortP ps)) f).wp Qr Er) (k : ∀ zs, (f zs).wp Qr Er → RawL A H Q zs) : rSortedPO K [v] H Q := by
  obtain ⟨a, us, rfl, h1, h2, h3⟩ := h
  have hk : ∀ x ∈ us, ∃ y, Is A x y ∧ keyP A x = y := fun x hx => by
    obtain ⟨y, _, hy⟩ := all2_mem h2 x hx
    exact ⟨y, hy, (keyP_of hy).1⟩
  refine ⟨a, us, keyP A, rfl, SqL.of h1, fun x hx => ?_, fun ys p hs hb hp => ?_⟩
  · obtain ⟨y, hy, e⟩ := hk x hx
    obtain ⟨_, t, e1, e2⟩ := keyP_of hy
    exact ⟨t, e1, by rw [e]; exact S.1 _ _ e2⟩
  · have hd : ∀ x ∈ ys, Is A x (keyP A x) := fun x hx => by
      obtain ⟨y, hy, e⟩ := hk x (hb.perm.mem_iff.mp hx)
      rw [e]
      exact hy
    have e1 : us.map (keyP A) = ps := all2_map h2 fun v x hx => (keyP_of hx).1
    have e2 : ys.map (keyP A) = sortP ps := by
      refine sortedP_eq ?_ ?_ (sortP_sorted ps)
      · have := hb.perm.map (keyP A)
        rw [e1] at this
        exact this.trans (sortP_perm ps).symm
      · refine List.pairwise_map.mpr (List.Pairwise.imp (fun {x y} h => ?_) hs)
        have := SrtO.lexB_no.mp h
        unfold leP
        omega
    have hl : (sortP ps).length ≤ sizeLine := by
      rw [(sortP_perm ps).length_eq]
      exact h3
    refine k _ hm p ys hp ⟨?_, hl⟩
    rw [← e2]
    exact map_all2 hd
end
/-! ## local tables -/
section
variable {ω α γ : Type} [Rep α] {A H : Hp} {R : List Hp} {Q : VK} {σ : L2.St} {D : Ends} {tz : TS} {d : Addr} {kvs : List (Key × V)} {l : List (Int × α)} {li : List (Int × Int)} {n : Int} {Qr : γ → Prop} {Er : Exn → ω → Prop} {td ty tv : TE} {rd : V → V → Hp → VK → Prop}
theorem c_dnew (S : St H (A :: R)) (k : ∀ p H', St H' (A :: one p (.dK []) :: R) → Q (.ref p) H') : tDNewK σ H Q := fun p hp => k p _ (S.newM hp)
theorem dk_nil : DK A [] ([] : List (Int × α)) := trivial
theorem q_daug (h : td σ H fun x H1 => ty σ H1 fun y H2 => ∃ a v, x = .ref a ∧ DGet H2 a y (some v) ∧ tv σ H2 fun y2 H3 => rd v y2 H3 fun z H4 => ∃ H5, DPut H4 a y z H5 ∧ tz D σ H5) : tSeq (sDAug td ty tv rd) tz D σ H := h
theorem s_daug (h : td σ H fun x H1 => ty σ H1 fun y H2 => ∃ a v, x = .ref a ∧ DGet H2 a y (some v) ∧ tv σ H2 fun y2 H3 => rd v y2 H3 fun z H4 => ∃ H5, DPut H4 a y z H5 ∧ D.nx σ H5) : sDAug td ty tv rd D σ H := h
theorem d_augG {P : Addr → V → Prop} {f : Int → Res ω γ} (hd : H d = some (.dK kvs)) (hk : DK A kvs li) (hm : (bind (agR li n) f).wp Qr Er) (k : ∀ x : Int, (f x).wp Qr Er → P d (.int x)) : ∃ a v, V.ref d = .ref a ∧ DGet H a (.int n) (some v) ∧ P a v := by
  unfold agR at hm
  cases e : agt li n with
  | none =>
    rw [e] at hm
    exact hm.elim
  | some x =>
    rw [e] at hm
    obtain ⟨w, e', hw⟩ := hk.some_of e
    obtain rfl : w = .int x := hw
    refine ⟨d, .int x, rfl, ?_, k x hm⟩
    rw [← e']
    exact DGet.k (k := Sum.inl n) hd
theorem d_augP {P : Hp → Prop} {x : Int} {f : List (Int × Int) → Res ω γ} (hd : H d = some (.dK kvs)) (hk : DK A kvs li) (hm : (bind (aputR li n x) f).wp Qr Er) (k : ∀ kvs' l', (f l').wp Qr Er → DK A kvs' l' → P (upd H d (.dK kvs'))) : ∃ H5, DPut H d (.int n) (.int x) H5 ∧ P H5 := by
  unfold aputR at hm
  by_cases c : li.length < sizeLine
  · rw [if_pos c] at hm
    exact ⟨_, DPut.k (k := Sum.inl n) hd (by rw [hk.len]; exact c), k _ _ hm (hk.put (x := x) rfl)⟩
  · rw [if_neg c] at hm
    exact hm.elim
theorem c_rAdd {a b : Int} (h : Q (.int (a + b)) H) : L2.rAdd (.int a) (.int b) H Q := ⟨a, b, rfl, rfl, h⟩
theorem c_rSub {a b : Int} (h : Q (.int (a - b)) H) : L2.rSub (.int a) (.int b) H Q := ⟨a, b, rfl, rfl, h⟩
end
/-! ## lists by their methods -/
def rIns : V → List V → Hp → VK → Prop := fun x vs H Q => ∃ (l : Addr) (xs : List V) (i : Int) (y : V), x = .ref l ∧ vs = [.int i, y] ∧ H l = some (.lst xs) ∧ xs.length < sizeLine ∧ 0 ≤ i ∧ i < 2 ^ 63 ∧ Q .non (upd H l (.lst (xs.take i.toNat ++ [y] ++ xs.drop i.toNat)))
theorem mt_ins {X : Cx} : MtR X "list.insert" rIns := mt_insert
section
variable {ω α β γ : Type} [Rep α] [Rep β] {A H : Hp} {v u : V} {xs : List α} {R : List Hp} {K : PySem.W.Frag} {Q : VK} {Qr : γ → Prop} {Er : Exn → ω → Prop} {p : Addr} {ws : List V}
@[irreducible] def popR (xs : List α) (i : Int) : Res ω (α × List α) := match (if -(2 ^ 63) ≤ i ∧ i < 2 ^ 63 then seqIndex? i xs.length else none) with
  | some j => match xs[j]? with
    | some x => .ok (x, xs.eraseIdx j)
    | none => .bad
  | none => .bad
@[irreducible] def popLR (xs : List α) : Res ω (α × List α) := match xs[xs.length - 1]? with
  | some x => .ok (x, xs.dropLast)
  | none => .bad
@[irreducible] def insR (xs : List α) (i : Int) (x : α) : Res ω (List α) := if xs.length < sizeLine ∧ 0 ≤ i ∧ i < 2 ^ 63 then .ok (xs.take i.toNat ++ [x] ++ xs.drop i.toNat) else .bad
theorem All2.erase {P : V → α → Prop} : ∀ {vs : List V} {xs : List α} (i : Nat), All2 P vs xs → All2 P (vs.eraseIdx i) (xs.eraseIdx i)
  | [], [], _, h => h
  | _ :: _, _ :: _, 0, h => h.2
  | _ :: _, _ :: _, i + 1, h => ⟨h.1, All2.erase i h.2⟩
  | [], _ :: _, _, h => h.elim
  | _ :: _, [], _, h => h.elim
theorem All2.reverse {P : V → α → Prop} : ∀ {vs : List V} {xs : List α}, All2 P vs xs → All2 P vs.reverse xs.reverse
  | [], [], h => h
  | v :: vs, x :: xs, h => by
    rw [List.reverse_cons, List.reverse_cons]
    exact All2.append (All2.reverse h.2) ⟨h.1, trivial⟩
  | [], _ :: _, h => h.elim
  | _ :: _, [], h => h.elim
theorem All2.dropLast {P : V → α → Prop} {vs : List V} {xs : List α} (h : All2 P vs xs) : All2 P vs.dropLast xs.dropLast := by
  rw [List.dropLast_eq_take, List.dropLast_eq_take, h.len]
  exact h.take _
theorem c_popAt {i : Int} {f : α × List α → Res ω γ} (S : St H (A :: one p (.lst ws) :: R)) (h : OL A ws xs) (hm : (bind (popR xs i) f).wp Qr Er) (k : ∀ y w us H', Is A w y.1 → (f y).wp Qr Er → St H' (A :: one p (.lst us) :: R) → OL A us y.2 → Q w H') : rPopAt (.ref p) [.int i] H Q := by
  unfold popR at hm
  by_cases c : -(2 ^ 63) ≤ i ∧ i < 2 ^ 63
  · rw [if_pos c] at hm
    cases e : seqIndex? i xs.length with
    | none =>
      rw [e] at hm
      exact hm.elim
    | some j =>
      rw [e] at hm
      cases e2 : xs[j]? with
      | none =>
        have hm : (bind (match xs[j]? with | some x => Res.ok (x, xs.eraseIdx j) | none => Res.bad) f).wp Qr Er := hm
        rw [e2] at hm
        exact hm.elim
      | some x =>
        have hm : (bind (match xs[j]? with | some x => Res.ok (x, xs.eraseIdx j) | none => Res.bad) f).wp Qr Er := hm
        rw [e2] at hm
        obtain ⟨w, hw1, hw2⟩ := h.1.get e2
        exact ⟨p, ws, i, j, w, rfl, rfl, S.second _ _ one_same, c.1, c.2, by rw [h.len]; exact e, hw1, k (x, xs.eraseIdx j) w _ _ hw2 hm S.wr1 ⟨h.1.erase j, Nat.le_trans (List.length_eraseIdx_le _ _) h.2⟩⟩
  · rw [if_neg c] at hm
    exact hm.elim
theorem c_popL {f : α × List α → Res ω γ} (S : St H (A :: one p (.lst ws) :: R)) (h : OL A ws xs) (hm : (bind (popLR xs) f).wp Qr Er) (k : ∀ y w us H', Is A w y.1 → (f y).wp Qr Er → St H' (A :: one p (.lst us) :: R) → OL A us y.2 → Q w H') : rPop (.ref p) [] H Q := by
  unfold popLR at hm
  cases e2 : xs[xs.length - 1]? with
  | none =>
    rw [e2] at hm
    exact hm.elim
  | some x =>
    rw [e2] at hm
    obtain ⟨w, hw1, hw2⟩ := h.1.get e2
    refine ⟨p, ws, w, rfl, rfl, S.second _ _ one_same, by rw [h.len]; exact hw1, k (x, xs.dropLast) w _ _ hw2 hm S.wr1 ⟨h.1.dropLast, ?_⟩⟩
    rw [List.length_dropLast]
    exact Nat.le_trans (Nat.sub_le _ _) h.2
theorem c_ins {i : Int} {x : α} {f : List α → Res ω γ} (S : St H (A :: one p (.lst ws) :: R)) (h : OL A ws xs) (hx : Is A u x) (hm : (bind (insR xs i x) f).wp Qr Er) (k : ∀ zs us H', (f zs).wp Qr Er → St H' (A :: one p (.lst us) :: R) → OL A us zs → Q .non H') : rIns (.ref p) [.int i, u] H Q := by
  unfold insR at hm
  by_cases c : xs.length < sizeLine ∧ 0 ≤ i ∧ i < 2 ^ 63
  · rw [if_pos c] at hm
    refine ⟨p, ws, i, u, rfl, rfl, S.second _ _ one_same, by rw [h.len]; exact c.1, c.2.1, c.2.2, k _ _ _ hm S.wr1 ⟨((h.1.take _).append (show All2 (Rep.is A) [u] [x] from ⟨hx, trivial⟩)).append (h.1.drop _), ?_⟩⟩
    have := c.1
    simp only [List.length_append, List.length_take, List.length_drop, List.length_singleton]
    omega
  · rw [if_neg c] at hm
    exact hm.elim
theorem c_ext {ys : List α} {f : List α → Res ω γ} {b : Addr} {zs : List V} (S : St H (A :: one p (.lst ws) :: R)) (h : OL A ws xs) (hy : LA A H u ys) (hm : (bind (catR xs ys) f).wp Qr Er) (k : ∀ zs us H', (f zs).wp Qr Er → St H' (A :: one p (.lst us) :: R) → OL A us zs → Q .non H') : rExtend (.ref p) [u] H Q := by
  obtain ⟨b, us, rfl, h1, h2⟩ := hy
  unfold catR at hm
  by_cases c : xs.length + ys.length ≤ sizeLine
  · rw [if_pos c] at hm
    exact ⟨p, b, ws, us, rfl, rfl, S.second _ _ one_same, h1, by rw [h.len, h2.len]; exact c, k _ _ _ hm S.wr1 ⟨h.1.append h2.1, by rw [List.length_append]; exact c⟩⟩
  · rw [if_neg c] at hm
    exact hm.elim
theorem c_revL (h : LA A H v xs) (k : RawL A H Q xs.reverse) : ∃ a ys, v = .ref a ∧ SqL K H a ys ∧ ∀ p, H p = none → Q (.ref p) (upd H p (.lst ys.reverse)) := by
  obtain ⟨a, us, rfl, h1, h2⟩ := h
  exact ⟨a, us, rfl, SqL.of h1, fun p hp => k p _ hp ⟨h2.1.reverse, by rw [List.length_reverse]; exact h2.2⟩⟩
theorem c_trevL {te : TE} {σ : L2.St} (h : te σ H fun x H1 => ∃ a ys, x = .ref a ∧ SqL K H1 a ys ∧ ∀ p, H1 p = none → Q (.ref p) (upd H1 p (.lst ys.reverse))) : tRevL K te σ H Q := h
@[irreducible] def idxR (ns : List Int) (x : Int) : Res ω Int := if x ∈ ns then .ok ((ns.idxOf x : Nat) : Int) else .bad
theorem c_idx {ns : List Int} {x : Int} {f : Int → Res ω γ} (h : LA A H v ns) (hm : (bind (idxR ns x) f).wp Qr Er) (k : ∀ j : Int, (f j).wp Qr Er → Q (.int j) H) : rIndex K v [.int x] H Q := by
  unfold idxR at hm
  by_cases c : x ∈ ns
  · rw [if_pos c] at hm
    obtain ⟨a, us, rfl, h1, h2⟩ := h
    rw [h2.int] at h1
    have hlt := List.idxOf_lt_length_iff.mpr c
    refine ⟨a, _, .int x, ns.idxOf x, .int x, rfl, rfl, SqL.of h1, rfl, flat_ints ns, ?_, ?_, fun m z hm' hz => ?_, k _ hm⟩
    · rw [List.getElem?_map, List.getElem?_eq_getElem hlt, List.getElem_idxOf hlt]
      rfl
    · unfold eqV
      simp
    · rw [List.getElem?_map] at hz
      cases e : ns[m]? with
      | none =>
        rw [e] at hz
        cases hz
      | some y =>
        rw [e] at hz
        obtain rfl : V.int y = z := Option.some.inj hz
        have hlm : m < ns.length := (List.getElem?_eq_some_iff.mp e).1
        have hne := List.not_of_lt_findIdx (show m < List.findIdx (· == x) ns from hm')
        have hy : ns[m] = y := (List.getElem?_eq_some_iff.mp e).2
        rw [hy] at hne
        unfold eqV
        simpa using hne
  · rw [if_neg c] at hm
    exact hm.elim
end
end SB
namespace SB
open PySem PySem.Spec PyProof.Rows L2 Res
/-! ## loops backwards and by steps -/
def stepL (lo c : Int) (n : Nat) : List Int := (List.range n).map fun (i : Nat) => lo + (i : Int) * c
@[irreducible] def rg3R {ω : Type} (lo hi c : Int) : Res ω (List Int) := if c = 2 ∧ -1000000 ≤ lo ∧ lo ≤ 1000000 ∧ -1000000 ≤ hi ∧ hi ≤ 1000000 then .ok (stepL lo c ((hi - lo + 1) / 2).toNat) else .bad
@[irreducible] def rvR {ω : Type} (lo hi : Int) : Res ω (List Int) := if -(2 ^ 62) ≤ lo ∧ lo < 2 ^ 62 ∧ -(2 ^ 62) ≤ hi ∧ hi < 2 ^ 62 then .ok (rangeL lo hi).reverse else .bad
section
variable {ω α β' γ σT : Type} [Rep α] {A H : Hp} {v : V} {xs : List α} {R : List Hp} {K : PySem.W.Frag} {Qr : γ → Prop} {Er : Exn → ω → Prop} {σ : L2.St} {D : Ends} {tu tz : TS} {j : Nat} {ta : TA} {g : TG}
theorem wp_turn {body : α → σT → Res ω (Fl β' σT)} {f : Fl β' σT → Res ω γ} {x : α} {l : List α} {s : σT} (h : (bind (forM body (x :: l) s) f).wp Qr Er) : (body x s).wp (fun r => match r with | .next s' => (bind (forM body l s') f).wp Qr Er | .ret y => (f (.ret y)).wp Qr Er) Er := by
  unfold forM at h
  cases hb : body x s with
  | ok r =>
    rw [hb] at h
    cases r <;> exact h
  | ex e w =>
    rw [hb] at h
    exact h
  | bad =>
    rw [hb] at h
    exact h
theorem drop_of {α : Type} {xs : List α} {i : Nat} {x : α} (h : xs[i]? = some x) : xs.drop i = x :: xs.drop (i + 1) := by
  obtain ⟨hlt, hg⟩ := List.getElem?_eq_some_iff.mp h
  rw [← hg]
  exact List.drop_eq_getElem_cons hlt
/-- for x in reversed(a frozen list) -/
theorem c_forV {s0 : σT} {body : α → σT → Res ω (Fl β' σT)} {f : Fl β' σT → Res ω γ} (Rel : Hp → L2.St → List Hp → σT → Prop)
    (S : St H (A :: R)) (hta : ∀ Q' : List V → Hp → Prop, Q' [v] H → ta σ H Q') (hx : Is A v xs) (h0 : Rel A σ R s0) (hm : (bind (forM body xs.reverse s0) f).wp Qr Er)
    (step : ∀ x w A' H' σ' R' s (C : σT → Prop) (N : L2.St → Hp → Prop), x ∈ xs.reverse → Same A A' → St H' (A' :: R') → Is A' w x → Rel A' σ' R' s →
      (∀ A'' H'' σ'' R'' s', Same A A'' → St H'' (A'' :: R'') → Rel A'' σ'' R'' s' → C s' → N σ'' H'') →
      (body x s).wp (fun r => match r with | .next s' => C s' | .ret y => (f (.ret y)).wp Qr Er) Er → tu { D with nx := N, ct := N, bk := D.nx } (σ'.set j (some w)) H')
    (done : ∀ A' H' σ' R' s, Same A A' → St H' (A' :: R') → Rel A' σ' R' s → (f (.next s)).wp Qr Er → D.nx σ' H') : tFor (iRev K ta) (gName j) tu D σ H := by
  obtain ⟨a, us, rfl, h1, h2⟩ := hx
  refine hta _ ⟨a, us, rfl, SqL.of (S.1 _ _ h1), ?_⟩
  refine ⟨fun i m σ' H' => i + m = xs.length ∧ ∃ A' R' s, Same A A' ∧ St H' (A' :: R') ∧ Rel A' σ' R' s ∧ (bind (forM body (xs.reverse.drop i) s) f).wp Qr Er, ⟨xs.length, by omega, A, R, s0, Same.refl _, S, h0, hm⟩, ?_⟩
  rintro i m σ' H' ⟨him, A', R', s, e, S', hr, hw⟩
  have hq : SqL K H' a us := SqL.of (S'.1 _ _ (e _ _ h1))
  by_cases hi : i < xs.length
  · have hxi : xs[us.length - 1 - i]? = some (xs[xs.length - 1 - i]) := by
      rw [h2.len]
      exact List.getElem?_eq_getElem (by omega)
    have hyi : xs.reverse[i]? = some (xs[xs.length - 1 - i]) := by
      rw [List.getElem?_reverse hi]
      exact List.getElem?_eq_getElem (by omega)
    obtain ⟨u, hu, hxu⟩ := h2.1.get hxi
    refine .inr ⟨⟨by rw [h2.len]; exact hi, us, u, hq, hu⟩, fun σ2 H2 => ∃ A' R' s, Same A A' ∧ St H2 (A' :: R') ∧ Rel A' σ2 R' s ∧ (bind (forM body (xs.reverse.drop (i + 1)) s) f).wp Qr Er, fun σ2 H2 h => ⟨m - 1, by omega, by omega, h⟩, ?_⟩
    rintro y H2 ⟨rfl, hz⟩
    have ez : u = y := Option.some.inj (hu.symm.trans (hz us hq))
    subst ez
    rw [drop_of hyi] at hw
    exact step _ u A' _ σ' R' s (fun s' => (bind (forM body (xs.reverse.drop (i + 1)) s') f).wp Qr Er) _ (List.mem_of_getElem? hyi) e S' (Rep.mono e hxu) hr (fun A'' H'' σ'' R'' s' e' S'' hr' hc => ⟨A'', R'', s', e', S'', hr', hc⟩) (wp_turn hw)
  · refine .inl ⟨by show us.length ≤ i; rw [h2.len]; omega, ?_⟩
    rw [List.drop_eq_nil_of_le (by rw [List.length_reverse]; omega)] at hw
    exact done A' H' σ' R' s e S' hr hw
theorem stepL_get {lo c : Int} {n i : Nat} (h : i < n) : (stepL lo c n)[i]? = some (lo + (i : Int) * c) := by
  unfold stepL
  rw [List.getElem?_map, List.getElem?_range h]
  rfl
theorem for_steps {lo c : Int} {n : Nat} {s0 : σT} {body : Int → σT → Res ω (Fl β' σT)} {f : Fl β' σT → Res ω γ} (Rel : Hp → L2.St → List Hp → σT → Prop)
    (S : St H (A :: R)) (h0 : Rel A σ R s0) (hm : (bind (forM body (stepL lo c n) s0) f).wp Qr Er)
    (step : ∀ (x : Int) A' H' σ' R' s (C : σT → Prop) (N : L2.St → Hp → Prop), Same A A' → St H' (A' :: R') → Rel A' σ' R' s →
      (∀ A'' H'' σ'' R'' s', Same A A'' → St H'' (A'' :: R'') → Rel A'' σ'' R'' s' → C s' → N σ'' H'') →
      (body x s).wp (fun r => match r with | .next s' => C s' | .ret y => (f (.ret y)).wp Qr Er) Er → tu { D with nx := N, ct := N, bk := D.nx } (σ'.set j (some (.int x))) H')
    (done : ∀ A' H' σ' R' s, Same A A' → St H' (A' :: R') → Rel A' σ' R' s → (f (.next s)).wp Qr Er → D.nx σ' H') :
    ∃ W : Nat → Nat → L2.St → Hp → Prop, (∃ m, W 0 m σ H) ∧ ∀ i m σ H, W i m σ H → ((Itc lo c n).stop i H ∧ D.nx σ H) ∨ ((Itc lo c n).go i H ∧ ∃ N : L2.St → Hp → Prop, (∀ σ' H', N σ' H' → ∃ m', m' < m ∧ W (i + 1) m' σ' H') ∧ ∀ x H', (Itc lo c n).yld i H x H' → gName j x σ H' fun σ2 H2 => tu { D with nx := N, ct := N, bk := D.nx } σ2 H2) := by
  refine for_rangeC (fun i σ' H' => ∃ A' R' s, Same A A' ∧ St H' (A' :: R') ∧ Rel A' σ' R' s ∧ (bind (forM body ((stepL lo c n).drop i) s) f).wp Qr Er) ⟨A, R, s0, Same.refl _, S, h0, hm⟩ (fun i σ' H' hi ⟨A', R', s, e, S', hr, hw⟩ => ?_) (fun σ' H' ⟨A', R', s, e, S', hr, hw⟩ => ?_)
  · rw [drop_of (stepL_get hi)] at hw
    exact step _ A' H' σ' R' s (fun s' => (bind (forM body ((stepL lo c n).drop (i + 1)) s') f).wp Qr Er) _ e S' hr (fun A'' H'' σ'' R'' s' e' S'' hr' hc => ⟨A'', R'', s', e', S'', hr', hc⟩) (wp_turn hw)
  · rw [List.drop_eq_nil_of_le (by unfold stepL; rw [List.length_map, List.length_range]; exact Nat.le_refl _)] at hw
    exact done A' H' σ' R' s e S' hr hw
theorem size2 (lo hi : Int) : Builtin.Range.rangeSize lo hi 2 = ((((hi - lo + 1) / 2).toNat : Nat) : Int) := by
  unfold Builtin.Range.rangeSize
  rw [if_pos (by decide)]
  split <;> omega
theorem fits_of {i : Int} (h : -4000000 ≤ i ∧ i ≤ 4000000) : Builtin.Range.rangeFitsLong i = true := by
  unfold Builtin.Range.rangeFitsLong
  rw [Bool.and_eq_true, decide_eq_true_iff, decide_eq_true_iff]
  have : (2 : Int) ^ 63 = 9223372036854775808 := by decide
  omega
theorem small_of {lo hi : Int} (h : -1000000 ≤ lo ∧ lo ≤ 1000000 ∧ -1000000 ≤ hi ∧ hi ≤ 1000000) : Builtin.Range.small lo hi 2 = true := by
  unfold Builtin.Range.small
  rw [size2, fits_of (by omega), fits_of (by omega), fits_of (by omega), fits_of (by omega), if_pos (by decide), fits_of (by omega), Bool.or_true]
  rfl
theorem c_forR3 {lo hi c : Int} {s0 : σT} {body : Int → σT → Res ω (Fl β' σT)} {f : Fl β' σT → Res ω γ} (Rel : Hp → L2.St → List Hp → σT → Prop)
    (S : St H (A :: R)) (hta : ∀ Q' : List V → Hp → Prop, Q' [.int lo, .int hi, .int c] H → ta σ H Q') (h0 : Rel A σ R s0) (hm : (bind (bind (rg3R lo hi c) fun l => forM body l s0) f).wp Qr Er)
    (step : ∀ (x : Int) A' H' σ' R' s (C : σT → Prop) (N : L2.St → Hp → Prop), Same A A' → St H' (A' :: R') → Rel A' σ' R' s →
      (∀ A'' H'' σ'' R'' s', Same A A'' → St H'' (A'' :: R'') → Rel A'' σ'' R'' s' → C s' → N σ'' H'') →
      (body x s).wp (fun r => match r with | .next s' => C s' | .ret y => (f (.ret y)).wp Qr Er) Er → tu { D with nx := N, ct := N, bk := D.nx } (σ'.set j (some (.int x))) H')
    (done : ∀ A' H' σ' R' s, Same A A' → St H' (A' :: R') → Rel A' σ' R' s → (f (.next s)).wp Qr Er → D.nx σ' H') : tFor (iRng3 ta) (gName j) tu D σ H := by
  unfold rg3R at hm
  by_cases hc : c = 2 ∧ -1000000 ≤ lo ∧ lo ≤ 1000000 ∧ -1000000 ≤ hi ∧ hi ≤ 1000000
  · rw [if_pos hc] at hm
    obtain ⟨rfl, hc⟩ := hc
    refine hta _ ⟨lo, hi, 2, _, rfl, ⟨by decide, by decide, small_of hc, size2 lo hi⟩, ?_⟩
    exact for_steps Rel S h0 hm step done
  · rw [if_neg hc] at hm
    exact hm.elim
theorem rangeL_rev (lo hi : Int) : (rangeL lo hi).reverse = stepL (lo + (((hi - lo).toNat : Nat) : Int) - 1) (-1) (hi - lo).toNat := by
  apply List.ext_getElem?
  intro i
  by_cases h : i < (hi - lo).toNat
  · rw [List.getElem?_reverse (by rw [range_len]; exact h), stepL_get h, range_len]
    unfold rangeL
    rw [List.getElem?_map, List.getElem?_range (by omega)]
    show some (lo + (((hi - lo).toNat - 1 - i : Nat) : Int)) = _
    congr 1
    omega
  · rw [List.getElem?_eq_none (by rw [List.length_reverse, range_len]; omega), List.getElem?_eq_none (by unfold stepL; rw [List.length_map, List.length_range]; omega)]
theorem c_forRV {lo hi : Int} {tr : L2.St → Hp → (Int → Int → Hp → Prop) → Prop} {s0 : σT} {body : Int → σT → Res ω (Fl β' σT)} {f : Fl β' σT → Res ω γ} (Rel : Hp → L2.St → List Hp → σT → Prop)
    (S : St H (A :: R)) (htr : ∀ Q' : Int → Int → Hp → Prop, Q' lo hi H → tr σ H Q') (h0 : Rel A σ R s0) (hm : (bind (bind (rvR lo hi) fun l => forM body l s0) f).wp Qr Er)
    (step : ∀ (x : Int) A' H' σ' R' s (C : σT → Prop) (N : L2.St → Hp → Prop), Same A A' → St H' (A' :: R') → Rel A' σ' R' s →
      (∀ A'' H'' σ'' R'' s', Same A A'' → St H'' (A'' :: R'') → Rel A'' σ'' R'' s' → C s' → N σ'' H'') →
      (body x s).wp (fun r => match r with | .next s' => C s' | .ret y => (f (.ret y)).wp Qr Er) Er → tu { D with nx := N, ct := N, bk := D.nx } (σ'.set j (some (.int x))) H')
    (done : ∀ A' H' σ' R' s, Same A A' → St H' (A' :: R') → Rel A' σ' R' s → (f (.next s)).wp Qr Er → D.nx σ' H') : tFor (iRevR tr) (gName j) tu D σ H := by
  unfold rvR at hm
  by_cases hc : -(2 ^ 62) ≤ lo ∧ lo < 2 ^ 62 ∧ -(2 ^ 62) ≤ hi ∧ hi < 2 ^ 62
  · rw [if_pos hc, rangeL_rev] at hm
    refine htr _ ⟨hc.1, hc.2.1, hc.2.2.1, hc.2.2.2, ?_⟩
    exact for_steps Rel S h0 hm step done
  · rw [if_neg hc] at hm
    exact hm.elim
theorem q_forV (h : ta σ H fun us H1 => tFor (iRev K (tArgs us)) g tu { D with nx := tz D } σ H1) : tSeq (tFor (iRev K ta) g tu) tz D σ H := h
theorem s_forV (h : ta σ H fun us H1 => tFor (iRev K (tArgs us)) g tu D σ H1) : tFor (iRev K ta) g tu D σ H := h
theorem q_forR3 (h : ta σ H fun us H1 => tFor (iRng3 (tArgs us)) g tu { D with nx := tz D } σ H1) : tSeq (tFor (iRng3 ta) g tu) tz D σ H := h
theorem s_forR3 (h : ta σ H fun us H1 => tFor (iRng3 (tArgs us)) g tu D σ H1) : tFor (iRng3 ta) g tu D σ H := h
end
end SB

namespace SB
open PySem PySem.Spec PyProof.Rows L2 Res
/-! ## triples -/
structure Tri (α β γ : Type) where
  a : α
  b : β
  c : γ
  deriving DecidableEq
instance instTri {α β γ : Type} [Rep α] [Rep β] [Rep γ] : Rep (Tri α β γ) := ⟨fun A v x => ∃ p u w z, v = .ref p ∧ A p = some (.tup [u, w, z]) ∧ Rep.is A u x.a ∧ Rep.is A w x.b ∧ Rep.is A z x.c,
  fun e ⟨p, u, w, z, h1, h2, h3, h4, h5⟩ => ⟨p, u, w, z, h1, e _ _ h2, Rep.mono e h3, Rep.mono e h4, Rep.mono e h5⟩⟩
/-! ## data with texts in it -/
class RepS (α : Type) [Rep α] where
  D : α → PyData
  ok : α → Bool
  nn : ∀ x, D x ≠ .none
  dp : ∀ {K : PySem.W.Frag} {A H : Hp} {v : V} {x : α}, Same A H → Rep.is A v x → Dp K H v (D x)
  shp : ∀ x, ok x = true → (D x).canLay0 = true
  deep : Nat
  dpt : ∀ x, (D x).depth ≤ deep
  eqv : ∀ x y, PyData.eqv (D x) (D y) = true ↔ x = y
instance : RepS Int := ⟨.int, fun _ => true, fun _ h => (nomatch h), fun _ h => by cases h; exact .int _, fun _ _ => rfl, 0, fun _ => Nat.le_refl _, fun x y => by show (x == y) = true ↔ x = y; exact beq_iff_eq⟩
instance : RepS Bool := ⟨.bool, fun _ => true, fun _ h => (nomatch h), fun _ h => by cases h; exact .bl _, fun _ _ => rfl, 0, fun _ => Nat.le_refl _, fun x y => by show (x == y) = true ↔ x = y; exact beq_iff_eq⟩
instance : RepS Str := ⟨.str, fun x => (PyData.str x).canLay0, fun _ h => (nomatch h), fun _ h => by cases h; exact .str _, fun _ h => h, 0, fun _ => Nat.le_refl _, fun x y => by show (x == y) = true ↔ x = y; exact beq_iff_eq⟩
theorem dpAllS {α : Type} [Rep α] [RepS α] {K : PySem.W.Frag} {A H : Hp} (e : Same A H) : ∀ {vs : List V} {xs : List α}, All2 (Rep.is A) vs xs → DpAll K H vs (xs.map RepS.D)
  | [], [], _ => .nil
  | _ :: _, _ :: _, h => .cons (RepS.dp e h.1) (dpAllS e h.2)
  | [], _ :: _, h => h.elim
  | _ :: _, [], h => h.elim
theorem layS {α : Type} [Rep α] [RepS α] : ∀ xs : List α, xs.all RepS.ok = true → PyData.canLayAll0 (xs.map RepS.D) = true
  | [], _ => rfl
  | x :: xs, h => by
    rw [List.all_cons, Bool.and_eq_true] at h
    show (PyData.canLay0 (RepS.D x) && PyData.canLayAll0 (xs.map RepS.D)) = true
    rw [RepS.shp x h.1, layS xs h.2]
    rfl
theorem dptS {α : Type} [Rep α] [RepS α] : ∀ xs : List α, PyData.depthAll (xs.map RepS.D) ≤ RepS.deep (α := α)
  | [] => Nat.zero_le _
  | x :: xs => by
    show max (PyData.depth (RepS.D x)) (PyData.depthAll (xs.map RepS.D)) ≤ _
    exact Nat.max_le.mpr ⟨RepS.dpt x, dptS xs⟩
theorem eqvS {α : Type} [Rep α] [RepS α] : ∀ xs ys : List α, PyData.eqvAll (xs.map RepS.D) (ys.map RepS.D) = true ↔ xs = ys
  | [], [] => by simp [PyData.eqvAll]
  | [], _ :: _ => by simp [PyData.eqvAll]
  | _ :: _, [] => by simp [PyData.eqvAll]
  | x :: xs, y :: ys => by
    show (PyData.eqv (RepS.D x) (RepS.D y) && PyData.eqvAll (xs.map RepS.D) (ys.map RepS.D)) = true ↔ _
    rw [Bool.and_eq_true, RepS.eqv, eqvS xs ys]
    constructor
    · rintro ⟨rfl, rfl⟩
      rfl
    · intro h
      injection h with h1 h2
      exact ⟨h1, h2⟩
instance instSList {α : Type} [Rep α] [RepS α] : RepS (List α) where
  D := fun xs => .list (xs.map RepS.D)
  ok := fun xs => xs.all RepS.ok
  nn := fun _ h => nomatch h
  dp := fun e ⟨a, vs, h1, h2, h3⟩ => by
    subst h1
    exact .lst (SqL.of (e _ _ h2)) (dpAllS e h3.1)
  shp := fun xs h => layS xs h
  deep := RepS.deep (α := α) + 1
  dpt := fun xs => Nat.succ_le_succ (dptS xs)
  eqv := fun xs ys => eqvS xs ys
instance instSProd {α β : Type} [Rep α] [Rep β] [RepS α] [RepS β] : RepS (α × β) where
  D := fun x => .tuple [RepS.D x.1, RepS.D x.2]
  ok := fun x => RepS.ok x.1 && RepS.ok x.2
  nn := fun _ h => nomatch h
  dp := fun e ⟨a, u, w, h1, h2, h3, h4⟩ => by
    subst h1
    exact .tup (SqT.of (e _ _ h2)) (.cons (RepS.dp e h3) (.cons (RepS.dp e h4) .nil))
  shp := fun x h => by
    rw [Bool.and_eq_true] at h
    show (PyData.canLay0 (RepS.D x.1) && (PyData.canLay0 (RepS.D x.2) && true)) = true
    rw [RepS.shp x.1 h.1, RepS.shp x.2 h.2]
    rfl
  deep := max (RepS.deep (α := α)) (RepS.deep (α := β)) + 1
  dpt := fun x => by
    have h1 := RepS.dpt x.1
    have h2 := RepS.dpt x.2
    show max (PyData.depth (RepS.D x.1)) (max (PyData.depth (RepS.D x.2)) 0) + 1 ≤ _
    omega
  eqv := fun x y => by
    show (PyData.eqv (RepS.D x.1) (RepS.D y.1) && (PyData.eqv (RepS.D x.2) (RepS.D y.2) && true)) = true ↔ _
    rw [Bool.and_true, Bool.and_eq_true, RepS.eqv, RepS.eqv]
    exact ⟨fun ⟨h1, h2⟩ => Prod.ext h1 h2, fun h => by rw [h]; exact ⟨rfl, rfl⟩⟩
@[irreducible] def eqdR {ω α : Type} [Rep α] [RepS α] [DecidableEq α] (x y : α) : Res ω Bool := if (RepS.ok x && RepS.ok y) = true then .ok (decide (x = y)) else .bad
section
variable {ω α γ : Type} [Rep α] [RepS α] [DecidableEq α] {K : PySem.W.Frag} {A H : Hp} {R : List Hp} {Q : VK} {x y : α} {v u : V} {f : Bool → Res ω γ} {Qr : γ → Prop} {Er : Exn → ω → Prop}
theorem eqd_by (hm : (bind (eqdR x y) f).wp Qr Er) (hd : RepS.deep (α := α) ≤ 64) : SeqAt.shaped (RepS.D x) = true ∧ SeqAt.shaped (RepS.D y) = true ∧ PyData.eqv (RepS.D x) (RepS.D y) = decide (x = y) ∧ (f (decide (x = y))).wp Qr Er := by
  unfold eqdR at hm
  by_cases c : (RepS.ok x && RepS.ok y) = true
  · rw [if_pos c] at hm
    rw [Bool.and_eq_true] at c
    have sh : ∀ z : α, RepS.ok z = true → SeqAt.shaped (RepS.D z) = true := fun z h => by
      unfold SeqAt.shaped
      rw [RepS.shp z h, decide_eq_true (Nat.le_trans (RepS.dpt z) hd)]
      rfl
    refine ⟨sh x c.1, sh y c.2, ?_, hm⟩
    by_cases z : x = y
    · rw [(RepS.eqv x y).mpr z, decide_eq_true z]
    · rw [decide_eq_false z]
      cases q : PyData.eqv (RepS.D x) (RepS.D y) with
      | true => exact absurd ((RepS.eqv x y).mp q) z
      | false => rfl
  · rw [if_neg c] at hm
    exact hm.elim
theorem c_eqDS (hx : Dp K H v (RepS.D x)) (hy : Dp K H u (RepS.D y)) (hd : RepS.deep (α := α) ≤ 64) (hm : (bind (eqdR x y) f).wp Qr Er) (k : (f (decide (x = y))).wp Qr Er → Q (.bl (decide (x = y))) H) : rEqD K v u H Q := by
  obtain ⟨h1, h2, h3, h4⟩ := eqd_by hm hd
  refine ⟨_, _, hx, hy, h1, h2, ?_⟩
  rw [h3]
  exact k h4
theorem c_neDS (hx : Dp K H v (RepS.D x)) (hy : Dp K H u (RepS.D y)) (hd : RepS.deep (α := α) ≤ 64) (hm : (bind (eqdR x y) f).wp Qr Er) (k : (f (decide (x = y))).wp Qr Er → Q (.bl (!decide (x = y))) H) : rNeD K v u H Q := by
  obtain ⟨h1, h2, h3, h4⟩ := eqd_by hm hd
  refine ⟨_, _, hx, hy, h1, h2, ?_⟩
  rw [h3]
  exact k h4
theorem dps_of (S : St H (A :: R)) (h : Is A v x) : Dp K H v (RepS.D x) := RepS.dp S.1 h
theorem dps_la {xs : List α} (S : St H (A :: R)) (h : LA A H v xs) : Dp K H v (RepS.D xs) := by
  obtain ⟨a, vs, rfl, h1, h2⟩ := h
  exact .lst (SqL.of h1) (dpAllS S.1 h2.1)
end
theorem decS {x y : Str} : decide (V.str x = V.str y) = decide (x = y) := by
  by_cases h : x = y
  · rw [decide_eq_true h, decide_eq_true (by rw [h])]
  · rw [decide_eq_false h, decide_eq_false fun z => h (V.str.inj z)]
theorem c_eqS {x y : Str} {Q : VK} {H : Hp} (k : Q (.bl (decide (x = y))) H) : rEq (.str x) (.str y) H Q := by
  refine ⟨rfl, ?_⟩
  rw [decS]
  exact k
theorem c_neS {x y : Str} {Q : VK} {H : Hp} (k : Q (.bl (!decide (x = y))) H) : rNe (.str x) (.str y) H Q := by
  refine ⟨rfl, ?_⟩
  rw [decS]
  exact k
theorem all2_str {A : Hp} : ∀ {vs : List V} {ns : List Str}, All2 (Rep.is A) vs ns → vs = ns.map V.str
  | [], [], _ => rfl
  | v :: vs, n :: ns, h => by
    have h1 : v = .str n := h.1
    rw [h1, all2_str h.2]
    rfl
  | [], _ :: _, h => h.elim
  | _ :: _, [], h => h.elim
theorem inV_str (x : Str) : ∀ ns : List Str, inV (.str x) (ns.map V.str) = decide (x ∈ ns)
  | [] => by
    unfold inV
    simp
  | n :: ns => by
    have ih := inV_str x ns
    unfold inV at ih ⊢
    rw [List.map_cons, List.any_cons, ih]
    by_cases e : x = n
    · subst e
      simp [eqV]
    · have : ¬ n = x := fun z => e z.symm
      simp [eqV, e, this]
section
variable {K : PySem.W.Frag} {A H m : Hp} {R : List Hp} {Q : VK} {v : V} {T : Cs} {t : Bool}
theorem flat_strs (ns : List Str) : (ns.map V.str).all flatV = true := by
  rw [List.all_map]
  exact List.all_eq_true.mpr fun _ _ => rfl
theorem c_inS {x : Str} {ns : List Str} (h : LA A H v ns) (k : Q (.bl (decide (x ∈ ns))) H) : rIn K false (.str x) v H Q := by
  obtain ⟨a, vs, rfl, h1, h2⟩ := h
  rw [all2_str h2.1] at h1
  refine ⟨a, _, rfl, .inl (SqL.of h1), rfl, flat_strs ns, ?_⟩
  rw [inV_str]
  exact k
theorem c_notinS {x : Str} {ns : List Str} (h : LA A H v ns) (k : Q (.bl (!decide (x ∈ ns))) H) : rIn K true (.str x) v H Q := by
  obtain ⟨a, vs, rfl, h1, h2⟩ := h
  rw [all2_str h2.1] at h1
  refine ⟨a, _, rfl, .inl (SqL.of h1), rfl, flat_strs ns, ?_⟩
  show Q (.bl (!inV _ _)) H
  rw [inV_str]
  exact k
/-! ## in, of data -/
theorem any_eqv {α : Type} [RepD α] [DecidableEq α] (x : α) : ∀ xs : List α, ((xs.map RepD.D).any fun z => PyData.eqv z (RepD.D x)) = decide (x ∈ xs)
  | [] => by simp
  | y :: xs => by
    rw [List.map_cons, List.any_cons, any_eqv x xs]
    by_cases e : y = x
    · rw [(RepD.eqv y x).mpr e]
      subst e
      simp
    · have h : PyData.eqv (RepD.D y) (RepD.D x) = false := by
        cases q : PyData.eqv (RepD.D y) (RepD.D x) with
        | true => exact absurd ((RepD.eqv y x).mp q) e
        | false => rfl
      have e' : ¬ x = y := fun z => e z.symm
      rw [h]
      simp [e']
theorem any_eqv' {α : Type} [RepD α] [DecidableEq α] (x : α) (xs : List α) [inst : Decidable (x ∈ xs)] : ((xs.map RepD.D).any fun z => PyData.eqv z (RepD.D x)) = @decide (x ∈ xs) inst := (any_eqv x xs).trans (decide_eq_decide.mpr Iff.rfl)
theorem c_inD {α : Type} [RepD α] [DecidableEq α] {x : α} {xs : List α} {u : V} [inst : Decidable (x ∈ xs)] (S : St H (A :: R)) (hx : Is A u x) (h : LA A H v xs) (hd : RepD.deep (α := List α) ≤ 64) (k : Q (.bl (decide (x ∈ xs))) H) : rInD K u v H Q := by
  have hd1 : RepD.deep (α := α) ≤ 64 := Nat.le_trans (Nat.le_succ _) hd
  refine ⟨_, _, dp_of S hx, dp_la S h, shaped_of hd1 x, shaped_of (α := List α) hd xs, ?_⟩
  rw [any_eqv' (inst := inst) x xs]
  exact k
theorem c_notinD {α : Type} [RepD α] [DecidableEq α] {x : α} {xs : List α} {u : V} [inst : Decidable (x ∈ xs)] (S : St H (A :: R)) (hx : Is A u x) (h : LA A H v xs) (hd : RepD.deep (α := List α) ≤ 64) (k : Q (.bl (!decide (x ∈ xs))) H) : rNotInD K u v H Q := by
  have hd1 : RepD.deep (α := α) ≤ 64 := Nat.le_trans (Nat.le_succ _) hd
  refine ⟨_, _, dp_of S hx, dp_la S h, shaped_of hd1 x, shaped_of (α := List α) hd xs, ?_⟩
  rw [any_eqv' (inst := inst) x xs]
  exact k
/-! ## isinstance -/
theorem isi_tup {α β : Type} [Rep α] [Rep β] {x : α × β} (S : St H (A :: R)) (h : Is A v x) (k : Q (.bl true) H) : rIsi K [v, .ty "tuple"] H Q := by
  obtain ⟨a, u, w, rfl, h2, _⟩ := h
  exact c_isi (.base (.tup (S.1 _ _ h2))) (kit_ty (by decide +kernel)) k
theorem isi_str {x : Str} (k : Q (.bl true) H) : rIsi K [.str x, .ty "str"] H Q := c_isi (.base (.str x)) (kit_ty (by decide +kernel)) k
theorem isi_oint {x : Option Int} (h : Is A v x) (k : Q (.bl x.isSome) H) : rIsi K [v, .ty "int"] H Q := by
  cases x with
  | none =>
    obtain rfl : v = .non := h
    exact c_isi (.base .non) (kit_ty (by decide +kernel)) k
  | some n =>
    obtain rfl : v = .int n := h.2
    exact c_isi (b := true) (.base (.int n)) (kit_ty (by decide +kernel)) k
theorem isi_oint_bool {x : Option Int} (h : Is A v x) (k : Q (.bl false) H) : rIsi K [v, .ty "bool"] H Q := by
  cases x with
  | none =>
    obtain rfl : v = .non := h
    exact c_isi (.base .non) (kit_ty (by decide +kernel)) k
  | some n =>
    obtain rfl : v = .int n := h.2
    exact c_isi (.base (.int n)) (kit_ty (by decide +kernel)) k
/-- an object of an own class -/
structure KI (K : PySem.W.Frag) (C : Addr) : Prop where
  c : PySem.W.findIn K (.ref C) "__class__" = some (some (.builtin "object.__class__"))
  g : PySem.W.specialIn K (.builtin "object.__class__") "__get__" = some (some (.builtin "getset_descriptor.__get__"))
  t : PySem.W.takesIn K (.builtin "object.__class__") = some true
  m : PySem.W.mroIn K C (.type "object") = some true
theorem isi_own {C : Addr} {b : Bool} {s : FS t} (kl : Kl K (T.cls t) t) (ki : KI K (T.cls t)) (S : St H (A :: m :: R)) (h : Ob.isAt T A m v s) (hk : PySem.W.kitOne K (.ref (T.cls t)) (.ref C) = some b) (k : Q (.bl b) H) : rIsi K [v, .ref C] H Q := by
  obtain ⟨p, dx, dr, de, da, db, rfl, h2, _⟩ := h
  exact ⟨_, _, _, _, b, rfl, .own C, .base (.ins (S.second _ _ h2) kl.cl ki.c ki.g ki.t ki.m), hk, k⟩
/-! ## more -/
theorem c_tupN {vs : List V} (S : St H (A :: R)) (hz : vs.length ≤ 1000) (k : ∀ p A' H', Same A A' → St H' (A' :: R) → A' p = some (.tup vs) → Q (.ref p) H') : NewT Q vs H :=
  ⟨Nat.le_of_lt (small1000 hz), fun p hp => k p _ _ (same_upd (S.1.free hp)) (S.new hp) upd_same⟩
theorem oo_any {B : Hp} {x : Option (List Int)} (h : Ob.isAt T A m v x) : Ob.isAt T B m v x := by
  cases x with
  | none => exact h
  | some l =>
    obtain ⟨p, ws, h1, h2, h3⟩ := h
    exact ⟨p, ws, h1, h2, h3.any⟩
theorem dk_any {B : Hp} : ∀ {kvs : List (Key × V)} {l : List (Int × Int)}, DK A kvs l → DK B kvs l
  | [], [], _ => trivial
  | _ :: _, _ :: _, h => ⟨h.1, h.2.1, dk_any h.2.2⟩
  | [], _ :: _, h => h.elim
  | _ :: _, [], h => h.elim
theorem opt_int_any {B : Hp} {x : Option Int} (h : Is A v x) : Is B v x := by
  cases x with
  | none => exact h
  | some n => exact h
end
end SB
namespace SB
open PySem PySem.Spec PyProof.Rows L2 Res
theorem room65 {k : Nat} {A : Around} (r : Room k A) : A.units + 65 < cLine := by have := r.un; omega
section
variable {ω α β γ : Type} [Rep α] [Rep β] {K : PySem.W.Frag} {A H : Hp} {R : List Hp} {Q : VK} {v : V} {σ : L2.St} {t : TGs} {P : L2.St → Hp → Prop} {p : Addr} {ws : List V} {xs : List α}
theorem g_tupP {x : α × β} (S : St H (A :: R)) (h : Is A v x) (k : ∀ u w, Is A u x.1 → Is A w x.2 → t [u, w] σ H P) : gTup K 2 t v σ H P := by
  obtain ⟨a, u, w, rfl, h2, h3, h4⟩ := h
  exact g_tup (S.1 _ _ h2) rfl (k u w h3 h4)
theorem g_tupT {γ : Type} [Rep γ] {x : Tri α β γ} (S : St H (A :: R)) (h : Is A v x) (k : ∀ u w z, Is A u x.a → Is A w x.b → Is A z x.c → t [u, w, z] σ H P) : gTup K 3 t v σ H P := by
  obtain ⟨a, u, w, z, rfl, h2, h3, h4, h5⟩ := h
  exact g_tup (S.1 _ _ h2) rfl (k u w z h3 h4 h5)
theorem c_ixN {a : Addr} {vs : List V} {i : Int} {w : V} (h : H a = some (.tup vs)) (hi : atI vs i = some w) (k : Q w H) : rIxT K (.ref a) (.int i) H Q := ⟨a, vs, i, w, rfl, rfl, SqT.of h, hi, k⟩
theorem c_ixTri0 {γ : Type} [Rep γ] {x : Tri α β γ} (S : St H (A :: R)) (h : Is A v x) (k : ∀ w, Is A w x.a → Q w H) : rIxT K v (.int 0) H Q := by
  obtain ⟨a, u, w, z, rfl, h2, h3, h4, h5⟩ := h
  exact c_ixN (S.1 _ _ h2) rfl (k u h3)
theorem c_ixTri1 {γ : Type} [Rep γ] {x : Tri α β γ} (S : St H (A :: R)) (h : Is A v x) (k : ∀ w, Is A w x.b → Q w H) : rIxT K v (.int 1) H Q := by
  obtain ⟨a, u, w, z, rfl, h2, h3, h4, h5⟩ := h
  exact c_ixN (S.1 _ _ h2) rfl (k w h4)
theorem c_ixTri2 {γ : Type} [Rep γ] {x : Tri α β γ} (S : St H (A :: R)) (h : Is A v x) (k : ∀ w, Is A w x.c → Q w H) : rIxT K v (.int 2) H Q := by
  obtain ⟨a, u, w, z, rfl, h2, h3, h4, h5⟩ := h
  exact c_ixN (S.1 _ _ h2) rfl (k z h5)
theorem c_tri {γ : Type} [Rep γ] {x : α} {y : β} {z : γ} {u w q : V} (S : St H (A :: R)) (h1 : Is A u x) (h2 : Is A w y) (h3 : Is A q z) (k : ∀ p A' H', Same A A' → St H' (A' :: R) → Is A' (.ref p) (Tri.mk x y z) → Q (.ref p) H') : NewT Q [u, w, q] H :=
  c_tupN S (Nat.le_of_ble_eq_true rfl) fun p A' H' e S' h => k p A' H' e S' ⟨p, u, w, q, rfl, h, up h1 e, up h2 e, up h3 e⟩
theorem c_rev (S : St H (A :: one p (.lst ws) :: R)) (h : OL A ws xs) (k : ∀ us H', St H' (A :: one p (.lst us) :: R) → OL A us xs.reverse → Q .non H') : rReverse (.ref p) [] H Q :=
  ⟨p, ws, rfl, rfl, S.second _ _ one_same, k _ _ S.wr1 ⟨h.1.reverse, by rw [List.length_reverse]; exact h.2⟩⟩
theorem c_isNN (k : Q (.bl true) H) : L2.rIsN .non .non H Q := ⟨rfl, k⟩
theorem c_notNN (k : Q (.bl false) H) : L2.rNotN .non .non H Q := ⟨rfl, k⟩
end
end SB
namespace SB
open PySem PySem.Spec PyProof.Rows L2 Res
theorem lty {K : PySem.W.Frag} {α : Type} [Rep α] {A H : Hp} {v : V} {xs : List α} (h : LA A H v xs) : tyV K "list" v H := by
  obtain ⟨a, vs, rfl, h1, h2⟩ := h
  exact .inl ⟨rfl, _, SqL.of h1⟩
theorem isi_tp {K : PySem.W.Frag} {A H : Hp} {R : List Hp} {Q : VK} {a : Addr} {vs : List V} (S : St H (A :: R)) (h : A a = some (.tup vs)) (k : Q (.bl true) H) : rIsi K [.ref a, .ty "tuple"] H Q :=
  c_isi (.base (.tup (S.1 _ _ h))) (kit_ty (by decide +kernel)) k
end SB

namespace SB
open PySem PySem.Spec PyProof.Rows L2 Res
/-! ## Field() -/
def sp_bini (T : Cs) (K : PySem.W.Frag) : Sp := fun vs H Q _ => ∃ (A : Hp) (R : List Hp) (p dx : Addr), vs = [.ref p] ∧ St H (A :: one p (.ins (T.cls true) dx []) :: R) ∧
  ∀ dr de H', St H' (A :: one p (.ins (T.cls true) dx [("ranks", .ref dr), ("edges", .ref de), ("after", .int 0)]) :: one de (.dK []) :: one dr (.dK []) :: R) → Q .non H'
theorem wk_bini {T : Cs} {K : PySem.W.Frag} {vs : List V} {H : Hp} {Q : VK} {E : XK} (kl : Kl K (T.cls true) true) (h : sp_bini T K vs H Q E) : rd_Body_init T K E { nx := fun _ H' => Q .non H', rt := Q } (L2.start ["self"] vs) H := by
  obtain ⟨A, R, p, dx, rfl, S, h⟩ := h
  have hp := S.second _ _ one_same
  show rd_Body_init T K E _ [some (.ref p)] H
  unfold rd_Body_init
  refine q_seq fun dr hdr => ?_
  refine ⟨_, rfl, p, _, dx, [], rfl, by rw [upd_ne (ne_of_none hp hdr)]; exact hp, kl.cl, kl.ranks, Nat.le_of_ble_eq_true rfl, ?_⟩
  have S2 : St (upd (upd H dr (.dK [])) p (.ins (T.cls true) dx (putF "ranks" (.ref dr) []))) (A :: one p (.ins (T.cls true) dx (putF "ranks" (.ref dr) [])) :: one dr (.dK []) :: R) := ((S.newM (o := .dK []) hdr).pick 1 (Nat.le_of_ble_eq_true rfl)).wr1
  generalize upd (upd H dr (.dK [])) p (.ins (T.cls true) dx (putF "ranks" (.ref dr) [])) = H2 at S2 ⊢
  refine q_seq fun de hde => ?_
  have hp2 := S2.second _ _ one_same
  refine ⟨_, rfl, p, _, dx, _, rfl, by rw [upd_ne (ne_of_none hp2 hde)]; exact hp2, kl.cl, kl.edges, Nat.le_of_ble_eq_true rfl, ?_⟩
  have S4 : St (upd (upd H2 de (.dK [])) p (.ins (T.cls true) dx (putF "edges" (.ref de) (putF "ranks" (.ref dr) [])))) (A :: one p (.ins (T.cls true) dx (putF "edges" (.ref de) (putF "ranks" (.ref dr) []))) :: one de (.dK []) :: one dr (.dK []) :: R) := ((S2.newM (o := .dK []) hde).pick 1 (Nat.le_of_ble_eq_true rfl)).wr1
  generalize upd (upd H2 de (.dK [])) p (.ins (T.cls true) dx (putF "edges" (.ref de) (putF "ranks" (.ref dr) []))) = H4 at S4 ⊢
  have hp4 := S4.second _ _ one_same
  refine ⟨_, rfl, p, _, dx, _, rfl, hp4, kl.cl, kl.after, Nat.le_of_ble_eq_true rfl, ?_⟩
  exact h dr de _ S4.wr1
def rd_Field_init (T : Cs) (K : PySem.W.Frag) (E : XK) : TS := tSeq (tDrop (tCC (T.cls false) (sp_bini T K) E0 (tC (.ref (T.cls false))) (tCons (tVar 0) tNil))) (tSeq (sFld K (tVar 0) tDNewK "ahead") (sFld K (tVar 0) tDNewK "behind"))
theorem one_ne {A : Hp} {H : Hp} {p q : Addr} {o u : HO} {R l : List Hp} (S : St H (A :: one p o :: l)) (h : one q u ∈ l) : p ≠ q := fun z => by
  subst z
  exact S.2.2.2.1 _ h _ _ _ one_same one_same
theorem wk_Field_init {T : Cs} {K : PySem.W.Frag} {vs : List V} {H : Hp} {Q : VK} {E : XK} (kl : Kl K (T.cls true) true) (h : sp_new true T K vs H Q E) : rd_Field_init T K E { nx := fun _ H' => Q .non H', rt := Q } (L2.start ["self"] vs) H := by
  obtain ⟨A, R, p, dx, rfl, S, h⟩ := h
  show rd_Field_init T K E _ [some (.ref p)] H
  unfold rd_Field_init
  refine q_drop ⟨rfl, .ref p, rfl, A, R, p, dx, rfl, S, fun dr de H2 S2 => ?_⟩
  have hp := S2.second _ _ one_same
  refine q_seq fun da hda => ?_
  refine ⟨_, rfl, p, _, dx, _, rfl, by rw [upd_ne (ne_of_none hp hda)]; exact hp, kl.cl, kl.ahead rfl, Nat.le_of_ble_eq_true rfl, ?_⟩
  have S3 : St (upd (upd H2 da (.dK [])) p (.ins (T.cls true) dx [("ranks", .ref dr), ("edges", .ref de), ("after", .int 0), ("ahead", .ref da)])) (A :: one p (.ins (T.cls true) dx [("ranks", .ref dr), ("edges", .ref de), ("after", .int 0), ("ahead", .ref da)]) :: one da (.dK []) :: one de (.dK []) :: one dr (.dK []) :: R) := ((S2.newM (o := .dK []) hda).pick 1 (Nat.le_of_ble_eq_true rfl)).wr1
  show (sFld K (tVar 0) tDNewK "behind") _ _ (upd (upd H2 da (.dK [])) p (.ins (T.cls true) dx [("ranks", .ref dr), ("edges", .ref de), ("after", .int 0), ("ahead", .ref da)]))
  generalize upd (upd H2 da (.dK [])) p (.ins (T.cls true) dx [("ranks", .ref dr), ("edges", .ref de), ("after", .int 0), ("ahead", .ref da)]) = H3 at S3 ⊢
  have hp3 := S3.second _ _ one_same
  refine fun db hdb => ⟨_, rfl, p, _, dx, _, rfl, by rw [upd_ne (ne_of_none hp3 hdb)]; exact hp3, kl.cl, kl.behind rfl, Nat.le_of_ble_eq_true rfl, ?_⟩
  have S5 : St (upd (upd H3 db (.dK [])) p (.ins (T.cls true) dx (flds true dr de 0 da db))) (A :: one p (.ins (T.cls true) dx (flds true dr de 0 da db)) :: one db (.dK []) :: one da (.dK []) :: one de (.dK []) :: one dr (.dK []) :: R) := ((S3.newM (o := .dK []) hdb).pick 1 (Nat.le_of_ble_eq_true rfl)).wr1
  show Q .non (upd (upd H3 db (.dK [])) p (.ins (T.cls true) dx (flds true dr de 0 da db)))
  generalize upd (upd H3 db (.dK [])) p (.ins (T.cls true) dx (flds true dr de 0 da db)) = H5 at S5 ⊢
  have k : ∀ {x y : Hp} {i j : Nat} {a b : Addr} {o u : HO}, one a o = x → one b u = y → Dj x y → a ≠ b := fun e1 e2 d z => by
    subst e1 e2 z
    exact d _ _ _ one_same one_same
  have Sb := S5.2.2.2.2
  have Sa := Sb.2.2
  have Se := Sa.2.2
  have n1 : dr ≠ de := (k (i := 0) (j := 0) rfl rfl (Se.2.1 _ (List.mem_cons_self))).symm
  have n2 : da ≠ db := (k (i := 0) (j := 0) rfl rfl (Sb.2.1 _ (List.mem_cons_self))).symm
  have n3 : da ≠ dr := k (i := 0) (j := 0) rfl rfl (Sa.2.1 _ (List.mem_cons_of_mem _ List.mem_cons_self))
  have n4 : da ≠ de := k (i := 0) (j := 0) rfl rfl (Sa.2.1 _ List.mem_cons_self)
  have n5 : db ≠ dr := k (i := 0) (j := 0) rfl rfl (Sb.2.1 _ (List.mem_cons_of_mem _ (List.mem_cons_of_mem _ List.mem_cons_self)))
  have n6 : db ≠ de := k (i := 0) (j := 0) rfl rfl (Sb.2.1 _ (List.mem_cons_of_mem _ List.mem_cons_self))
  have S6 := S5.join2.join2.join2.join2
  refine h _ _ S6 ⟨p, dx, dr, de, da, db, rfl, ?_, ⟨[], ?_, trivial⟩, ⟨[], ?_, trivial⟩, n1, ⟨[], ?_, trivial⟩, ⟨[], ?_, trivial⟩, n2, n3, n4, n5, n6⟩
  · exact same_join_l _ _ (same_join_l _ _ (same_join_l _ _ (same_join_l _ _ one_same)))
  · exact same_join_r (St.dj (S5.join2.join2.join2.2.2)) _ _ one_same
  · exact same_join_l _ _ (same_join_r (St.dj (S5.join2.join2.2.2)) _ _ one_same)
  · exact same_join_l _ _ (same_join_l _ _ (same_join_r (St.dj (S5.join2.2.2)) _ _ one_same))
  · exact same_join_l _ _ (same_join_l _ _ (same_join_l _ _ (same_join_r (St.dj S5.2.2) _ _ one_same)))
end SB

namespace SB
open PySem PySem.Spec PyProof.Rows L2 Res
/-! ## loops over a list that the caller owns -/
section
variable {ω α β β' γ σT : Type} [Rep α] [Rep β] {A H : Hp} {a : Addr} {us : List V} {xs : List α} {ps : List (α × β)} {R : List Hp} {K : PySem.W.Frag} {Qr : γ → Prop} {Er : Exn → ω → Prop} {σ : L2.St} {D : Ends} {tu tz : TS} {j j1 j2 : Nat} {ta : TA} {tl : TE}
abbrev Stays (A : Hp) (a : Addr) (us : List V) (Rel : Hp → L2.St → List Hp → σT → Prop) : Prop := ∀ A' σ' R' s, Same A A' → Rel A' σ' R' s → ∃ n ∈ R', n a = some (.lst us)
theorem stays_at {Rel : Hp → L2.St → List Hp → σT → Prop} (h : Stays A a us Rel) {A' H' : Hp} {σ' : L2.St} {R' : List Hp} {s : σT} (e : Same A A') (S : St H' (A' :: R')) (r : Rel A' σ' R' s) : H' a = some (.lst us) := by
  obtain ⟨n, hn, h⟩ := h A' σ' R' s e r
  exact St.mem S.2.2 n hn _ _ h
theorem c_forX {s0 : σT} {body : α → σT → Res ω (Fl β' σT)} {f : Fl β' σT → Res ω γ} (Rel : Hp → L2.St → List Hp → σT → Prop)
    (S : St H (A :: R)) (htl : ∀ Q' : VK, Q' (.ref a) H → tl σ H Q') (h2 : OL A us xs) (hs : Stays A a us Rel) (h0 : Rel A σ R s0) (hm : (bind (forM body xs s0) f).wp Qr Er)
    (step : ∀ x w A' H' σ' R' s (C : σT → Prop) (N : L2.St → Hp → Prop), x ∈ xs → Same A A' → St H' (A' :: R') → Is A' w x → Rel A' σ' R' s →
      (∀ A'' H'' σ'' R'' s', Same A A'' → St H'' (A'' :: R'') → Rel A'' σ'' R'' s' → C s' → N σ'' H'') →
      (body x s).wp (fun r => match r with | .next s' => C s' | .ret y => (f (.ret y)).wp Qr Er) Er → tu { D with nx := N, ct := N, bk := D.nx } (σ'.set j (some w)) H')
    (done : ∀ A' H' σ' R' s, Same A A' → St H' (A' :: R') → Rel A' σ' R' s → (f (.next s)).wp Qr Er → D.nx σ' H') : tFor (iList K tl) (gName j) tu D σ H := by
  refine htl _ ⟨a, rfl, ⟨us, SqL.of (stays_at hs (Same.refl _) S h0)⟩, ?_⟩
  refine for_list (xs := us) (fun i σ' H' => ∃ A' R' s, Same A A' ∧ St H' (A' :: R') ∧ Rel A' σ' R' s ∧ (bind (forM body (xs.drop i) s) f).wp Qr Er) ⟨A, R, s0, Same.refl _, S, h0, hm⟩ (fun i σ' H' _ ⟨A', R', s, e, S', hr, _⟩ => SqL.of (stays_at hs e S' hr)) (fun i w σ' H' hi ⟨A', R', s, e, S', hr, hw⟩ => ?_) (fun σ' H' ⟨A', R', s, e, S', hr, hw⟩ => ?_)
  · obtain ⟨x, hxi, hxw⟩ := h2.1.getV hi
    rw [drop_of hxi] at hw
    exact step x w A' H' σ' R' s (fun s' => (bind (forM body (xs.drop (i + 1)) s') f).wp Qr Er) _ (List.mem_of_getElem? hxi) e S' (Rep.mono e hxw) hr (fun A'' H'' σ'' R'' s' e' S'' hr' hc => ⟨A'', R'', s', e', S'', hr', hc⟩) (wp_turn hw)
  · rw [h2.len, List.drop_length] at hw
    exact done A' H' σ' R' s e S' hr hw
theorem c_forXP {s0 : σT} {body : α × β → σT → Res ω (Fl β' σT)} {f : Fl β' σT → Res ω γ} (Rel : Hp → L2.St → List Hp → σT → Prop)
    (S : St H (A :: R)) (htl : ∀ Q' : VK, Q' (.ref a) H → tl σ H Q') (h2 : OL A us ps) (hs : Stays A a us Rel) (h0 : Rel A σ R s0) (hm : (bind (forM body ps s0) f).wp Qr Er)
    (step : ∀ x w1 w2 A' H' σ' R' s (C : σT → Prop) (N : L2.St → Hp → Prop), x ∈ ps → Same A A' → St H' (A' :: R') → Is A' w1 x.1 → Is A' w2 x.2 → Rel A' σ' R' s →
      (∀ A'' H'' σ'' R'' s', Same A A'' → St H'' (A'' :: R'') → Rel A'' σ'' R'' s' → C s' → N σ'' H'') →
      (body x s).wp (fun r => match r with | .next s' => C s' | .ret y => (f (.ret y)).wp Qr Er) Er → tu { D with nx := N, ct := N, bk := D.nx } ((σ'.set j1 (some w1)).set j2 (some w2)) H')
    (done : ∀ A' H' σ' R' s, Same A A' → St H' (A' :: R') → Rel A' σ' R' s → (f (.next s)).wp Qr Er → D.nx σ' H') : tFor (iList K tl) (gTup K 2 (gCons (gName j1) (gCons (gName j2) gNil))) tu D σ H := by
  refine htl _ ⟨a, rfl, ⟨us, SqL.of (stays_at hs (Same.refl _) S h0)⟩, ?_⟩
  refine for_list (xs := us) (fun i σ' H' => ∃ A' R' s, Same A A' ∧ St H' (A' :: R') ∧ Rel A' σ' R' s ∧ (bind (forM body (ps.drop i) s) f).wp Qr Er) ⟨A, R, s0, Same.refl _, S, h0, hm⟩ (fun i σ' H' _ ⟨A', R', s, e, S', hr, _⟩ => SqL.of (stays_at hs e S' hr)) (fun i w σ' H' hi ⟨A', R', s, e, S', hr, hw⟩ => ?_) (fun σ' H' ⟨A', R', s, e, S', hr, hw⟩ => ?_)
  · obtain ⟨x, hxi, hxw⟩ := h2.1.getV hi
    rw [drop_of hxi] at hw
    refine g_tupP S' (Rep.mono e hxw) fun u1 u2 k1 k2 => g_cons (g_name (g_cons (g_name (g_nil ?_))))
    exact step x u1 u2 A' H' σ' R' s (fun s' => (bind (forM body (ps.drop (i + 1)) s') f).wp Qr Er) _ (List.mem_of_getElem? hxi) e S' k1 k2 hr (fun A'' H'' σ'' R'' s' e' S'' hr' hc => ⟨A'', R'', s', e', S'', hr', hc⟩) (wp_turn hw)
  · rw [h2.len, List.drop_length] at hw
    exact done A' H' σ' R' s e S' hr hw
theorem c_forXE {s0 : σT} {body : Int × α → σT → Res ω (Fl β' σT)} {f : Fl β' σT → Res ω γ} (Rel : Hp → L2.St → List Hp → σT → Prop)
    (S : St H (A :: R)) (hta : ∀ Q' : List V → Hp → Prop, Q' [.ref a] H → ta σ H Q') (h2 : OL A us xs) (hs : Stays A a us Rel) (h0 : Rel A σ R s0) (hm : (bind (forM body (enumL xs) s0) f).wp Qr Er)
    (step : ∀ x w2 A' H' σ' R' s (C : σT → Prop) (N : L2.St → Hp → Prop), x ∈ enumL xs → Same A A' → St H' (A' :: R') → Is A' w2 x.2 → Rel A' σ' R' s →
      (∀ A'' H'' σ'' R'' s', Same A A'' → St H'' (A'' :: R'') → Rel A'' σ'' R'' s' → C s' → N σ'' H'') →
      (body x s).wp (fun r => match r with | .next s' => C s' | .ret y => (f (.ret y)).wp Qr Er) Er → tu { D with nx := N, ct := N, bk := D.nx } ((σ'.set j1 (some (.int x.1))).set j2 (some w2)) H')
    (done : ∀ A' H' σ' R' s, Same A A' → St H' (A' :: R') → Rel A' σ' R' s → (f (.next s)).wp Qr Er → D.nx σ' H') : tFor (iEnum K ta) (gTup K 2 (gCons (gName j1) (gCons (gName j2) gNil))) tu D σ H := by
  refine hta _ ⟨a, us, rfl, SqL.of (stays_at hs (Same.refl _) S h0), ?_⟩
  refine ⟨fun i m σ' H' => i + m = xs.length ∧ ∃ A' R' s, Same A A' ∧ St H' (A' :: R') ∧ Rel A' σ' R' s ∧ (bind (forM body ((enumL xs).drop i) s) f).wp Qr Er, ⟨xs.length, by omega, A, R, s0, Same.refl _, S, h0, hm⟩, ?_⟩
  rintro i m σ' H' ⟨him, A', R', s, e, S', hr, hw⟩
  have hq : SqL K H' a us := SqL.of (stays_at hs e S' hr)
  by_cases hi : i < xs.length
  · have hxi : xs[i]? = some xs[i] := List.getElem?_eq_getElem hi
    obtain ⟨u, hu, hxu⟩ := h2.1.get hxi
    refine .inr ⟨⟨us, u, hq, hu⟩, fun σ2 H2 => ∃ A' R' s, Same A A' ∧ St H2 (A' :: R') ∧ Rel A' σ2 R' s ∧ (bind (forM body ((enumL xs).drop (i + 1)) s) f).wp Qr Er, fun σ2 H2 h => ⟨m - 1, by omega, by omega, h⟩, ?_⟩
    rintro y H2 ⟨Tp, z, rfl, hT, rfl, hz⟩
    have ez : z = u := Option.some.inj ((hz us hq).symm.trans hu)
    subst ez
    refine g_tup upd_same rfl (g_cons (g_name (g_cons (g_name (g_nil ?_)))))
    have hg := enum_get hxi
    rw [drop_of hg] at hw
    exact step ((i : Int), xs[i]) z A' _ σ' R' s (fun s' => (bind (forM body ((enumL xs).drop (i + 1)) s') f).wp Qr Er) _ (List.mem_of_getElem? hg) e (S'.grow (same_upd hT)) (Rep.mono e hxu) hr (fun A'' H'' σ'' R'' s' e' S'' hr' hc => ⟨A'', R'', s', e', S'', hr', hc⟩) (wp_turn hw)
  · refine .inl ⟨⟨us, hq, by rw [h2.len]; omega⟩, ?_⟩
    rw [List.drop_eq_nil_of_le (by rw [enum_len]; omega)] at hw
    exact done A' H' σ' R' s e S' hr hw
end
/-! ## while whose test changes objects -/
def whileS {ω β σT : Type} (test : σT → Res ω (Bool × σT)) (body : σT → Res ω (Fl β σT)) : Nat → σT → Res ω (Fl β σT)
  | 0, _ => .bad
  | n + 1, s => bind (test s) fun b => if b.1 = true then bind (body b.2) fun r => (match r with
      | .next s' => whileS test body n s'
      | .ret y => .ok (.ret y)) else .ok (.next b.2)
section
variable {ω β' γ σT : Type} {A H : Hp} {R : List Hp} {Qr : γ → Prop} {Er : Exn → ω → Prop}
theorem bind_assoc {ω α β γ : Type} {m : Res ω α} {f : α → Res ω β} {g : β → Res ω γ} : bind (bind m f) g = bind m fun a => bind (f a) g := by
  cases m <;> rfl
theorem c_whileS {σ : L2.St} {tc : TT} {tu : TS} {D : Ends} {s0 : σT} {test : σT → Res ω (Bool × σT)} {body : σT → Res ω (Fl β' σT)} {f : Fl β' σT → Res ω γ} {n : Nat} (Rel : Hp → L2.St → List Hp → σT → Prop)
    (S : St H (A :: R)) (h0 : Rel A σ R s0) (hm : (bind (whileS test body n s0) f).wp Qr Er)
    (step : ∀ A' H' σ' R' s (C : Bool × σT → Prop) (P : Bool → Hp → Prop), Same A A' → St H' (A' :: R') → Rel A' σ' R' s →
      (∀ b s' A'' H'' R'', Same A A'' → St H'' (A'' :: R'') → Rel A'' σ' R'' s' → C (b, s') → P b H'') → (test s).wp C Er → tc σ' H' P)
    (turn : ∀ A' H' σ' R' s (C : σT → Prop) (N : L2.St → Hp → Prop), Same A A' → St H' (A' :: R') → Rel A' σ' R' s →
      (∀ A'' H'' σ'' R'' s', Same A A'' → St H'' (A'' :: R'') → Rel A'' σ'' R'' s' → C s' → N σ'' H'') →
      (body s).wp (fun r => match r with | .next s' => C s' | .ret y => (f (.ret y)).wp Qr Er) Er → tu { D with nx := N, ct := N, bk := D.nx } σ' H')
    (done : ∀ A' H' σ' R' s, Same A A' → St H' (A' :: R') → Rel A' σ' R' s → (f (.next s)).wp Qr Er → D.nx σ' H') : tWhile tc tu D σ H := by
  refine ⟨fun m σ' H' => ∃ A' R' s, Same A A' ∧ St H' (A' :: R') ∧ Rel A' σ' R' s ∧ (bind (whileS test body m s) f).wp Qr Er, ⟨n, A, R, s0, Same.refl _, S, h0, hm⟩, ?_⟩
  rintro m σ' H' ⟨A', R', s, e, S', hr, hw⟩
  cases m with
  | zero => exact hw.elim
  | succ m =>
    unfold whileS at hw
    rw [bind_assoc] at hw
    refine step A' H' σ' R' s _ _ e S' hr (fun b s1 A'' H'' R'' e' S'' hr' hc => ?_) (wp_bind hw)
    cases b with
    | false => exact done A'' H'' σ' R'' s1 e' S'' hr' hc
    | true =>
      show ∃ N, _
      refine ⟨fun σ2 H2 => ∃ A2 R2 s', Same A A2 ∧ St H2 (A2 :: R2) ∧ Rel A2 σ2 R2 s' ∧ (bind (whileS test body m s') f).wp Qr Er, fun σ2 H2 h => ⟨m, Nat.lt_succ_self m, h⟩, ?_⟩
      refine turn A'' H'' σ' R'' s1 (fun s' => (bind (whileS test body m s') f).wp Qr Er) _ e' S'' hr' (fun A3 H3 σ3 R3 s' e3 S3 hr3 hc3 => ⟨A3, R3, s', e3, S3, hr3, hc3⟩) ?_
      have hc : (bind (bind (body s1) fun r => (match r with
        | .next s' => whileS test body m s'
        | .ret y => .ok (.ret y))) f).wp Qr Er := hc
      rw [bind_assoc] at hc
      refine wp_mono (wp_bind hc) (fun r h => ?_) (fun _ _ h => h)
      cases r <;> exact h
end
section
variable {α : Type} [Rep α] {A : Hp} {v : V} {ws : List V}
theorem all2_none : ∀ {ws : List V} {xs : List Unit}, All2 (Rep.is A) ws xs → All2 (Rep.is A) ws (xs.map fun _ => (none : Option α))
  | [], [], _ => trivial
  | _ :: _, _ :: _, h => ⟨h.1, all2_none h.2⟩
  | [], _ :: _, h => h.elim
  | _ :: _, [], h => h.elim
theorem ol_none {xs : List Unit} (h : OL A ws xs) : OL A ws (xs.map fun _ => (none : Option α)) := ⟨all2_none h.1, by rw [List.length_map]; exact h.2⟩
theorem is_nones {xs : List Unit} (h : Is A v xs) : Is A v (xs.map fun _ => (none : Option α)) := by
  obtain ⟨a, vs, h1, h2, h3⟩ := h
  exact ⟨a, vs, h1, h2, ol_none h3⟩
end
/-! ## try whose clauses may return -/
def tryR {ωb ω β σT : Type} (mb : Res ωb σT) (mh : Exn → ωb → Res ω (Fl β σT)) : Res ω (Fl β σT) := match mb with
  | .ok s => .ok (.next s)
  | .ex e w => mh e w
  | .bad => .bad
section
variable {ωb ω β' γ σT : Type} {A H : Hp} {Qr : γ → Prop} {Er : Exn → ω → Prop} {T : Cs} {K : PySem.W.Frag} {Wout : WX} {tb : WX → TS} {l : List Cla} {u : TS} {D : Ends} {σ : L2.St} {mb : Res ωb σT} {mh : Exn → ωb → Res ω (Fl β' σT)} {f : Fl β' σT → Res ω γ}
abbrev TryHR (T : Cs) (A : Hp) (K : PySem.W.Frag) (Wout : WX) (D : Ends) (l : List Cla) (mh : Exn → ωb → Res ω (Fl β' σT)) (Er : Exn → ω → Prop) (P : β' → Prop) (Rel : Hp → L2.St → List Hp → σT → Prop) (RelX : Hp → L2.St → List Hp → ωb → Prop) : Prop :=
  ∀ (C : σT → Prop) (N : L2.St → Hp → Prop), (∀ A' H' σ' R' s, Same A A' → St H' (A' :: R') → Rel A' σ' R' s → C s → N σ' H') →
    ∀ A' H' σ' R' w e cls d, Same A A' → St H' (A' :: R') → RelX A' σ' R' w → XA T e cls d A A' → (mh e w).wp (fun r => match r with | .next s => C s | .ret y => P y) Er → wCl K Wout { D with nx := N } l cls d σ' H'
theorem try_goR (Rel : Hp → L2.St → List Hp → σT → Prop) (RelX : Hp → L2.St → List Hp → ωb → Prop) {C : σT → Prop} {P : β' → Prop} {N : L2.St → Hp → Prop} (hm : (tryR mb mh).wp (fun r => match r with | .next s => C s | .ret y => P y) Er) (h1 : TryB T A H σ D tb mb Rel RelX) (h2 : TryHR T A K Wout D l mh Er P Rel RelX)
    (h3 : ∀ A' H' σ' R' s, Same A A' → St H' (A' :: R') → Rel A' σ' R' s → C s → N σ' H') : tTry K Wout tb l { D with nx := N } σ H := by
  refine h1 C (fun e w => (mh e w).wp (fun r => match r with | .next s => C s | .ret y => P y) Er) _ N h3 (fun A' H' σ' R' w e cls d g S r x c => h2 C N h3 A' H' σ' R' w e cls d g S r x c) ?_
  cases mb <;> exact hm
theorem fl_of (hm : (bind (tryR mb mh) f).wp Qr Er) : (tryR mb mh).wp (fun r => match r with | .next s => (f (.next s)).wp Qr Er | .ret y => (f (.ret y)).wp Qr Er) Er :=
  wp_mono (wp_bind hm) (fun r h => by cases r <;> exact h) fun _ _ h => h
theorem q_tryR (Rel : Hp → L2.St → List Hp → σT → Prop) (RelX : Hp → L2.St → List Hp → ωb → Prop) (hm : (bind (tryR mb mh) f).wp Qr Er) (h1 : TryB T A H σ D tb mb Rel RelX) (h2 : TryHR T A K Wout D l mh Er (fun y => (f (.ret y)).wp Qr Er) Rel RelX)
    (h3 : ∀ A' H' σ' R' s, Same A A' → St H' (A' :: R') → Rel A' σ' R' s → (f (.next s)).wp Qr Er → u D σ' H') : Evl.tCut (tTry K Wout tb l) u D σ H :=
  ⟨fun σ' H' => ∃ A' R' s, Same A A' ∧ St H' (A' :: R') ∧ Rel A' σ' R' s ∧ (f (.next s)).wp Qr Er, try_goR Rel RelX (C := fun s => (f (.next s)).wp Qr Er) (fl_of hm) h1 h2 fun A' H' σ' R' s e S r w => ⟨A', R', s, e, S, r, w⟩, fun σ' H' ⟨A', R', s, e, S, r, w⟩ => h3 A' H' σ' R' s e S r w⟩
end
theorem c_lenT {K : PySem.W.Frag} {α β : Type} [Rep α] [Rep β] {A H : Hp} {R : List Hp} {Q : VK} {v : V} {x : α × β} (S : St H (A :: R)) (h : Is A v x) (k : Q (.int 2) H) : Evl.rLenS K [v] H Q := by
  obtain ⟨a, u, w, rfl, h2, _⟩ := h
  exact ⟨a, _, rfl, .inr (SqT.of (S.1 _ _ h2)), k⟩
theorem c_lenTp {K : PySem.W.Frag} {A H : Hp} {R : List Hp} {Q : VK} {a : Addr} {vs : List V} (S : St H (A :: R)) (h : A a = some (.tup vs)) (k : Q (.int vs.length) H) : Evl.rLenS K [.ref a] H Q := ⟨a, _, rfl, .inr (SqT.of (S.1 _ _ h)), k⟩
end SB

namespace SB
open PySem PySem.Spec PyProof.Rows L2 Res
/-! ## rows: a body's cells by their numbers -/
abbrev Row := Int × List Int
abbrev Rows := List (Option Row)
section
variable {α : Type}
def tab (f : Row → α) : Int → Rows → List (Int × α)
  | _, [] => []
  | k, none :: r => tab f (k + 1) r
  | k, some x :: r => (k, f x) :: tab f (k + 1) r
def hereK : Int → Rows → List Int
  | _, [] => []
  | k, none :: r => hereK (k + 1) r
  | k, some _ :: r => k :: hereK (k + 1) r
def hereF (R : Rows) : List Int := hereK 0 R
def rowAt (R : Rows) (c : Int) : Option Row := if 0 ≤ c then (R[c.toNat]?).join else none
theorem tab_keys (f : Row → α) : ∀ (R : Rows) (k : Int), (tab f k R).map (·.1) = hereK k R
  | [], _ => rfl
  | none :: r, k => tab_keys f r (k + 1)
  | some x :: r, k => congrArg (k :: ·) (tab_keys f r (k + 1))
theorem tab_len (f : Row → α) (k : Int) (R : Rows) : (tab f k R).length ≤ R.length := by
  induction R generalizing k with
  | nil => exact Nat.le_refl _
  | cons x r ih =>
    cases x with
    | none => exact Nat.le_succ_of_le (ih _)
    | some x => exact Nat.succ_le_succ (ih _)
theorem agt_cons {k c : Int} {x : α} {l : List (Int × α)} : agt ((k, x) :: l) c = if k = c then some x else agt l c := by
  unfold agt
  rw [List.find?_cons]
  by_cases h : k = c
  · rw [if_pos h]
    simp [h]
  · rw [if_neg h]
    simp [h]
theorem agt_tabK (f : Row → α) : ∀ (R : Rows) (k c : Int), agt (tab f k R) c = if k ≤ c then ((R[(c - k).toNat]?).join).map f else none
  | [], k, c => by
    show (none : Option α) = _
    simp
  | none :: r, k, c => by
    show agt (tab f (k + 1) r) c = _
    rw [agt_tabK f r (k + 1) c]
    by_cases h : k + 1 ≤ c
    · rw [if_pos h, if_pos (by omega), show (c - k).toNat = (c - (k + 1)).toNat + 1 by omega, List.getElem?_cons_succ]
    · rw [if_neg h]
      by_cases h2 : k ≤ c
      · rw [if_pos h2, show (c - k).toNat = 0 by omega]
        rfl
      · rw [if_neg h2]
  | some x :: r, k, c => by
    show agt ((k, f x) :: tab f (k + 1) r) c = _
    rw [agt_cons, agt_tabK f r (k + 1) c]
    by_cases h : k = c
    · rw [if_pos h, if_pos (by omega), show (c - k).toNat = 0 by omega]
      rfl
    · rw [if_neg h]
      by_cases h1 : k + 1 ≤ c
      · rw [if_pos h1, if_pos (by omega), show (c - k).toNat = (c - (k + 1)).toNat + 1 by omega, List.getElem?_cons_succ]
      · rw [if_neg h1, if_neg (by omega)]
theorem agt_tab (f : Row → α) (R : Rows) (c : Int) : agt (tab f 0 R) c = (rowAt R c).map f := by
  rw [agt_tabK]
  unfold rowAt
  by_cases h : 0 ≤ c
  · rw [if_pos h, if_pos h, show (c - 0).toNat = c.toNat by omega]
  · rw [if_neg h, if_neg h]
    rfl
theorem here_memK : ∀ (R : Rows) (k c : Int), c ∈ hereK k R ↔ k ≤ c ∧ ((R[(c - k).toNat]?).join).isSome = true
  | [], k, c => by
    show c ∈ [] ↔ _
    simp
  | none :: r, k, c => by
    show c ∈ hereK (k + 1) r ↔ _
    rw [here_memK r (k + 1) c]
    by_cases h : k + 1 ≤ c
    · rw [show (c - k).toNat = (c - (k + 1)).toNat + 1 by omega, List.getElem?_cons_succ]
      constructor
      · exact fun ⟨_, h2⟩ => ⟨by omega, h2⟩
      · exact fun ⟨_, h2⟩ => ⟨h, h2⟩
    · constructor
      · exact fun ⟨h2, _⟩ => absurd h2 h
      · rintro ⟨h2, h3⟩
        rw [show (c - k).toNat = 0 by omega] at h3
        cases h3
  | some x :: r, k, c => by
    show c ∈ k :: hereK (k + 1) r ↔ _
    rw [List.mem_cons, here_memK r (k + 1) c]
    by_cases h : c = k
    · subst h
      rw [show (c - c).toNat = 0 by omega]
      simp
    · by_cases h1 : k + 1 ≤ c
      · rw [show (c - k).toNat = (c - (k + 1)).toNat + 1 by omega, List.getElem?_cons_succ]
        constructor
        · rintro (h2 | ⟨_, h2⟩)
          · exact absurd h2 h
          · exact ⟨by omega, h2⟩
        · exact fun ⟨_, h2⟩ => .inr ⟨h1, h2⟩
      · constructor
        · rintro (h2 | ⟨h2, _⟩)
          · exact absurd h2 h
          · exact absurd h2 h1
        · rintro ⟨h2, _⟩
          omega
theorem here_mem {R : Rows} {c : Int} : c ∈ hereF R ↔ (rowAt R c).isSome = true := by
  unfold hereF
  rw [here_memK]
  unfold rowAt
  by_cases h : 0 ≤ c
  · rw [if_pos h, show (c - 0).toNat = c.toNat by omega]
    simp [h]
  · rw [if_neg h]
    simp [h]
theorem here_lowK : ∀ (R : Rows) (k x : Int), x ∈ hereK k R → k ≤ x := fun R k x h => ((here_memK R k x).mp h).1
theorem here_smK : ∀ (R : Rows) (k : Int), Sm (hereK k R)
  | [], _ => .nil
  | none :: r, k => here_smK r (k + 1)
  | some x :: r, k => .cons (fun y hy => by have := here_lowK r (k + 1) y hy; omega) (here_smK r (k + 1))
theorem here_sm (R : Rows) : Sm (hereF R) := here_smK R 0
theorem sort_sm {l : List Int} (h : Sm l) : sortI l = l := sorted_eq (sortI_perm l) (sortI_sorted l) h.le
theorem rowAt_some {R : Rows} {c : Int} {x : Row} (h : rowAt R c = some x) : 0 ≤ c ∧ c < (R.length : Int) ∧ R[c.toNat]? = some (some x) := by
  unfold rowAt at h
  by_cases h0 : 0 ≤ c
  · rw [if_pos h0] at h
    cases e : R[c.toNat]? with
    | none =>
      rw [e] at h
      cases h
    | some y =>
      rw [e] at h
      have h : y = some x := h
      have := (List.getElem?_eq_some_iff.mp e).1
      exact ⟨h0, by omega, by rw [h]⟩
  · rw [if_neg h0] at h
    cases h
theorem rowAt_of {R : Rows} {c : Int} {x : Option Row} (h0 : 0 ≤ c) (h : R[c.toNat]? = some x) : rowAt R c = x := by
  unfold rowAt
  rw [if_pos h0, h]
  rfl
theorem here_lt {R : Rows} {c : Int} (h : c ∈ hereF R) : 0 ≤ c ∧ c < (R.length : Int) := by
  rw [here_mem] at h
  cases e : rowAt R c with
  | none =>
    rw [e] at h
    cases h
  | some x => exact ⟨(rowAt_some e).1, (rowAt_some e).2.1⟩
theorem rowAt_ge {R : Rows} {c : Int} (h : (R.length : Int) ≤ c) : rowAt R c = none := by
  cases e : rowAt R c with
  | none => rfl
  | some x =>
    have := rowAt_some e
    omega
theorem rowAt_append {R S : Rows} {c : Int} (h : c < (R.length : Int)) : rowAt (R ++ S) c = rowAt R c := by
  unfold rowAt
  by_cases h0 : 0 ≤ c
  · rw [if_pos h0, if_pos h0, List.getElem?_append_left (by omega)]
  · rw [if_neg h0, if_neg h0]
theorem rowAt_last {R : Rows} {x : Option Row} : rowAt (R ++ [x]) (R.length : Int) = x := by
  unfold rowAt
  rw [if_pos (by omega), show ((R.length : Int)).toNat = R.length by omega, List.getElem?_append_right (Nat.le_refl _), Nat.sub_self]
  rfl
theorem tab_append (f : Row → α) : ∀ (R S : Rows) (k : Int), tab f k (R ++ S) = tab f k R ++ tab f (k + R.length) S
  | [], S, k => by
    show tab f k S = tab f (k + 0) S
    rw [Int.add_zero]
  | none :: r, S, k => by
    show tab f (k + 1) (r ++ S) = tab f (k + 1) r ++ _
    rw [tab_append f r S (k + 1), List.length_cons, show k + 1 + (r.length : Int) = k + ((r.length + 1 : Nat) : Int) by omega]
  | some x :: r, S, k => by
    show (k, f x) :: tab f (k + 1) (r ++ S) = (k, f x) :: tab f (k + 1) r ++ _
    rw [tab_append f r S (k + 1), List.length_cons, show k + 1 + (r.length : Int) = k + ((r.length + 1 : Nat) : Int) by omega]
    rfl
theorem tab_put (f : Row → α) (R : Rows) (x : Row) : aput (tab f 0 R) (R.length : Int) (f x) = tab f 0 (R ++ [some x]) := by
  unfold aput
  rw [if_neg, tab_append, Int.zero_add]
  · rfl
  · intro h
    rw [List.any_eq_true] at h
    obtain ⟨p, hp, he⟩ := h
    have h1 : p.1 ∈ hereK 0 R := by
      rw [← tab_keys f]
      exact List.mem_map_of_mem hp
    have h2 := here_lt (R := R) h1
    have h3 : p.1 = (R.length : Int) := of_decide_eq_true he
    omega
theorem tab_drop (f : Row → α) : ∀ (R : Rows) (k c : Int), k ≤ c → adrop (tab f k R) c = tab f k (R.set (c - k).toNat none)
  | [], k, c, _ => rfl
  | none :: r, k, c, h => by
    show adrop (tab f (k + 1) r) c = _
    by_cases h1 : c = k
    · subst h1
      rw [show (c - c).toNat = 0 by omega]
      show _ = tab f (c + 1) r
      unfold adrop
      rw [List.filter_eq_self]
      intro p hp
      have h1 : p.1 ∈ hereK (c + 1) r := by
        rw [← tab_keys f]
        exact List.mem_map_of_mem hp
      have := here_lowK r (c + 1) p.1 h1
      exact decide_eq_true (by omega)
    · rw [tab_drop f r (k + 1) c (by omega), show (c - k).toNat = (c - (k + 1)).toNat + 1 by omega]
      rfl
  | some x :: r, k, c, h => by
    show ((k, f x) :: tab f (k + 1) r).filter _ = _
    by_cases h1 : c = k
    · subst h1
      rw [show (c - c).toNat = 0 by omega, List.filter_cons, if_neg (by simp)]
      show _ = tab f (c + 1) r
      rw [List.filter_eq_self]
      intro p hp
      have h1 : p.1 ∈ hereK (c + 1) r := by
        rw [← tab_keys f]
        exact List.mem_map_of_mem hp
      have := here_lowK r (c + 1) p.1 h1
      exact decide_eq_true (by omega)
    · rw [List.filter_cons, if_pos (by rw [decide_eq_true_iff]; exact fun e => h1 e.symm)]
      have ih := tab_drop f r (k + 1) c (by omega)
      unfold adrop at ih
      rw [ih, show (c - k).toNat = (c - (k + 1)).toNat + 1 by omega]
      rfl
end
/-! ## borders -/
def edgeAt (R : Rows) (c : Int) : List Int := match rowAt R c with
  | some x => x.2
  | none => []
def edgeF (R : Rows) (row : List Int) : List Int := row.foldl (fun s c => joinF s (edgeAt R c)) []
/-- a row that may be put at c -/
structure Good (R : Rows) (c r : Int) (e : List Int) : Prop where
  lo : 0 ≤ r
  hi : r ≤ 12
  sm : Sm e
  lt : ∀ x ∈ e, x < c
  kin : ∀ x ∈ e, ∃ e', rowAt R x = some (r - 1, e')
  round : edgeF R e = []
def Wf (R : Rows) : Prop := ∀ c r e, rowAt R c = some (r, e) → Good R c r e
theorem edgeAt_append {R S : Rows} {c : Int} (h : c < (R.length : Int)) : edgeAt (R ++ S) c = edgeAt R c := by
  unfold edgeAt
  rw [rowAt_append h]
theorem edge_fold_congr {R S : Rows} : ∀ (e s : List Int), (∀ x ∈ e, edgeAt R x = edgeAt S x) → e.foldl (fun s c => joinF s (edgeAt R c)) s = e.foldl (fun s c => joinF s (edgeAt S c)) s
  | [], _, _ => rfl
  | x :: e, s, h => by
    rw [List.foldl_cons, List.foldl_cons, h x List.mem_cons_self, edge_fold_congr e _ fun y hy => h y (List.mem_cons_of_mem _ hy)]
theorem edgeF_congr {R S : Rows} {e : List Int} (h : ∀ x ∈ e, edgeAt R x = edgeAt S x) : edgeF R e = edgeF S e := edge_fold_congr e [] h
theorem edgeF_append {R S : Rows} {e : List Int} (h : ∀ x ∈ e, x < (R.length : Int)) : edgeF (R ++ S) e = edgeF R e := edgeF_congr fun x hx => edgeAt_append (h x hx)
theorem Good.append {R S : Rows} {c r : Int} {e : List Int} (g : Good R c r e) : Good (R ++ S) c r e := by
  have hl : ∀ x ∈ e, x < (R.length : Int) := fun x hx => by
    obtain ⟨e', h⟩ := g.kin x hx
    exact (rowAt_some h).2.1
  refine ⟨g.lo, g.hi, g.sm, g.lt, fun x hx => ?_, by rw [edgeF_append hl]; exact g.round⟩
  rw [rowAt_append (hl x hx)]
  exact g.kin x hx
theorem Wf.snoc {R : Rows} (h : Wf R) {x : Option Row} (hx : ∀ r e, x = some (r, e) → Good R R.length r e) : Wf (R ++ [x]) := by
  intro c r e hc
  by_cases h1 : c < (R.length : Int)
  · rw [rowAt_append h1] at hc
    exact (h c r e hc).append
  · have h2 := rowAt_some hc
    rw [List.length_append, List.length_singleton] at h2
    have h3 : c = (R.length : Int) := by omega
    subst h3
    rw [rowAt_last] at hc
    exact (hx r e hc).append
theorem wf_nil : Wf [] := fun c r e h => by
  have := rowAt_some h
  have h2 := this.2.1
  have h3 := this.1
  simp at h2
  omega
theorem edgeAt_sm {R : Rows} (h : Wf R) (c : Int) : Sm (edgeAt R c) := by
  unfold edgeAt
  cases e : rowAt R c with
  | none => exact .nil
  | some x => exact (h c x.1 x.2 e).sm
theorem fold_sm {R : Rows} (h : Wf R) : ∀ (e s : List Int), Sm s → Sm (e.foldl (fun s c => joinF s (edgeAt R c)) s)
  | [], _, hs => hs
  | x :: e, s, hs => fold_sm h e _ (sm_join hs (edgeAt_sm h x))
theorem edgeF_sm {R : Rows} (h : Wf R) (e : List Int) : Sm (edgeF R e) := fold_sm h e [] .nil
theorem edgeAt_mem {R : Rows} (h : Wf R) {c x : Int} (hx : x ∈ edgeAt R c) : ∃ r e, rowAt R c = some (r, e) ∧ x ∈ e ∧ ∃ e', rowAt R x = some (r - 1, e') := by
  unfold edgeAt at hx
  cases e : rowAt R c with
  | none =>
    rw [e] at hx
    cases hx
  | some y =>
    rw [e] at hx
    exact ⟨y.1, y.2, rfl, hx, (h c y.1 y.2 e).kin x hx⟩
theorem fold_mem {R : Rows} {x : Int} : ∀ (e s : List Int), x ∈ e.foldl (fun s c => joinF s (edgeAt R c)) s → x ∈ s ∨ ∃ c ∈ e, x ∈ edgeAt R c
  | [], _, h => .inl h
  | c :: e, s, h => by
    rcases fold_mem e _ h with h1 | ⟨d, hd, h1⟩
    · rcases mem_join.mp h1 with h2 | h2
      · exact .inl h2.1
      · exact .inr ⟨c, List.mem_cons_self, h2.1⟩
    · exact .inr ⟨d, List.mem_cons_of_mem _ hd, h1⟩
theorem edgeF_mem {R : Rows} {x : Int} {e : List Int} (h : x ∈ edgeF R e) : ∃ c ∈ e, x ∈ edgeAt R c := by
  rcases fold_mem e [] h with h1 | h1
  · cases h1
  · exact h1
theorem fold_start {R : Rows} (hw : Wf R) : ∀ (e s : List Int), Sm s → e.foldl (fun s c => joinF s (edgeAt R c)) s = joinF s (e.foldl (fun s c => joinF s (edgeAt R c)) [])
  | [], s, hs => (join_nil s hs).symm
  | c :: e, s, hs => by
    have hc := edgeAt_sm hw c
    rw [List.foldl_cons, List.foldl_cons, fold_start hw e _ (sm_join hs hc), nil_join _ hc, fold_start hw e _ hc, join_assoc _ _ _ hs hc (fold_sm hw e [] .nil)]
theorem edgeF_cons {R : Rows} (hw : Wf R) (c : Int) (e : List Int) : edgeF R (c :: e) = joinF (edgeAt R c) (edgeF R e) := by
  unfold edgeF
  rw [List.foldl_cons, nil_join _ (edgeAt_sm hw c), fold_start hw e _ (edgeAt_sm hw c)]
theorem edgeF_append_row {R : Rows} (hw : Wf R) : ∀ (a b : List Int), edgeF R (a ++ b) = joinF (edgeF R a) (edgeF R b)
  | [], b => (nil_join _ (edgeF_sm hw b)).symm
  | c :: a, b => by
    rw [List.cons_append, edgeF_cons hw, edgeF_append_row hw a b, edgeF_cons hw, join_assoc _ _ _ (edgeAt_sm hw c) (edgeF_sm hw a) (edgeF_sm hw b)]
/-- a sum's border does not ask for the order -/
theorem edgeF_perm {R : Rows} (hw : Wf R) {a b : List Int} (h : a.Perm b) : edgeF R a = edgeF R b := by
  induction h with
  | nil => rfl
  | cons x _ ih => rw [edgeF_cons hw, edgeF_cons hw, ih]
  | swap x y l =>
    have hx := edgeAt_sm hw x
    have hy := edgeAt_sm hw y
    have hl := edgeF_sm hw l
    rw [edgeF_cons hw, edgeF_cons hw, edgeF_cons hw, edgeF_cons hw, ← join_assoc _ _ _ hy hx hl, join_comm _ _ hy hx, join_assoc _ _ _ hx hy hl]
  | trans _ _ ih1 ih2 => exact ih1.trans ih2
theorem join_cancel (a b : List Int) (ha : Sm a) (hb : Sm b) : joinF a (joinF a b) = b := by
  rw [← join_assoc _ _ _ ha ha hb, join_self, nil_join _ hb]
/-- the border of two sums added -/
theorem edgeF_join {R : Rows} (hw : Wf R) {a b : List Int} (ha : Sm a) (hb : Sm b) : edgeF R (joinF a b) = joinF (edgeF R a) (edgeF R b) := by
  -- a = a0 + c, b = b0 + c, the sum: a0 + b0
  have hp : ∀ l : List Int, ∀ q : Int → Bool, edgeF R l = joinF (edgeF R (l.filter q)) (edgeF R (l.filter fun x => !q x)) := fun l q => by
    rw [← edgeF_append_row hw]
    exact edgeF_perm hw (List.filter_append_perm q l).symm
  have ea := hp a (fun x => !decide (x ∈ b))
  have eb := hp b (fun x => !decide (x ∈ a))
  have hc : edgeF R (a.filter fun x => !!decide (x ∈ b)) = edgeF R (b.filter fun x => !!decide (x ∈ a)) := by
    refine edgeF_perm hw (perm_of (ha.nodup.filter _) (hb.nodup.filter _) fun x => ?_)
    rw [List.mem_filter, List.mem_filter]
    simp
    exact And.comm
  have e1 : edgeF R (joinF a b) = joinF (edgeF R (a.filter fun x => !decide (x ∈ b))) (edgeF R (b.filter fun x => !decide (x ∈ a))) := (edgeF_perm hw (sortI_perm _)).trans (edgeF_append_row hw _ _)
  have h1 := edgeF_sm hw (a.filter fun x => !decide (x ∈ b))
  have h2 := edgeF_sm hw (b.filter fun x => !decide (x ∈ a))
  have h3 := edgeF_sm hw (b.filter fun x => !!decide (x ∈ a))
  rw [e1, ea, eb, hc, join_comm _ _ h2 h3, join_assoc _ _ _ h1 h3 (sm_join h3 h2), join_cancel _ _ h3 h2]
theorem sm_snoc {l : List Int} {n : Int} (h : Sm l) (hn : ∀ x ∈ l, x < n) : Sm (l ++ [n]) := List.pairwise_append.mpr ⟨h, List.pairwise_singleton _ _, fun x hx y hy => by
  rw [List.mem_singleton] at hy
  rw [hy]
  exact hn x hx⟩
/-- few numbers are there -/
theorem sm_lenK : ∀ (l : List Int) (lo hi : Int), Sm l → (∀ x ∈ l, lo ≤ x ∧ x < hi) → (l.length : Int) ≤ max 0 (hi - lo)
  | [], lo, hi, _, _ => by
    show (0 : Int) ≤ _
    omega
  | x :: l, lo, hi, h, hb => by
    cases h with
    | cons h1 h2 =>
      have hx := hb x List.mem_cons_self
      have ih := sm_lenK l (x + 1) hi h2 fun y hy => ⟨by have := h1 y hy; omega, (hb y (List.mem_cons_of_mem _ hy)).2⟩
      rw [List.length_cons]
      omega
theorem sm_len {l : List Int} {n : Nat} (h : Sm l) (hb : ∀ x ∈ l, 0 ≤ x ∧ x < (n : Int)) : l.length ≤ n := by
  have := sm_lenK l 0 n h hb
  omega
/-! ## a body that has such rows -/
def Bd {t : Bool} (R : Rows) (s : FS t) : Prop := s.ranks = tab (·.1) 0 R ∧ s.edges = tab (·.2) 0 R ∧ s.after = (R.length : Int)
theorem Bd.rk {t : Bool} {R : Rows} {s : FS t} (h : Bd R s) (c : Int) : agt s.ranks c = (rowAt R c).map (·.1) := by rw [h.1, agt_tab]
theorem Bd.ed {t : Bool} {R : Rows} {s : FS t} (h : Bd R s) (c : Int) : agt s.edges c = (rowAt R c).map (·.2) := by rw [h.2.1, agt_tab]
theorem Bd.keys {t : Bool} {R : Rows} {s : FS t} (h : Bd R s) : s.ranks.map (·.1) = hereF R := by rw [h.1, tab_keys]; rfl
theorem ag_eq {ω α : Type} {l : List (Int × α)} {k : Int} {x : α} (h : agt l k = some x) : (agR l k : Res ω α) = .ok x := by
  unfold agR
  rw [h]
theorem aput_eq {ω α : Type} {l : List (Int × α)} {k : Int} {x : α} (h : l.length < 16777216) : (aputR l k x : Res ω _) = .ok (aput l k x) := by
  unfold aputR
  rw [if_pos (Nat.lt_of_lt_of_le h size_big)]
theorem apop_eq {ω α : Type} {l : List (Int × α)} {k : Int} {x : α} (h : agt l k = some x) : (apopR l k : Res ω _) = .ok (x, adrop l k) := by
  unfold apopR
  rw [h]
theorem keys_eq {ω α : Type} {l : List (Int × α)} (h : l.length ≤ 16777216) : (keysR l : Res ω _) = .ok (l.map (·.1)) := by
  unfold keysR
  rw [if_pos (Nat.le_trans h size_big)]
theorem get_eq {ω α : Type} {x : Option α} {y : α} (h : x = some y) : (getR x : Res ω α) = .ok y := by
  unfold getR
  rw [h]
end SB

namespace SB
open PySem PySem.Spec PyProof.Rows L2 Res
/-! ## dicts whose keys are numbers -/
section
variable {α : Type}
theorem agt_nil {k : Int} : agt ([] : List (Int × α)) k = none := rfl
theorem agt_mem_of : ∀ {l : List (Int × α)} {k : Int} {x : α}, agt l k = some x → (k, x) ∈ l
  | [], _, _, h => (nomatch h)
  | (j, y) :: l, k, x, h => by
    rw [agt_cons] at h
    by_cases e : j = k
    · rw [if_pos e] at h
      cases h
      subst e
      exact List.mem_cons_self
    · rw [if_neg e] at h
      exact List.mem_cons_of_mem _ (agt_mem_of h)
theorem agt_some_key {l : List (Int × α)} {k : Int} {x : α} (h : agt l k = some x) : k ∈ l.map (·.1) := List.mem_map.mpr ⟨_, agt_mem_of h, rfl⟩
theorem agt_none {k : Int} : ∀ {l : List (Int × α)}, agt l k = none ↔ k ∉ l.map (·.1)
  | [] => ⟨fun _ h => (nomatch h), fun _ => rfl⟩
  | (j, y) :: l => by
    rw [agt_cons, List.map_cons, List.mem_cons]
    by_cases e : j = k
    · rw [if_pos e]
      exact ⟨fun h => (nomatch h), fun h => absurd (.inl e.symm) h⟩
    · rw [if_neg e, agt_none (l := l)]
      exact ⟨fun h z => z.elim (fun z => e z.symm) h, fun h z => h (.inr z)⟩
theorem agt_some {k : Int} {l : List (Int × α)} : (agt l k).isSome = true ↔ k ∈ l.map (·.1) := by
  have := agt_none (l := l) (k := k)
  cases e : agt l k with
  | none => exact ⟨fun h => (nomatch h), fun h => absurd h (this.mp e)⟩
  | some x => exact ⟨fun _ => agt_some_key e, fun _ => rfl⟩
theorem agt_iff {l : List (Int × α)} (h : (l.map (·.1)).Nodup) {k : Int} {x : α} : agt l k = some x ↔ (k, x) ∈ l := by
  refine ⟨agt_mem_of, ?_⟩
  induction l with
  | nil => exact fun z => (nomatch z)
  | cons p l ih =>
    obtain ⟨j, y⟩ := p
    intro z
    rw [List.map_cons, List.nodup_cons] at h
    rw [agt_cons]
    cases z with
    | head => rw [if_pos rfl]
    | tail _ z => rw [if_neg fun e => h.1 (by rw [show (j, y).1 = k from e]; exact List.mem_map.mpr ⟨_, z, rfl⟩), ih h.2 z]
theorem agt_perm {l l' : List (Int × α)} (p : l.Perm l') (h : (l.map (·.1)).Nodup) (k : Int) : agt l k = agt l' k := by
  have h' : (l'.map (·.1)).Nodup := (p.map _).nodup_iff.mp h
  cases e : agt l' k with
  | none =>
    rw [agt_none] at e ⊢
    exact fun z => e ((p.map _).mem_iff.mp z)
  | some x => exact (agt_iff h).mpr (p.mem_iff.mpr ((agt_iff h').mp e))
theorem agt_append {k : Int} : ∀ {l l' : List (Int × α)}, agt (l ++ l') k = (agt l k).or (agt l' k)
  | [], l' => rfl
  | (j, y) :: l, l' => by
    rw [List.cons_append, agt_cons, agt_cons, agt_append]
    by_cases e : j = k
    · rw [if_pos e, if_pos e]
      rfl
    · rw [if_neg e, if_neg e]
theorem any_key {l : List (Int × α)} {k : Int} : (l.any fun p => decide (p.1 = k)) = true ↔ k ∈ l.map (·.1) := by
  rw [List.any_eq_true, List.mem_map]
  exact ⟨fun ⟨p, h1, h2⟩ => ⟨p, h1, of_decide_eq_true h2⟩, fun ⟨p, h1, h2⟩ => ⟨p, h1, decide_eq_true h2⟩⟩
theorem aput_new {l : List (Int × α)} {k : Int} {x : α} (h : agt l k = none) : aput l k x = l ++ [(k, x)] := by
  unfold aput
  rw [if_neg fun z => agt_none.mp h (any_key.mp z)]
theorem agt_map_put {k : Int} {x : α} : ∀ {l : List (Int × α)} {j : Int}, agt (l.map fun p => if p.1 = k then (p.1, x) else p) j = if k = j ∧ (agt l k).isSome = true then some x else agt l j
  | [], j => by
    rw [if_neg fun h => (nomatch h.2)]
    rfl
  | (i, y) :: l, j => by
    rw [List.map_cons]
    show agt ((if i = k then (i, x) else (i, y)) :: _) j = _
    by_cases e : i = k
    · rw [if_pos e, agt_cons, agt_cons, agt_cons, agt_map_put, if_pos e]
      subst e
      by_cases e2 : i = j
      · rw [if_pos e2, if_pos ⟨e2, rfl⟩]
      · rw [if_neg e2, if_neg fun h => e2 h.1, if_neg fun h => e2 h.1, if_neg e2]
    · rw [if_neg e, agt_cons, agt_cons, agt_cons, agt_map_put, if_neg e]
      by_cases e2 : i = j
      · rw [if_pos e2, if_pos e2, if_neg fun h => e (e2.trans h.1.symm)]
      · rw [if_neg e2, if_neg e2]
theorem agt_aput {l : List (Int × α)} {k j : Int} {x : α} : agt (aput l k x) j = if k = j then some x else agt l j := by
  cases e : agt l k with
  | none =>
    rw [aput_new e, agt_append, agt_cons]
    by_cases z : k = j
    · rw [if_pos z, if_pos z]
      subst z
      rw [e]
      rfl
    · rw [if_neg z, if_neg z, agt_nil]
      cases agt l j <;> rfl
  | some y =>
    unfold aput
    rw [if_pos (any_key.mpr (agt_some_key e)), agt_map_put, e]
    by_cases z : k = j
    · rw [if_pos z, if_pos ⟨z, rfl⟩]
    · rw [if_neg z, if_neg fun h => z h.1]
theorem aput_keys {l : List (Int × α)} {k : Int} {x y : α} (h : agt l k = some y) : (aput l k x).map (·.1) = l.map (·.1) := by
  unfold aput
  rw [if_pos (any_key.mpr (agt_some_key h)), List.map_map]
  refine List.map_congr_left fun p _ => ?_
  show (if p.1 = k then (p.1, x) else p).1 = p.1
  by_cases e : p.1 = k
  · rw [if_pos e]
  · rw [if_neg e]
theorem aput_len {l : List (Int × α)} {k : Int} {x : α} : (aput l k x).length ≤ l.length + 1 := by
  unfold aput
  by_cases e : (l.any fun p => decide (p.1 = k)) = true
  · rw [if_pos e, List.length_map]
    omega
  · rw [if_neg e, List.length_append, List.length_singleton]
    omega
theorem agt_adrop {k : Int} : ∀ {l : List (Int × α)} {j : Int}, agt (adrop l k) j = if k = j then none else agt l j
  | [], j => by
    by_cases e : k = j
    · rw [if_pos e]
      rfl
    · rw [if_neg e]
      rfl
  | (i, y) :: l, j => by
    unfold adrop
    rw [List.filter_cons]
    have ih := agt_adrop (k := k) (l := l) (j := j)
    unfold adrop at ih
    by_cases e : i = k
    · rw [if_neg (by rw [decide_eq_true_iff]; exact fun h => h e), ih, agt_cons]
      by_cases e2 : k = j
      · rw [if_pos e2, if_pos e2]
      · rw [if_neg e2, if_neg e2, if_neg (e ▸ e2)]
    · rw [if_pos (decide_eq_true e), agt_cons, agt_cons, ih]
      by_cases e2 : i = j
      · rw [if_pos e2, if_pos e2, if_neg fun z => e (e2.trans z.symm)]
      · rw [if_neg e2, if_neg e2]
theorem adrop_nodup {l : List (Int × α)} {k : Int} (h : (l.map (·.1)).Nodup) : ((adrop l k).map (·.1)).Nodup := h.sublist ((List.filter_sublist).map _)
end
/-! ## arrows -/
abbrev Ar := List (Int × Int)
def stepsF (R : Rows) (a : Ar) (t : Int) : List Int := match agt a t with
  | some h => (edgeAt R h).filter fun x => !decide (x = t) && (agt a x).isSome
  | none => []
theorem steps_at {R : Rows} {a : Ar} {t h : Int} (e : agt a t = some h) : stepsF R a t = (edgeAt R h).filter fun x => !decide (x = t) && (agt a x).isSome := by
  unfold stepsF
  rw [e]
theorem steps_mem {R : Rows} {a : Ar} {t x : Int} : x ∈ stepsF R a t ↔ ∃ h, agt a t = some h ∧ x ∈ edgeAt R h ∧ x ≠ t ∧ (agt a x).isSome = true := by
  unfold stepsF
  cases e : agt a t with
  | none => exact ⟨fun h => (nomatch h), fun ⟨h, z, _⟩ => (nomatch z)⟩
  | some h =>
    show x ∈ List.filter _ _ ↔ _
    rw [List.mem_filter, Bool.and_eq_true]
    refine ⟨fun ⟨h1, h2, h3⟩ => ⟨h, rfl, h1, fun z => ?_, h3⟩, fun ⟨h', z, h1, h2, h3⟩ => ?_⟩
    · rw [decide_eq_true z] at h2
      cases h2
    · cases z
      refine ⟨h1, ?_, h3⟩
      rw [decide_eq_false h2]
      rfl
theorem steps_sm {R : Rows} (hw : Wf R) (a : Ar) (t : Int) : Sm (stepsF R a t) := by
  unfold stepsF
  cases e : agt a t with
  | none => exact .nil
  | some h => exact List.Pairwise.filter _ (edgeAt_sm hw h)
def Rk (R : Rows) (a : Ar) (rk : Int → Nat) : Prop := ∀ t x, x ∈ stepsF R a t → rk x < rk t
structure Fd (R : Rows) (a b : Ar) : Prop where
  ka : (a.map (·.1)).Nodup
  kb : (b.map (·.1)).Nodup
  ab : ∀ t h, agt a t = some h ↔ agt b h = some t
  face : ∀ t h, agt a t = some h → t ∈ edgeAt R h
  two : ∀ x, (agt a x).isSome = true → agt b x = none
  acy : ∃ rk, Rk R a rk
theorem filter_lt {p q : Int → Bool} : ∀ {l : List Int}, (∀ x, p x = true → q x = true) → (∃ x ∈ l, q x = true ∧ p x = false) → (l.filter p).length < (l.filter q).length
  | [], _, ⟨_, h, _⟩ => (nomatch h)
  | y :: l, hpq, ⟨x, hx, h1, h2⟩ => by
    have le : (l.filter p).length ≤ (l.filter q).length := by
      have : l.filter p = (l.filter q).filter p := by
        rw [List.filter_filter]
        refine List.filter_congr fun z _ => ?_
        cases e : p z with
        | false => rfl
        | true => rw [hpq z e]; rfl
      rw [this]
      exact List.length_filter_le _ _
    rw [List.filter_cons, List.filter_cons]
    by_cases e : x = y
    · subst e
      rw [if_pos h1, if_neg (by rw [h2]; decide), List.length_cons]
      omega
    · have hx : x ∈ l := by
        cases hx with
        | head => exact absurd rfl e
        | tail _ h => exact h
      have ih := filter_lt hpq ⟨x, hx, h1, h2⟩
      by_cases ep : p y = true
      · rw [if_pos ep, if_pos (hpq y ep), List.length_cons, List.length_cons]
        omega
      · rw [if_neg ep]
        by_cases eq : q y = true
        · rw [if_pos eq, List.length_cons]
          omega
        · rw [if_neg eq]
          exact ih
theorem rk_norm {R : Rows} {a : Ar} (h : ∃ rk, Rk R a rk) : ∃ rk, Rk R a rk ∧ ∀ x, rk x ≤ a.length := by
  obtain ⟨rk, h⟩ := h
  refine ⟨fun x => ((a.map (·.1)).filter fun u => decide (rk u < rk x)).length, fun t x hx => ?_, fun x => ?_⟩
  · have hr := h t x hx
    obtain ⟨_, _, _, _, hk⟩ := steps_mem.mp hx
    exact filter_lt (fun u hu => decide_eq_true (Nat.lt_trans (of_decide_eq_true hu) hr)) ⟨x, agt_some.mp hk, decide_eq_true hr, decide_eq_false (Nat.lt_irrefl _)⟩
  · exact Nat.le_trans (List.length_filter_le _ _) (by rw [List.length_map]; exact Nat.le_refl _)
theorem edge_here {R : Rows} (hw : Wf R) {x h : Int} (hx : x ∈ edgeAt R h) : (rowAt R x).isSome = true ∧ (rowAt R h).isSome = true ∧ x < h := by
  obtain ⟨r, e, h1, h2, e', h3⟩ := edgeAt_mem hw hx
  rw [h1, h3]
  exact ⟨rfl, rfl, (hw h r e h1).lt x h2⟩
theorem nodup_len {l : List Int} {R : Rows} (h : l.Nodup) (hb : ∀ x ∈ l, (rowAt R x).isSome = true) : l.length ≤ R.length := by
  have := sm_len (sm_sort h) (n := R.length) fun x hx => here_lt (here_mem.mpr (hb x (mem_sort.mp hx)))
  rw [(sortI_perm l).length_eq] at this
  exact this
theorem Fd.tail_here {R : Rows} {a b : Ar} (f : Fd R a b) (hw : Wf R) {x : Int} (h : (agt a x).isSome = true) : (rowAt R x).isSome = true := by
  obtain ⟨y, e⟩ := Option.isSome_iff_exists.mp h
  exact (edge_here hw (f.face x y e)).1
theorem Fd.head_here {R : Rows} {a b : Ar} (f : Fd R a b) (hw : Wf R) {x : Int} (h : (agt b x).isSome = true) : (rowAt R x).isSome = true := by
  obtain ⟨y, e⟩ := Option.isSome_iff_exists.mp h
  exact (edge_here hw (f.face y x ((f.ab y x).mpr e))).2.1
theorem Fd.len {R : Rows} {a b : Ar} (f : Fd R a b) (hw : Wf R) : a.length ≤ R.length := by
  have := nodup_len f.ka (R := R) fun x hx => f.tail_here hw (agt_some.mpr hx)
  rw [List.length_map] at this
  exact this
theorem Fd.lenb {R : Rows} {a b : Ar} (f : Fd R a b) (hw : Wf R) : b.length ≤ R.length := by
  have := nodup_len f.kb (R := R) fun x hx => f.head_here hw (agt_some.mpr hx)
  rw [List.length_map] at this
  exact this
theorem fd_nil {R : Rows} : Fd R [] [] := ⟨.nil, .nil, fun _ _ => ⟨fun h => (nomatch h), fun h => (nomatch h)⟩, fun _ _ h => (nomatch h), fun _ h => (nomatch h), ⟨fun _ => 0, fun t x h => by
  obtain ⟨_, z, _⟩ := steps_mem.mp h
  cases z⟩⟩
theorem Fd.congr {R R' : Rows} {a b : Ar} (f : Fd R a b) (h : ∀ t y, agt a t = some y → edgeAt R' y = edgeAt R y) : Fd R' a b := by
  refine ⟨f.ka, f.kb, f.ab, fun t y e => ?_, f.two, ?_⟩
  · rw [h t y e]
    exact f.face t y e
  · obtain ⟨rk, z⟩ := f.acy
    refine ⟨rk, fun t x hx => z t x ?_⟩
    obtain ⟨y, e, h1, h2⟩ := steps_mem.mp hx
    rw [h t y e] at h1
    exact steps_mem.mpr ⟨y, e, h1, h2⟩
theorem bound_of {rk : Int → Nat} : ∀ C : List Int, ∃ N, ∀ x ∈ C, rk x < N
  | [] => ⟨0, fun _ h => (nomatch h)⟩
  | c :: C => by
    obtain ⟨N, h⟩ := bound_of (rk := rk) C
    refine ⟨N + rk c + 1, fun x hx => ?_⟩
    cases hx with
    | head => omega
    | tail _ z => have := h x z; omega
theorem agt_snoc {a : Ar} {l h x : Int} (hl : agt a l = none) : agt (a ++ [(l, h)]) x = if l = x then some h else agt a x := by
  rw [← aput_new hl, agt_aput]
theorem rk_tie {R : Rows} {a : Ar} {low high : Int} {C : List Int} (hr : ∃ rk, Rk R a rk) (hl : agt a low = none) (h0 : ∀ x ∈ edgeAt R high, x ≠ low → (agt a x).isSome = true → x ∈ C)
    (h1 : ∀ t ∈ C, ∀ h, agt a t = some h → low ∉ edgeAt R h) (h2 : ∀ t ∈ C, ∀ x ∈ stepsF R a t, x ∈ C) (h3 : ∀ t ∈ C, t ≠ low) : ∃ rk, Rk R (a ++ [(low, high)]) rk := by
  obtain ⟨rk, hr⟩ := hr
  obtain ⟨N, hN⟩ := bound_of (rk := rk) C
  refine ⟨fun x => if x ∈ C then rk x else if x = low then N else rk x + N + 1, fun t x hx => ?_⟩
  obtain ⟨h, e, hm, hne, hs⟩ := steps_mem.mp hx
  rw [agt_snoc hl] at e hs
  show (if x ∈ C then rk x else if x = low then N else rk x + N + 1) < (if t ∈ C then rk t else if t = low then N else rk t + N + 1)
  by_cases et : low = t
  · rw [if_pos et] at e
    cases e
    subst et
    rw [if_neg (Ne.symm hne)] at hs
    have hxC := h0 x hm hne hs
    rw [if_pos hxC, if_neg fun z => h3 low z rfl, if_pos rfl]
    exact hN x hxC
  · rw [if_neg et] at e
    by_cases ex : low = x
    · subst ex
      have htC : t ∉ C := fun z => h1 t z h e hm
      rw [if_neg fun z => h3 low z rfl, if_pos rfl, if_neg htC, if_neg (Ne.symm et)]
      omega
    · rw [if_neg ex] at hs
      have hst : x ∈ stepsF R a t := steps_mem.mpr ⟨h, e, hm, hne, hs⟩
      have hlt := hr t x hst
      by_cases htC : t ∈ C
      · rw [if_pos (h2 t htC x hst), if_pos htC]
        exact hlt
      · rw [if_neg htC, if_neg (Ne.symm et)]
        by_cases hxC : x ∈ C
        · rw [if_pos hxC]
          have := hN x hxC
          omega
        · rw [if_neg hxC, if_neg (Ne.symm ex)]
          omega
theorem Fd.tie {R : Rows} {a b : Ar} {low high : Int} (f : Fd R a b) (hw : Wf R) (hf : low ∈ edgeAt R high) (a1 : agt a low = none) (a2 : agt b low = none) (b1 : agt a high = none) (b2 : agt b high = none)
    (hr : ∃ rk, Rk R (a ++ [(low, high)]) rk) : Fd R (a ++ [(low, high)]) (b ++ [(high, low)]) := by
  have hne : low ≠ high := fun e => by
    have := (edge_here hw hf).2.2
    omega
  refine ⟨?_, ?_, fun t h => ?_, fun t h e => ?_, fun x hx => ?_, hr⟩
  · rw [List.map_append, List.nodup_append]
    refine ⟨f.ka, List.pairwise_singleton _ _, fun x hx y hy e => ?_⟩
    rw [List.map_singleton, List.mem_singleton] at hy
    subst hy
    subst e
    exact agt_none.mp a1 hx
  · rw [List.map_append, List.nodup_append]
    refine ⟨f.kb, List.pairwise_singleton _ _, fun x hx y hy e => ?_⟩
    rw [List.map_singleton, List.mem_singleton] at hy
    subst hy
    subst e
    exact agt_none.mp b2 hx
  · rw [agt_snoc a1, agt_snoc b2]
    by_cases e1 : low = t
    · subst e1
      rw [if_pos rfl]
      by_cases e2 : high = h
      · subst e2
        rw [if_pos rfl]
        exact ⟨fun _ => rfl, fun _ => rfl⟩
      · rw [if_neg e2]
        refine ⟨fun z => absurd (Option.some.inj z) e2, fun z => ?_⟩
        rw [← f.ab, a1] at z
        cases z
    · rw [if_neg e1]
      by_cases e2 : high = h
      · subst e2
        rw [if_pos rfl]
        refine ⟨fun z => ?_, fun z => absurd (Option.some.inj z) e1⟩
        rw [f.ab, b2] at z
        cases z
      · rw [if_neg e2]
        exact f.ab t h
  · rw [agt_snoc a1] at e
    by_cases e1 : low = t
    · rw [if_pos e1] at e
      cases e
      subst e1
      exact hf
    · rw [if_neg e1] at e
      exact f.face t h e
  · rw [agt_snoc a1] at hx
    rw [agt_snoc b2]
    by_cases e1 : low = x
    · subst e1
      rw [if_neg (Ne.symm hne)]
      exact a2
    · rw [if_neg e1] at hx
      rw [if_neg fun e2 => by rw [← e2, b1] at hx; cases hx]
      exact f.two x hx
theorem Fd.untie {R : Rows} {a b : Ar} {low high : Int} (f : Fd R a b) (e : agt a low = some high) : Fd R (adrop a low) (adrop b high) := by
  have e' := (f.ab low high).mp e
  refine ⟨adrop_nodup f.ka, adrop_nodup f.kb, fun t h => ?_, fun t h z => ?_, fun x hx => ?_, ?_⟩
  · rw [agt_adrop, agt_adrop]
    by_cases e1 : low = t
    · subst e1
      rw [if_pos rfl]
      by_cases e2 : high = h
      · subst e2
        rw [if_pos rfl]
        exact ⟨fun z => (nomatch z), fun z => (nomatch z)⟩
      · rw [if_neg e2]
        refine ⟨fun z => (nomatch z), fun z => ?_⟩
        rw [← f.ab, e] at z
        exact absurd (Option.some.inj z) e2
    · rw [if_neg e1]
      by_cases e2 : high = h
      · subst e2
        rw [if_pos rfl]
        refine ⟨fun z => ?_, fun z => (nomatch z)⟩
        rw [f.ab, e'] at z
        exact absurd (Option.some.inj z) e1
      · rw [if_neg e2]
        exact f.ab t h
  · rw [agt_adrop] at z
    by_cases e1 : low = t
    · rw [if_pos e1] at z
      cases z
    · rw [if_neg e1] at z
      exact f.face t h z
  · rw [agt_adrop] at hx ⊢
    by_cases e1 : low = x
    · rw [if_pos e1] at hx
      cases hx
    · rw [if_neg e1] at hx
      rw [f.two x hx]
      by_cases e2 : high = x
      · rw [if_pos e2]
      · rw [if_neg e2]
  · obtain ⟨rk, hr⟩ := f.acy
    refine ⟨rk, fun t x hx => hr t x ?_⟩
    obtain ⟨h, z, h1, h2, h3⟩ := steps_mem.mp hx
    rw [agt_adrop] at z h3
    by_cases e1 : low = t
    · rw [if_pos e1] at z
      cases z
    · rw [if_neg e1] at z
      by_cases e2 : low = x
      · rw [if_pos e2] at h3
        cases h3
      · rw [if_neg e2] at h3
        exact steps_mem.mpr ⟨h, z, h1, h2, h3⟩
end SB

namespace SB
open PySem PySem.Spec PyProof.Rows L2 Res
/-! ## sums carried cell by cell -/
def linF (f : Int → List Int) (row : List Int) : List Int := row.foldl (fun s c => joinF s (f c)) []
section
variable {f g : Int → List Int}
theorem lfold_sm (hf : ∀ c, Sm (f c)) : ∀ (e s : List Int), Sm s → Sm (e.foldl (fun s c => joinF s (f c)) s)
  | [], _, hs => hs
  | x :: e, s, hs => lfold_sm hf e _ (sm_join hs (hf x))
theorem lin_sm (hf : ∀ c, Sm (f c)) (e : List Int) : Sm (linF f e) := lfold_sm hf e [] .nil
theorem lfold_mem {x : Int} : ∀ (e s : List Int), x ∈ e.foldl (fun s c => joinF s (f c)) s → x ∈ s ∨ ∃ c ∈ e, x ∈ f c
  | [], _, h => .inl h
  | c :: e, s, h => by
    rcases lfold_mem e _ h with h1 | ⟨d, hd, h1⟩
    · rcases mem_join.mp h1 with h2 | h2
      · exact .inl h2.1
      · exact .inr ⟨c, List.mem_cons_self, h2.1⟩
    · exact .inr ⟨d, List.mem_cons_of_mem _ hd, h1⟩
theorem lin_mem {x : Int} {e : List Int} (h : x ∈ linF f e) : ∃ c ∈ e, x ∈ f c := by
  rcases lfold_mem e [] h with h1 | h1
  · cases h1
  · exact h1
theorem lfold_start (hf : ∀ c, Sm (f c)) : ∀ (e s : List Int), Sm s → e.foldl (fun s c => joinF s (f c)) s = joinF s (linF f e)
  | [], s, hs => (join_nil s hs).symm
  | c :: e, s, hs => by
    have hc := hf c
    unfold linF
    rw [List.foldl_cons, List.foldl_cons, lfold_start hf e _ (sm_join hs hc), nil_join _ hc, lfold_start hf e _ hc, join_assoc _ _ _ hs hc (lin_sm hf e)]
theorem lin_cons (hf : ∀ c, Sm (f c)) (c : Int) (e : List Int) : linF f (c :: e) = joinF (f c) (linF f e) := by
  have := lfold_start hf e (joinF [] (f c)) (sm_join .nil (hf c))
  unfold linF at this ⊢
  rw [List.foldl_cons, this, nil_join _ (hf c)]
theorem lin_append (hf : ∀ c, Sm (f c)) : ∀ (a b : List Int), linF f (a ++ b) = joinF (linF f a) (linF f b)
  | [], b => (nil_join _ (lin_sm hf b)).symm
  | c :: a, b => by
    rw [List.cons_append, lin_cons hf, lin_append hf a b, lin_cons hf, join_assoc _ _ _ (hf c) (lin_sm hf a) (lin_sm hf b)]
theorem lin_perm (hf : ∀ c, Sm (f c)) {a b : List Int} (h : a.Perm b) : linF f a = linF f b := by
  induction h with
  | nil => rfl
  | cons x _ ih => rw [lin_cons hf, lin_cons hf, ih]
  | swap x y l =>
    have hx := hf x
    have hy := hf y
    have hl := lin_sm hf l
    rw [lin_cons hf, lin_cons hf, lin_cons hf, lin_cons hf, ← join_assoc _ _ _ hy hx hl, join_comm _ _ hy hx, join_assoc _ _ _ hx hy hl]
  | trans _ _ ih1 ih2 => exact ih1.trans ih2
theorem lin_join (hf : ∀ c, Sm (f c)) {a b : List Int} (ha : Sm a) (hb : Sm b) : linF f (joinF a b) = joinF (linF f a) (linF f b) := by
  have hp : ∀ l : List Int, ∀ q : Int → Bool, linF f l = joinF (linF f (l.filter q)) (linF f (l.filter fun x => !q x)) := fun l q => by
    rw [← lin_append hf]
    exact lin_perm hf (List.filter_append_perm q l).symm
  have ea := hp a (fun x => !decide (x ∈ b))
  have eb := hp b (fun x => !decide (x ∈ a))
  have hc : linF f (a.filter fun x => !!decide (x ∈ b)) = linF f (b.filter fun x => !!decide (x ∈ a)) := by
    refine lin_perm hf (perm_of (ha.nodup.filter _) (hb.nodup.filter _) fun x => ?_)
    rw [List.mem_filter, List.mem_filter]
    simp
    exact And.comm
  have e1 : linF f (joinF a b) = joinF (linF f (a.filter fun x => !decide (x ∈ b))) (linF f (b.filter fun x => !decide (x ∈ a))) := (lin_perm hf (sortI_perm _)).trans (lin_append hf _ _)
  have h1 := lin_sm hf (a.filter fun x => !decide (x ∈ b))
  have h2 := lin_sm hf (b.filter fun x => !decide (x ∈ a))
  have h3 := lin_sm hf (b.filter fun x => !!decide (x ∈ a))
  rw [e1, ea, eb, hc, join_comm _ _ h2 h3, join_assoc _ _ _ h1 h3 (sm_join h3 h2), join_cancel _ _ h3 h2]
theorem lin_one (hf : ∀ c, Sm (f c)) (c : Int) : linF f [c] = f c := nil_join _ (hf c)
theorem lin_lin (hf : ∀ c, Sm (f c)) (hg : ∀ c, Sm (g c)) : ∀ row : List Int, linF f (linF g row) = linF (fun c => linF f (g c)) row
  | [] => rfl
  | c :: row => by
    rw [lin_cons hg, lin_join hf (hg c) (lin_sm hg row), lin_lin hf hg row, lin_cons fun c => lin_sm hf (g c)]
theorem lfold_congr : ∀ (row s : List Int), (∀ x ∈ row, f x = g x) → row.foldl (fun s c => joinF s (f c)) s = row.foldl (fun s c => joinF s (g c)) s
  | [], _, _ => rfl
  | c :: row, s, h => by
    rw [List.foldl_cons, List.foldl_cons, h c List.mem_cons_self, lfold_congr row _ fun x hx => h x (List.mem_cons_of_mem _ hx)]
theorem lin_congr {row : List Int} (h : ∀ x ∈ row, f x = g x) : linF f row = linF g row := lfold_congr row [] h
theorem lin_zero {row : List Int} (h : ∀ x ∈ row, f x = []) : linF f row = [] := by
  rw [lin_congr (g := fun _ => []) h]
  induction row with
  | nil => rfl
  | cons c row ih =>
    rw [lin_cons fun _ => .nil, ih fun x hx => h x (List.mem_cons_of_mem _ hx)]
    rfl
theorem lin_ones : ∀ {row : List Int}, Sm row → linF (fun x => [x]) row = row
  | [], _ => rfl
  | c :: row, hs => by
    have h1 : ∀ c : Int, Sm [c] := fun c => List.pairwise_singleton _ _
    have hp := List.pairwise_cons.mp hs
    rw [lin_cons h1, lin_ones hp.2]
    refine (sm_join (h1 c) hp.2).ext hs fun x => ?_
    rw [mem_join, List.mem_singleton, List.mem_cons]
    constructor
    · rintro (h | h)
      · exact .inl h.1
      · exact .inr h.1
    · rintro (rfl | h)
      · exact .inl ⟨rfl, fun z => by have := hp.1 x z; omega⟩
      · exact .inr ⟨h, fun z => by have := hp.1 x h; omega⟩
theorem lin_id {row : List Int} (hs : Sm row) (h : ∀ x ∈ row, f x = [x]) : linF f row = row := by
  rw [lin_congr (g := fun x => [x]) h, lin_ones hs]
theorem join_swap {a b c d : List Int} (ha : Sm a) (hb : Sm b) (hc : Sm c) (hd : Sm d) : joinF (joinF a b) (joinF c d) = joinF (joinF a c) (joinF b d) := by
  rw [join_assoc _ _ _ ha hb (sm_join hc hd), join_assoc _ _ _ ha hc (sm_join hb hd), ← join_assoc _ _ _ hb hc hd, join_comm _ _ hb hc, join_assoc _ _ _ hc hb hd]
theorem lin_add (hf : ∀ c, Sm (f c)) (hg : ∀ c, Sm (g c)) : ∀ row : List Int, linF (fun c => joinF (f c) (g c)) row = joinF (linF f row) (linF g row)
  | [] => rfl
  | c :: row => by
    rw [lin_cons fun c => sm_join (hf c) (hg c), lin_cons hf, lin_cons hg, lin_add hf hg row, join_swap (hf c) (hg c) (lin_sm hf row) (lin_sm hg row)]
theorem lin_filter (hf : ∀ c, Sm (f c)) (p : Int → Bool) : ∀ {row : List Int}, (∀ x ∈ row, p x = false → f x = []) → linF f (row.filter p) = linF f row
  | [], _ => rfl
  | c :: row, h => by
    rw [List.filter_cons]
    have ih := lin_filter hf p fun x hx => h x (List.mem_cons_of_mem _ hx)
    cases e : p c with
    | true => rw [if_pos rfl, lin_cons hf, lin_cons hf, ih]
    | false => rw [if_neg (by decide), lin_cons hf, ih, h c List.mem_cons_self e, nil_join _ (lin_sm hf row)]
end
theorem edge_lin (R : Rows) (row : List Int) : edgeF R row = linF (edgeAt R) row := rfl
/-! ## an order of the tails -/
def preds (R : Rows) (a : Ar) (x : Int) : List Int := (a.map (·.1)).filter fun t => decide (x ∈ stepsF R a t)
def cnt (R : Rows) (a : Ar) (done : List Int) (x : Int) : Nat := ((preds R a x).filter fun t => !decide (t ∈ done)).length
theorem preds_mem {R : Rows} {a : Ar} {x t : Int} : t ∈ preds R a x ↔ x ∈ stepsF R a t := by
  unfold preds
  rw [List.mem_filter]
  refine ⟨fun h => of_decide_eq_true h.2, fun h => ⟨?_, decide_eq_true h⟩⟩
  obtain ⟨y, e, _⟩ := steps_mem.mp h
  exact agt_some_key e
theorem cnt_zero {R : Rows} {a : Ar} {done : List Int} {x : Int} : cnt R a done x = 0 ↔ ∀ t, x ∈ stepsF R a t → t ∈ done := by
  unfold cnt
  rw [List.length_eq_zero_iff, List.filter_eq_nil_iff]
  refine ⟨fun h t ht => ?_, fun h t ht => ?_⟩
  · have := h t (preds_mem.mpr ht)
    by_cases e : t ∈ done
    · exact e
    · rw [decide_eq_false e] at this
      exact absurd rfl this
  · rw [decide_eq_true (h t (preds_mem.mp ht))]
    decide
theorem ite_iff {α : Type} {p q : Prop} [Decidable p] [Decidable q] {x y : α} (h : p ↔ q) : (if p then x else y) = if q then x else y := by
  by_cases c : p
  · rw [if_pos c, if_pos (h.mp c)]
  · rw [if_neg c, if_neg fun z => c (h.mpr z)]
theorem filter_one {done : List Int} {t : Int} (ht : t ∉ done) : ∀ {l : List Int}, l.Nodup → (l.filter fun u => !decide (u ∈ done ++ [t])).length + (if t ∈ l then 1 else 0) = (l.filter fun u => !decide (u ∈ done)).length
  | [], _ => rfl
  | u :: l, h => by
    rw [List.nodup_cons] at h
    have ih := filter_one ht h.2
    rw [List.filter_cons, List.filter_cons]
    by_cases e : u = t
    · subst e
      rw [if_neg h.1] at ih
      rw [if_neg (by rw [decide_eq_true (List.mem_append_right _ (List.mem_singleton.mpr rfl))]; decide), if_pos (c := u ∈ u :: l) List.mem_cons_self, if_pos (by rw [decide_eq_false ht]; rfl), List.length_cons]
      omega
    · have e1 : (u ∈ done ++ [t]) ↔ u ∈ done := by
        rw [List.mem_append, List.mem_singleton]
        exact ⟨fun z => z.elim id fun z => absurd z e, .inl⟩
      have e2 : (t ∈ u :: l) ↔ t ∈ l := by
        rw [List.mem_cons]
        exact ⟨fun z => z.elim (fun z => absurd z.symm e) id, .inr⟩
      rw [show (if t ∈ u :: l then 1 else 0) = (if t ∈ l then 1 else 0) from ite_iff e2, show decide (u ∈ done ++ [t]) = decide (u ∈ done) from decide_eq_decide.mpr e1]
      cases decide (u ∈ done) with
      | true => exact ih
      | false =>
        show (u :: _).length + _ = (u :: _).length
        rw [List.length_cons, List.length_cons]
        omega
theorem cnt_snoc {R : Rows} {a : Ar} {done : List Int} {x t : Int} (ka : (a.map (·.1)).Nodup) (ht : t ∉ done) : cnt R a (done ++ [t]) x + (if x ∈ stepsF R a t then 1 else 0) = cnt R a done x := by
  have := filter_one ht (l := preds R a x) (ka.filter _)
  rw [show (if t ∈ preds R a x then 1 else 0) = (if x ∈ stepsF R a t then 1 else 0) from ite_iff preds_mem] at this
  exact this
structure Khn (R : Rows) (a : Ar) (done rest : List Int) : Prop where
  nd : (done ++ rest).Nodup
  tl : ∀ x ∈ done ++ rest, (agt a x).isSome = true
  zero : ∀ x, (agt a x).isSome = true → (x ∈ done ++ rest ↔ cnt R a done x = 0)
  ord : (done ++ rest).Pairwise (fun u v => u ∉ stepsF R a v)
def newF (R : Rows) (a : Ar) (done : List Int) (t : Int) : List Int := (stepsF R a t).filter fun x => decide (cnt R a (done ++ [t]) x = 0)
theorem Khn.turn {R : Rows} {a : Ar} {done rest : List Int} {t : Int} (hw : Wf R) (ka : (a.map (·.1)).Nodup) (k : Khn R a done (t :: rest)) : Khn R a (done ++ [t]) (rest ++ newF R a done t) := by
  have hnd := k.nd
  have htd : t ∉ done := fun z => (List.nodup_append.mp hnd).2.2 t z t List.mem_cons_self rfl
  have e : done ++ [t] ++ (rest ++ newF R a done t) = (done ++ t :: rest) ++ newF R a done t := by simp
  have hnew : ∀ x ∈ newF R a done t, x ∈ stepsF R a t ∧ cnt R a (done ++ [t]) x = 0 := fun x hx => ⟨(List.mem_filter.mp hx).1, of_decide_eq_true (List.mem_filter.mp hx).2⟩
  have htl : ∀ x ∈ newF R a done t, (agt a x).isSome = true := fun x hx => by
    obtain ⟨_, _, _, _, h⟩ := steps_mem.mp (hnew x hx).1
    exact h
  have hnot : ∀ x ∈ newF R a done t, x ∉ done ++ t :: rest := fun x hx z => by
    have h1 := (k.zero x (htl x hx)).mp z
    exact htd (cnt_zero.mp h1 t (hnew x hx).1)
  refine ⟨?_, fun x hx => ?_, fun x hx => ?_, ?_⟩
  · rw [e, List.nodup_append]
    refine ⟨hnd, ((steps_sm hw a t).nodup.filter _), fun x hx y hy z => ?_⟩
    subst z
    exact hnot x hy hx
  · rw [e] at hx
    rcases List.mem_append.mp hx with h | h
    · exact k.tl x h
    · exact htl x h
  · rw [e]
    have hs := cnt_snoc (R := R) (x := x) ka htd
    constructor
    · intro z
      rcases List.mem_append.mp z with h | h
      · have := (k.zero x hx).mp h
        omega
      · exact (hnew x h).2
    · intro z
      by_cases c : x ∈ stepsF R a t
      · exact List.mem_append_right _ (List.mem_filter.mpr ⟨c, decide_eq_true z⟩)
      · rw [if_neg c] at hs
        exact List.mem_append_left _ ((k.zero x hx).mpr (by omega))
  · rw [e, List.pairwise_append]
    refine ⟨k.ord, ?_, fun u hu v hv z => ?_⟩
    · refine List.Pairwise.imp_of_mem (R := fun _ _ => True) (fun {u v} hu hv _ z => ?_) (List.pairwise_of_forall fun _ _ => trivial)
      have h1 := cnt_zero.mp (hnew u hu).2 v z
      refine hnot v hv ?_
      rcases List.mem_append.mp h1 with h | h
      · exact List.mem_append_left _ h
      · rw [List.mem_singleton.mp h]
        exact List.mem_append_right _ List.mem_cons_self
    · have h1 := cnt_zero.mp ((k.zero u (k.tl u hu)).mp hu) v z
      exact hnot v hv (List.mem_append_left _ h1)
structure IsOrd (R : Rows) (a : Ar) (l : List Int) : Prop where
  perm : l.Perm (a.map (·.1))
  later : ∀ p x q, l = p ++ x :: q → ∀ y ∈ stepsF R a x, y ∈ q
theorem Khn.all {R : Rows} {a : Ar} {done : List Int} (hr : ∃ rk, Rk R a rk) (k : Khn R a done []) : ∀ x, (agt a x).isSome = true → x ∈ done := by
  obtain ⟨rk, hr, hb⟩ := rk_norm hr
  have : ∀ n x, a.length - rk x ≤ n → (agt a x).isSome = true → x ∈ done := by
    intro n
    induction n with
    | zero =>
      intro x hn hx
      have hz := k.zero x hx
      rw [List.append_nil] at hz
      refine hz.mpr (cnt_zero.mpr fun t ht => ?_)
      have := hr t x ht
      have := hb t
      omega
    | succ n ih =>
      intro x hn hx
      have hz := k.zero x hx
      rw [List.append_nil] at hz
      refine hz.mpr (cnt_zero.mpr fun t ht => ih t ?_ ?_)
      · have := hr t x ht
        omega
      · obtain ⟨y, e, _⟩ := steps_mem.mp ht
        rw [e]
        rfl
  exact fun x hx => this _ x (Nat.le_refl _) hx
theorem Khn.is {R : Rows} {a : Ar} {done : List Int} (ka : (a.map (·.1)).Nodup) (hr : ∃ rk, Rk R a rk) (k : Khn R a done []) : IsOrd R a done := by
  have hall := k.all hr
  have hnd := k.nd
  have htl := k.tl
  have hord := k.ord
  rw [List.append_nil] at hnd htl hord
  refine ⟨perm_of hnd ka fun x => ⟨fun h => agt_some.mp (htl x h), fun h => hall x (agt_some.mpr h)⟩, fun p x q e y hy => ?_⟩
  obtain ⟨_, _, _, hne, hyt⟩ := steps_mem.mp hy
  have hm := hall y hyt
  rw [e] at hm hord
  rcases List.mem_append.mp hm with h | h
  · exact absurd hy ((List.pairwise_append.mp hord).2.2 y h x List.mem_cons_self)
  · cases h with
    | head => exact absurd rfl hne
    | tail _ h => exact h
theorem Khn.start {R : Rows} {a : Ar} (ka : (a.map (·.1)).Nodup) : Khn R a [] ((sortI (a.map (·.1))).filter fun x => decide (cnt R a [] x = 0)) := by
  refine ⟨?_, fun x hx => ?_, fun x hx => ?_, ?_⟩
  · exact ((sm_sort ka).nodup.filter _)
  · exact agt_some.mpr (mem_sort.mp (List.mem_filter.mp hx).1)
  · rw [List.nil_append, List.mem_filter]
    exact ⟨fun z => of_decide_eq_true z.2, fun z => ⟨mem_sort.mpr (agt_some.mp hx), decide_eq_true z⟩⟩
  · rw [List.nil_append]
    refine List.Pairwise.imp_of_mem (R := fun _ _ => True) (fun {u v} hu hv _ z => ?_) (List.pairwise_of_forall fun _ _ => trivial)
    cases cnt_zero.mp (of_decide_eq_true (List.mem_filter.mp hu).2) v z
/-! ## the fillers -/
def filF (R : Rows) (a : Ar) (F : Int → List Int) (t h : Int) : List Int := (stepsF R a t).foldl (fun s x => joinF s (F x)) [h]
structure Fil (R : Rows) (a b : Ar) (F : Int → List Int) : Prop where
  eq : ∀ t h, agt a t = some h → F t = filF R a F t h
  non : ∀ x, agt a x = none → F x = []
  sm : ∀ x, Sm (F x)
  hd : ∀ x, ∀ y ∈ F x, (agt b y).isSome = true
theorem sm_one (c : Int) : Sm [c] := List.pairwise_singleton _ _
theorem Fil.eq' {R : Rows} {a b : Ar} {F : Int → List Int} (f : Fil R a b F) {t h : Int} (e : agt a t = some h) : F t = joinF [h] (linF F (stepsF R a t)) := by
  rw [f.eq t h e]
  exact lfold_start f.sm _ _ (sm_one h)
/-- the border of a head is filled with it -/
theorem Fil.edge {R : Rows} {a b : Ar} {F : Int → List Int} (f : Fil R a b F) (d : Fd R a b) (hw : Wf R) {t h : Int} (e : agt a t = some h) : linF F (edgeAt R h) = [h] := by
  have hs := edgeAt_sm hw h
  have ht := d.face t h e
  have hp : (edgeAt R h).Perm (t :: (edgeAt R h).filter fun x => !decide (x = t)) := by
    refine perm_of hs.nodup ?_ fun x => ?_
    · rw [List.nodup_cons]
      refine ⟨fun z => ?_, hs.nodup.filter _⟩
      have := (List.mem_filter.mp z).2
      rw [decide_eq_true rfl] at this
      cases this
    · rw [List.mem_cons, List.mem_filter]
      by_cases c : x = t
      · subst c
        exact ⟨fun _ => .inl rfl, fun _ => ht⟩
      · rw [decide_eq_false c]
        exact ⟨fun z => .inr ⟨z, rfl⟩, fun z => z.elim (fun z => absurd z c) fun z => z.1⟩
  have e1 : linF F (stepsF R a t) = linF F ((edgeAt R h).filter fun x => !decide (x = t)) := by
    have e2 : stepsF R a t = ((edgeAt R h).filter fun x => !decide (x = t)).filter fun x => (agt a x).isSome := by
      rw [steps_at e, List.filter_filter]
      exact List.filter_congr fun x _ => Bool.and_comm _ _
    rw [e2]
    refine lin_filter f.sm _ fun x _ hx => f.non x ?_
    cases c : agt a x with
    | none => rfl
    | some y =>
      rw [c] at hx
      cases hx
  have hl := lin_sm f.sm (stepsF R a t)
  rw [lin_perm f.sm hp, lin_cons f.sm, ← e1, f.eq' e, join_assoc _ _ _ (sm_one h) hl hl, join_self, join_nil _ (sm_one h)]
theorem Fil.heads {R : Rows} {a b : Ar} {F : Int → List Int} (f : Fil R a b F) (d : Fd R a b) {row : List Int} (h : ∀ x ∈ row, (agt b x).isSome = true) : linF F row = [] := lin_zero fun x hx => f.non x (by
  cases e : agt a x with
  | none => rfl
  | some y =>
    have h1 := d.two x (by rw [e]; rfl)
    have h2 := h x hx
    rw [h1] at h2
    cases h2)
theorem Fil.edges {R : Rows} {a b : Ar} {F : Int → List Int} (f : Fil R a b F) (d : Fd R a b) (hw : Wf R) {row : List Int} (hs : Sm row) (h : ∀ x ∈ row, (agt b x).isSome = true) : linF F (edgeF R row) = row := by
  rw [edge_lin, lin_lin f.sm (fun c => edgeAt_sm hw c)]
  refine lin_id hs fun x hx => ?_
  obtain ⟨t, e⟩ := Option.isSome_iff_exists.mp (h x hx)
  exact f.edge d hw ((d.ab t x).mpr e)
end SB

namespace SB
open PySem PySem.Spec PyProof.Rows L2 Res
def loneF (a b : Ar) (row : List Int) : List Int := row.filter fun x => !((agt a x).isSome || (agt b x).isSome)
theorem lone_mem {a b : Ar} {row : List Int} {x : Int} : x ∈ loneF a b row ↔ x ∈ row ∧ agt a x = none ∧ agt b x = none := by
  unfold loneF
  rw [List.mem_filter]
  cases agt a x with
  | some y => exact ⟨fun h => (nomatch h.2), fun h => (nomatch h.2.1)⟩
  | none =>
    cases agt b x with
    | some y => exact ⟨fun h => (nomatch h.2), fun h => (nomatch h.2.2)⟩
    | none => exact ⟨fun h => ⟨h.1, rfl, rfl⟩, fun h => ⟨h.1, rfl⟩⟩
theorem lone_sm {a b : Ar} {row : List Int} (h : Sm row) : Sm (loneF a b row) := List.Pairwise.filter _ h
theorem lone_join {a b : Ar} {x y : List Int} (hx : Sm x) (hy : Sm y) : loneF a b (joinF x y) = joinF (loneF a b x) (loneF a b y) := by
  refine (lone_sm (sm_join hx hy)).ext (sm_join (lone_sm hx) (lone_sm hy)) fun z => ?_
  rw [lone_mem, mem_join, mem_join, lone_mem, lone_mem]
  constructor
  · rintro ⟨h1 | h1, h2⟩
    · exact .inl ⟨⟨h1.1, h2⟩, fun w => h1.2 w.1⟩
    · exact .inr ⟨⟨h1.1, h2⟩, fun w => h1.2 w.1⟩
  · rintro (h | h)
    · exact ⟨.inl ⟨h.1.1, fun w => h.2 ⟨w, h.1.2⟩⟩, h.1.2⟩
    · exact ⟨.inr ⟨h.1.1, fun w => h.2 ⟨w, h.1.2⟩⟩, h.1.2⟩
theorem lone_nil {a b : Ar} {row : List Int} (h : ∀ x ∈ row, (agt a x).isSome = true ∨ (agt b x).isSome = true) : loneF a b row = [] := List.filter_eq_nil_iff.mpr fun x hx z => by
  have := lone_mem.mp (List.mem_filter.mpr ⟨hx, z⟩)
  rcases h x hx with h | h
  · rw [this.2.1] at h
    cases h
  · rw [this.2.2] at h
    cases h
theorem lone_self {a b : Ar} {row : List Int} (h : ∀ x ∈ row, agt a x = none ∧ agt b x = none) : loneF a b row = row := List.filter_eq_self.mpr fun x hx => by rw [(h x hx).1, (h x hx).2]; rfl
def upF (R : Rows) (F : Int → List Int) (row : List Int) : List Int := joinF row (linF F (edgeF R row))
def downF (R : Rows) (a b : Ar) (F : Int → List Int) (row : List Int) : List Int := loneF a b (joinF row (edgeF R (linF F row)))
def slimF (R : Rows) (a b : Ar) (F : Int → List Int) (row : List Int) : List Int := loneF a b (edgeF R (upF R F row))
def phiF (R : Rows) (F : Int → List Int) (row : List Int) : List Int := joinF (joinF row (edgeF R (linF F row))) (linF F (edgeF R row))
theorem edge_dd {R : Rows} (hw : Wf R) (row : List Int) : edgeF R (edgeF R row) = [] := by
  rw [edge_lin, edge_lin, lin_lin (fun c => edgeAt_sm hw c) (fun c => edgeAt_sm hw c)]
  refine lin_zero fun c _ => ?_
  rw [← edge_lin]
  unfold edgeAt
  cases e : rowAt R c with
  | none => rfl
  | some x => exact (hw c x.1 x.2 e).round
section
variable {R : Rows} {a b : Ar} {F : Int → List Int}
theorem Fil.mem_head (f : Fil R a b F) {row : List Int} : ∀ y ∈ linF F row, (agt b y).isSome = true := fun y hy => by
  obtain ⟨c, _, h⟩ := lin_mem hy
  exact f.hd c y h
theorem Fil.ff (f : Fil R a b F) (d : Fd R a b) (row : List Int) : linF F (linF F row) = [] := f.heads d f.mem_head
theorem Fil.fdf (f : Fil R a b F) (d : Fd R a b) (hw : Wf R) (row : List Int) : linF F (edgeF R (linF F row)) = linF F row := f.edges d hw (lin_sm f.sm row) f.mem_head
theorem Fil.fsm (f : Fil R a b F) (row : List Int) : Sm (linF F row) := lin_sm f.sm row
theorem phi_sm (f : Fil R a b F) (hw : Wf R) {row : List Int} (h : Sm row) : Sm (phiF R F row) := sm_join (sm_join h (edgeF_sm hw _)) (f.fsm _)
theorem up_sm (f : Fil R a b F) {row : List Int} (h : Sm row) : Sm (upF R F row) := sm_join h (f.fsm _)
theorem f_phi (f : Fil R a b F) (d : Fd R a b) (hw : Wf R) {row : List Int} (h : Sm row) : linF F (phiF R F row) = [] := by
  unfold phiF
  rw [lin_join f.sm (sm_join h (edgeF_sm hw _)) (f.fsm _), lin_join f.sm h (edgeF_sm hw _), f.ff d, f.fdf d hw, join_self]
  rfl
theorem phi_f (f : Fil R a b F) (d : Fd R a b) (hw : Wf R) (row : List Int) : phiF R F (linF F row) = [] := by
  unfold phiF
  rw [f.ff d, f.fdf d hw]
  show joinF (joinF _ []) _ = []
  rw [join_nil _ (f.fsm row), join_self]
theorem phi_d (f : Fil R a b F) (hw : Wf R) {row : List Int} (h : Sm row) : edgeF R (phiF R F row) = phiF R F (edgeF R row) := by
  unfold phiF
  have hd := edgeF_sm hw
  rw [edgeF_join hw (sm_join h (hd _)) (f.fsm _), edgeF_join hw h (hd _), edge_dd hw, edge_dd hw]
  show _ = joinF _ []
  rw [join_nil _ (hd _), join_nil _ (sm_join (hd _) (hd _))]
theorem f_lone (f : Fil R a b F) {row : List Int} (h : ∀ x ∈ row, agt a x = none) : linF F row = [] := lin_zero fun x hx => f.non x (h x hx)
theorem up_phi (f : Fil R a b F) {row : List Int} (hs : Sm row) (h : ∀ x ∈ row, agt a x = none) : upF R F row = phiF R F row := by
  unfold upF phiF
  rw [f_lone f h]
  show _ = joinF (joinF row []) _
  rw [join_nil _ hs]
theorem lone_f (f : Fil R a b F) (row : List Int) : loneF a b (linF F row) = [] := lone_nil fun x hx => .inr (f.mem_head x hx)
theorem down_phi (f : Fil R a b F) (hw : Wf R) {row : List Int} (hs : Sm row) : downF R a b F row = loneF a b (phiF R F row) := by
  unfold downF phiF
  rw [lone_join (sm_join hs (edgeF_sm hw _)) (f.fsm _), lone_f f, join_nil _ (lone_sm (sm_join hs (edgeF_sm hw _)))]
/-- a filler's heads: its own, and those of lower tails -/
theorem Fil.reach (f : Fil R a b F) {rk : Int → Nat} (hr : Rk R a rk) : ∀ (n : Nat) (t y : Int), rk t ≤ n → y ∈ F t → ∃ v, agt a v = some y ∧ (v = t ∨ rk v < rk t) := by
  intro n
  induction n with
  | zero =>
    intro t y hn hy
    cases e : agt a t with
    | none =>
      rw [f.non t e] at hy
      cases hy
    | some h =>
      rw [f.eq' e] at hy
      rcases mem_join.mp hy with h1 | h1
      · exact ⟨t, by rw [List.mem_singleton.mp h1.1]; exact e, .inl rfl⟩
      · obtain ⟨c, hc, _⟩ := lin_mem h1.1
        have := hr t c hc
        omega
  | succ n ih =>
    intro t y hn hy
    cases e : agt a t with
    | none =>
      rw [f.non t e] at hy
      cases hy
    | some h =>
      rw [f.eq' e] at hy
      rcases mem_join.mp hy with h1 | h1
      · exact ⟨t, by rw [List.mem_singleton.mp h1.1]; exact e, .inl rfl⟩
      · obtain ⟨c, hc, h2⟩ := lin_mem h1.1
        have hlt := hr t c hc
        obtain ⟨v, hv, hv2⟩ := ih c y (by omega) h2
        refine ⟨v, hv, .inr ?_⟩
        rcases hv2 with rfl | hv2
        · exact hlt
        · omega
theorem Fil.own (f : Fil R a b F) (d : Fd R a b) {t h : Int} (e : agt a t = some h) : h ∈ F t := by
  obtain ⟨rk, hr⟩ := d.acy
  rw [f.eq' e, mem_join]
  refine .inl ⟨List.mem_singleton.mpr rfl, fun z => ?_⟩
  obtain ⟨c, hc, h2⟩ := lin_mem z
  have hlt := hr t c hc
  obtain ⟨v, hv, hv2⟩ := f.reach hr _ c h (Nat.le_refl _) h2
  have : v = t := by
    have e1 := (d.ab v h).mp hv
    have e2 := (d.ab t h).mp e
    rw [e1] at e2
    exact Option.some.inj e2
  subst this
  rcases hv2 with rfl | hv2
  · omega
  · omega
theorem max_rk {rk : Int → Nat} : ∀ {l : List Int}, l ≠ [] → ∃ t ∈ l, ∀ x ∈ l, rk x ≤ rk t
  | [], h => absurd rfl h
  | [x], _ => ⟨x, List.mem_cons_self, fun y hy => by rw [List.mem_singleton.mp hy]; exact Nat.le_refl _⟩
  | x :: y :: l, _ => by
    obtain ⟨t, ht, hm⟩ := max_rk (rk := rk) (l := y :: l) (by simp)
    by_cases c : rk x ≤ rk t
    · exact ⟨t, List.mem_cons_of_mem _ ht, fun z hz => by
        cases hz with
        | head => exact c
        | tail _ hz => exact hm z hz⟩
    · exact ⟨x, List.mem_cons_self, fun z hz => by
        cases hz with
        | head => exact Nat.le_refl _
        | tail _ hz =>
          have := hm z hz
          omega⟩
/-- what is filled with nothing has no tail -/
theorem no_tail (f : Fil R a b F) (d : Fd R a b) {row : List Int} (hs : Sm row) (h : linF F row = []) : ∀ x ∈ row, agt a x = none := by
  have hT : linF F (row.filter fun x => (agt a x).isSome) = [] := by
    rw [lin_filter f.sm _ fun x _ hx => f.non x (by
      cases c : agt a x with
      | none => rfl
      | some y =>
        rw [c] at hx
        cases hx), h]
  by_cases hne : (row.filter fun x => (agt a x).isSome) = []
  · intro x hx
    cases c : agt a x with
    | none => rfl
    | some y =>
      have : x ∈ row.filter fun x => (agt a x).isSome := List.mem_filter.mpr ⟨hx, by rw [c]; rfl⟩
      rw [hne] at this
      cases this
  · exfalso
    obtain ⟨rk, hr⟩ := d.acy
    obtain ⟨t, ht, hm⟩ := max_rk (rk := rk) hne
    obtain ⟨y, ey⟩ := Option.isSome_iff_exists.mp (List.mem_filter.mp ht).2
    have hnd : (row.filter fun x => (agt a x).isSome).Nodup := hs.nodup.filter _
    obtain ⟨p, q, hpq⟩ := List.append_of_mem ht
    have hperm : (row.filter fun x => (agt a x).isSome).Perm (t :: (p ++ q)) := by
      rw [hpq]
      exact List.perm_middle
    rw [lin_perm f.sm hperm, lin_cons f.sm] at hT
    have hy : y ∈ joinF (F t) (linF F (p ++ q)) := mem_join.mpr (.inl ⟨f.own d ey, fun z => by
      obtain ⟨c, hc, h2⟩ := lin_mem z
      have hcm : c ∈ row.filter fun x => (agt a x).isSome := hperm.mem_iff.mpr (List.mem_cons_of_mem _ hc)
      have hle := hm c hcm
      obtain ⟨v, hv, hv2⟩ := f.reach hr _ c y (Nat.le_refl _) h2
      have : v = t := by
        have e1 := (d.ab v y).mp hv
        have e2 := (d.ab t y).mp ey
        rw [e1] at e2
        exact Option.some.inj e2
      subst this
      rcases hv2 with rfl | hv2
      · rw [hperm.nodup_iff, List.nodup_cons] at hnd
        exact hnd.1 hc
      · omega⟩)
    rw [hT] at hy
    cases hy
theorem phi_no_tail (f : Fil R a b F) (d : Fd R a b) (hw : Wf R) {row : List Int} (hs : Sm row) : ∀ x ∈ phiF R F row, agt a x = none := no_tail f d (phi_sm f hw hs) (f_phi f d hw hs)
/-- a sum without tails, its border without tails, is carried up from its lone cells -/
theorem up_of (f : Fil R a b F) (d : Fd R a b) (hw : Wf R) {z : List Int} (hs : Sm z) (h1 : ∀ x ∈ z, agt a x = none) (h2 : ∀ x ∈ edgeF R z, agt a x = none) : upF R F (loneF a b z) = z := by
  have hz : z = joinF (loneF a b z) (z.filter fun x => (agt b x).isSome) := by
    refine hs.ext (sm_join (lone_sm hs) (List.Pairwise.filter _ hs)) fun x => ?_
    rw [mem_join, lone_mem, List.mem_filter]
    constructor
    · intro hx
      cases c : agt b x with
      | none => exact .inl ⟨⟨hx, h1 x hx, rfl⟩, fun w => (nomatch w.2)⟩
      | some y => exact .inr ⟨⟨hx, rfl⟩, fun w => (nomatch w.2.2)⟩
    · rintro (h | h)
      · exact h.1.1
      · exact h.1.1
  have hh : Sm (z.filter fun x => (agt b x).isSome) := List.Pairwise.filter _ hs
  have e1 : linF F (edgeF R z) = [] := f_lone f h2
  have e2 := e1
  rw [hz, edgeF_join hw (lone_sm hs) hh, lin_join f.sm (edgeF_sm hw _) (edgeF_sm hw _), f.edges d hw hh fun x hx => (List.mem_filter.mp hx).2] at e2
  have e3 : linF F (edgeF R (loneF a b z)) = z.filter fun x => (agt b x).isSome := by
    have h3 := congrArg (fun w => joinF w (z.filter fun x => (agt b x).isSome)) e2
    have h4 : joinF (joinF (linF F (edgeF R (loneF a b z))) (z.filter fun x => (agt b x).isSome)) (z.filter fun x => (agt b x).isSome) = joinF [] (z.filter fun x => (agt b x).isSome) := h3
    rw [join_assoc _ _ _ (f.fsm _) hh hh, join_self, join_nil _ (f.fsm _), nil_join _ hh] at h4
    exact h4
  unfold upF
  rw [e3, ← hz]
theorem phi_edge_no_tail (f : Fil R a b F) (d : Fd R a b) (hw : Wf R) {row : List Int} (hs : Sm row) : ∀ x ∈ edgeF R (phiF R F row), agt a x = none := by
  rw [phi_d f hw hs]
  exact phi_no_tail f d hw (edgeF_sm hw row)
theorem up_down (f : Fil R a b F) (d : Fd R a b) (hw : Wf R) {row : List Int} (hs : Sm row) : upF R F (downF R a b F row) = phiF R F row := by
  rw [down_phi f hw hs]
  exact up_of f d hw (phi_sm f hw hs) (phi_no_tail f d hw hs) (phi_edge_no_tail f d hw hs)
theorem lone_up (f : Fil R a b F) {row : List Int} (hs : Sm row) (h : ∀ x ∈ row, agt a x = none ∧ agt b x = none) : loneF a b (upF R F row) = row := by
  unfold upF
  rw [lone_join hs (f.fsm _), lone_f f, join_nil _ (lone_sm hs), lone_self h]
theorem f_up (f : Fil R a b F) (d : Fd R a b) (hw : Wf R) {row : List Int} (hs : Sm row) (h : ∀ x ∈ row, agt a x = none ∧ agt b x = none) : linF F (upF R F row) = [] := by
  rw [up_phi f hs fun x hx => (h x hx).1, f_phi f d hw hs]
theorem down_up (f : Fil R a b F) (d : Fd R a b) (hw : Wf R) {row : List Int} (hs : Sm row) (h : ∀ x ∈ row, agt a x = none ∧ agt b x = none) : downF R a b F (upF R F row) = row := by
  unfold downF
  rw [f_up f d hw hs h]
  show loneF a b (joinF _ []) = _
  rw [join_nil _ (up_sm f hs), lone_up f hs h]
theorem d_up (f : Fil R a b F) (d : Fd R a b) (hw : Wf R) {row : List Int} (hs : Sm row) (h : ∀ x ∈ row, agt a x = none ∧ agt b x = none) : upF R F (slimF R a b F row) = edgeF R (upF R F row) := by
  unfold slimF
  have e := up_phi (R := R) f hs fun x hx => (h x hx).1
  refine up_of f d hw (edgeF_sm hw _) ?_ ?_
  · rw [e]
    exact phi_edge_no_tail f d hw hs
  · rw [edge_dd hw]
    exact fun x hx => (nomatch hx)
theorem slim_slim (f : Fil R a b F) (d : Fd R a b) (hw : Wf R) {row : List Int} (hs : Sm row) (h : ∀ x ∈ row, agt a x = none ∧ agt b x = none) : slimF R a b F (slimF R a b F row) = [] := by
  show loneF a b (edgeF R (upF R F (slimF R a b F row))) = []
  rw [d_up f d hw hs h, edge_dd hw]
  rfl
theorem slim_down (f : Fil R a b F) (d : Fd R a b) (hw : Wf R) {row : List Int} (hs : Sm row) : slimF R a b F (downF R a b F row) = downF R a b F (edgeF R row) := by
  show loneF a b (edgeF R (upF R F (downF R a b F row))) = _
  rw [up_down f d hw hs, phi_d f hw hs, down_phi f hw (edgeF_sm hw row)]
theorem down_f (f : Fil R a b F) (d : Fd R a b) (hw : Wf R) (row : List Int) : downF R a b F (linF F row) = [] := by
  rw [down_phi f hw (f.fsm row), phi_f f d hw]
  rfl
theorem down_lone (f : Fil R a b F) {row : List Int} (hs : Sm row) (h : ∀ x ∈ row, agt a x = none ∧ agt b x = none) : downF R a b F row = row := by
  unfold downF
  rw [f_lone f fun x hx => (h x hx).1]
  show loneF a b (joinF row []) = row
  rw [join_nil _ hs, lone_self h]
theorem down_heads (f : Fil R a b F) (d : Fd R a b) {row : List Int} (hs : Sm row) (h : ∀ x ∈ row, (agt b x).isSome = true) : downF R a b F row = [] := by
  unfold downF
  rw [f.heads d h]
  show loneF a b (joinF row []) = []
  rw [join_nil _ hs]
  exact lone_nil fun x hx => .inr (h x hx)
theorem up_add (f : Fil R a b F) (hw : Wf R) {x y : List Int} (hx : Sm x) (hy : Sm y) : upF R F (joinF x y) = joinF (upF R F x) (upF R F y) := by
  unfold upF
  rw [edgeF_join hw hx hy, lin_join f.sm (edgeF_sm hw _) (edgeF_sm hw _), join_swap hx hy (f.fsm _) (f.fsm _)]
theorem down_add (f : Fil R a b F) (hw : Wf R) {x y : List Int} (hx : Sm x) (hy : Sm y) : downF R a b F (joinF x y) = joinF (downF R a b F x) (downF R a b F y) := by
  unfold downF
  have hd := edgeF_sm hw
  rw [lin_join f.sm hx hy, edgeF_join hw (f.fsm _) (f.fsm _), join_swap hx hy (hd _) (hd _), lone_join (sm_join hx (hd _)) (sm_join hy (hd _))]
theorem slim_add (f : Fil R a b F) (hw : Wf R) {x y : List Int} (hx : Sm x) (hy : Sm y) : slimF R a b F (joinF x y) = joinF (slimF R a b F x) (slimF R a b F y) := by
  unfold slimF
  rw [up_add f hw hx hy, edgeF_join hw (up_sm f hx) (up_sm f hy), lone_join (edgeF_sm hw _) (edgeF_sm hw _)]
end
end SB

namespace SB
open PySem PySem.Spec PyProof.Rows L2 Res
def topS (i : Nat) : Stmt := PySem.Challenge.pw_slimbody_k15_whole_ring_or_arrow.main.body.getD i (.Pass ⟨0, 0, 0, 0⟩)
structure Bi (mg : Str → Option Value) : Prop where
  len : mg "len" = none
  range : mg "range" = none
  sorted : mg "sorted" = none
  list : mg "list" = none
  isinstance : mg "isinstance" = none
  int : mg "int" = none
  bool : mg "bool" = none
  enumerate : mg "enumerate" = none
  tuple : mg "tuple" = none
  K_HIGHEST : ∃ u, mg "HIGHEST" = some u ∧ RelV (.int 12) u
  K_MOST : ∃ u, mg "MOST" = some u ∧ RelV (.int 120) u
structure Em (K : PySem.W.Frag) (T : Cs) : Prop where
  f_RingOfArrows_RingOfArrows : PySem.W.exmOne K (.ref T.ring) (.ref T.ring) = some true
abbrev s_RingOfArrows_init : Stmt := inClass (topS 13) 0
theorem sc_RingOfArrows_init : FnScope ["self", "ring"] ["self", "ring"] (defScope s_RingOfArrows_init) := ⟨rfl, rfl, rfl, by decide +kernel, rfl, by decide +kernel, by decide +kernel⟩
theorem ok_RingOfArrows_init {P : Program} {w : World} {K : PySem.W.Frag} {mg : Str → Option Value} {base : Heap} {C : Addr} {f : Addr} {fd : FuncData} (F : Fun K "__init__" "RingOfArrows.__init__" s_RingOfArrows_init f fd) : FnOk P w K mg base CX0 1 f fd ["self", "ring"] (sp_xi K C "ring") := by
  refine F.ok sc_RingOfArrows_init (fun vs H Q E h => ?_) (fun cdv A outer s H vs Q E hr h => ⟨rd_xi K "ring", ?_, wk_xi h⟩)
  · obtain ⟨_, _, rfl, _⟩ := h
    rfl
  · exact (pss_one (ps_ost (pv 0) (pv 1)))
@[irreducible] def m_law_bag (x_script : (List Int)) : Res Unit Bag := Res.bind (forM (β := Bag) (fun z16 (s21 : Int) => Res.bind (mulR s21 (1009 : Int)) fun t40 => Res.bind (modR ((s21 * (1009 : Int)) + z16) (1000003 : Int)) fun t41 => .ok (.next (((s21 * (1009 : Int)) + z16) % (1000003 : Int)))) (cutL x_script none (some (63 : Int))) ((cutL x_script none (some (63 : Int))).length : Int)) fun r63 => (match r63 with | .next s34 => .ok (Bag.mk (cutL x_script none (some (63 : Int))) (0 : Int) (0 : Int) s34) | .ret y64 => .ok y64)
def sp_law_bag (T : Cs) (K : PySem.W.Frag) : Sp := fun vs H Q E => ∃ (A : Hp) (R : List Hp) (v_script : V) (x_script : (List Int)), vs = [v_script] ∧ St H (A :: R) ∧ Scr K A v_script x_script ∧ (m_law_bag x_script).wp (fun y => ∀ (A' H' : Hp) (v : V) (m : Hp), Same A A' → St H' (A' :: m :: R) → Ob.isAt T A' m v y → Q v H') (fun _ _ => False)
def rd_law_bag (T : Cs) (K : PySem.W.Frag) (E : XK) : TS := (tSeq (tAsg (tCB (Evl.rLenS K) (tCons (tSl (rSlL K) (tVar 0) tNoPart (tPart (tC (.int 63)))) tNil)) (gName 1)) (tSeq (tFor (iList K (tSl (rSlL K) (tVar 0) tNoPart (tPart (tC (.int 63))))) (gName 2) (tAsg (tOp (rI (fun _ j => 0 < j) fun i j => .int (i % j)) (tOp (rI0 fun i j => .int (i + j)) (tOp (rI CMul fun i j => .int (i * j)) (tVar 1) (tC (.int 1009))) (tVar 2)) (tC (.int 1000003))) (gName 1))) (tRet (tLst (tCons (tCB (Evl.rListS K) (tCons (tSl (rSlL K) (tVar 0) tNoPart (tPart (tC (.int 63)))) tNil)) (tCons (tC (.int 0)) (tCons (tC (.int 0)) (tCons (tVar 1) tNil))))))))
theorem wk_law_bag {T : Cs} {K : PySem.W.Frag} {vs : List V} {H : Hp} {Q : VK} {E : XK}  (h : sp_law_bag T K vs H Q E) : rd_law_bag T K E { nx := fun _ H' => Q .non H', rt := Q } (L2.start ["_law_script", "_law_salt", "_law_one"] vs) H := by
  obtain ⟨A, R, v_script, x_script, rfl, S, h_script, h⟩ := h
  unfold m_law_bag at h
  unfold rd_law_bag
  have e0 : Same A A := Same.refl _
  refine q_asg ?_
  refine c_cb (c_cons (c_sl (c_var rfl (c_nopart (c_part (c_c (c_int (c_sliceS S h_script (ow S fun p1 ws2 H3 S4 h5 => ?_)))))))))
  refine c_nil (c_len ⟨_, _, rfl, (S4.mem _ (List.mem_of_getElem? (i := 1) rfl)) _ _ one_same, h5⟩ (?_))
  refine q_forL ?_
  refine c_sl (c_var rfl (c_nopart (c_part (c_c (c_int (c_sliceS S4 h_script (ow S4 fun p6 ws7 H8 S9 h10 => ?_)))))))
  have h12 := frz_is h10 S9
  have S13 := S9.frz
  have e11 := same_join_l (A := A) (B := (one p6 (.lst ws7)))
  generalize hjA14 : join A (one p6 (.lst ws7)) = A14 at h12 S13 e11
  clear hjA14
  have e0 := e0.trans e11
  have h_script := upS h_script e11
  refine c_forL (A := A14) (s0 := ((cutL x_script none (some (63 : Int))).length : Int)) (fun (A_ : Hp) (σ_ : L2.St) (R_ : List Hp) (s : Int) => ∃ (y_one15 : Option V), σ_ = [some v_script, some (.int s), y_one15] ∧ (one p1 (.lst ws2)) :: R = R_) S13 (fun Q' q => q) h12 ⟨_, rfl, rfl⟩ h (fun z16 w17 A18 H19 σ30 R20 s21 C22 N23 hz24 e25 S26 h27 hR28 hN29 h => ?_) (fun A31 H32 σ38 R33 s34 e35 S36 hR37 h => ?_)
  ·
    have eL39 : Same A14 A14 := Same.refl _
    obtain ⟨y_one15, rfl, rfl⟩ := hR28
    have e0 := e0.trans e25
    have eL39 := eL39.trans e25
    have h_script := upS h_script e25
    obtain rfl : w17 = (.int z16) := h27
    refine s_asg ?_
    refine c_op (c_op (c_op (c_var rfl (c_c (c_mul h fun h => ?_)))))
    refine c_var rfl (c_I0 (c_c (c_mod h fun h => ?_)))
    exact hN29 _ _ _ _ (((s21 * (1009 : Int)) + z16) % (1000003 : Int)) eL39 S26 ⟨_, rfl, rfl⟩ h
  ·
    refine nx_mk ?_
    obtain ⟨y_one15, rfl, rfl⟩ := hR37
    have e0 := e0.trans e35
    have h_script := upS h_script e35
    refine s_ret ?_
    refine c_tlst (c_cons (c_cb (c_cons (c_sl (c_var rfl (c_nopart (c_part (c_c (c_int (c_sliceS S36 h_script (ow S36 fun p42 ws43 H44 S45 h46 => ?_)))))))))))
    refine c_nil (c_list ⟨_, _, rfl, (S45.mem _ (List.mem_of_getElem? (i := 1) rfl)) _ _ one_same, h46⟩ (ow S45 fun p47 ws48 H49 S50 h51 => ?_))
    refine c_cons (c_c (c_cons (c_c (c_cons (c_var rfl (c_nil (?_)))))))
    have h53 := frz_is h51 S50
    have S54 := S50.frz
    have e52 := same_join_l (A := A31) (B := (one p47 (.lst ws48)))
    generalize hjA55 : join A31 (one p47 (.lst ws48)) = A55 at h53 S54 e52
    clear hjA55
    have e0 := e0.trans e52
    have h_script := upS h_script e52
    refine c_bag (T := T) (l := (cutL x_script none (some (63 : Int)))) S54 h53 fun p56 m57 H58 S59 h60 => ?_
    have S61 : St H58 (A55 :: m57 :: (one p1 (.lst ws2)) :: R) := S59.drop 1 (Nat.le_of_ble_eq_true rfl)
    have S62 : St H58 (A55 :: m57 :: R) := S61.drop 1 (Nat.le_of_ble_eq_true rfl)
    exact h (A55) (H58) ((.ref p56)) (m57) e0 S62 h60
abbrev s_law_bag : Stmt := topS 26
theorem sc_law_bag : FnScope ["_law_script", "_law_salt", "_law_one"] ["_law_script"] (defScope s_law_bag) := ⟨rfl, rfl, rfl, by decide +kernel, rfl, by decide +kernel, by decide +kernel⟩
theorem ok_law_bag {P : Program} {w : World} {K : PySem.W.Frag} {mg : Str → Option Value} {base : Heap} {T : Cs} {f : Addr} {fd : FuncData}  (F : Fun K "_law_bag" "_law_bag" s_law_bag f fd) (bi : Bi mg)    : FnOk P w K mg base CX0 1 f fd ["_law_script"] (sp_law_bag T K) := by
  refine F.ok sc_law_bag (fun vs H Q E h => ?_) (fun cdv A outer s H vs Q E hr h => ⟨rd_law_bag T K E, ?_, wk_law_bag  h⟩)
  · obtain ⟨_, _, _, _, rfl, _⟩ := h
    rfl
  · exact (pss_cons (ps_set (i := 1) sc_law_bag.nd rfl (Or.inl rfl) (pe_callB call_len_seq (by rfl) bi.len PySem.boot_len (pa_cons (pe_slice sl_list (pv 0) po_none (po_some pe_int)) pa_nil)))
      (pss_cons (ps_for PassesOwn.never rfl (pi_list (pe_slice sl_list (pv 0) po_none (po_some pe_int))) (pg_name (i := 2) sc_law_bag.nd rfl (Or.inl rfl)) (pss_one (ps_set (i := 1) sc_law_bag.nd rfl (Or.inl rfl) (pe_op op_mod (pe_op op_add (pe_op op_mul (pv 1) pe_int) (pv 2)) pe_int))))
      (pss_one (ps_ret (pe_lst (pa_cons (pe_callTy call_list_of (by rfl) bi.list boot_list (pa_cons (pe_slice sl_list (pv 0) po_none (po_some pe_int)) pa_nil)) (pa_cons pe_int (pa_cons pe_int (pa_cons (pv 1) pa_nil)))))))))
abbrev s_law_pull : Stmt := topS 27
theorem sc_law_pull : FnScope ["_law_bag_here", "_law_many", "_law_seed", "_law_mixed", "_law_drawn"] ["_law_bag_here", "_law_many"] (defScope s_law_pull) := ⟨rfl, rfl, rfl, by decide +kernel, rfl, by decide +kernel, by decide +kernel⟩
theorem ok_law_pull {P : Program} {w : World} {K : PySem.W.Frag} {mg : Str → Option Value} {base : Heap} {T : Cs} {f : Addr} {fd : FuncData}  (F : Fun K "_law_pull" "_law_pull" s_law_pull f fd) (bi : Bi mg)    : FnOk P w K mg base CX0 1 f fd ["_law_bag_here", "_law_many"] (sp_law_pull T K) := by
  refine F.ok sc_law_pull (fun vs H Q E h => ?_) (fun cdv A outer s H vs Q E hr h => ⟨rd_law_pull T K E, ?_, wk_law_pull  h⟩)
  · obtain ⟨_, _, _, _, _, _, rfl, _⟩ := h
    rfl
  · exact (pss_cons (ps_if (pt_cmpR op_le (pe_ix ix_list (pv 0) pe_int (fun _ _ => rfl)) pe_int (nomark _)) (pss_cons (ps_augS (pv 0) pe_int get_list pe_int ip_add set_list) (pss_cons (ps_set (i := 2) sc_law_pull.nd rfl (Or.inl rfl) (pe_ix ix_list (pv 0) pe_int (fun _ _ => rfl))) (pss_cons (ps_if (pt_cmpR op_le (pe_ix ix_list (pv 0) pe_int (fun _ _ => rfl)) (pe_callB call_len_seq (by rfl) bi.len PySem.boot_len (pa_cons (pe_ix ix_list (pv 0) pe_int (fun _ _ => rfl)) pa_nil)) (nomark _)) (pss_one (ps_set (i := 2) sc_law_pull.nd rfl (Or.inl rfl) (pe_ix ix_list (pe_ix ix_list (pv 0) pe_int (fun _ _ => rfl)) (pe_op op_sub (pe_ix ix_list (pv 0) pe_int (fun _ _ => rfl)) pe_int) (fun _ _ => rfl)))) pss_nil) (pss_cons (ps_if (PW.pt (pw_or (pt_cmpR op_gt (pe_ix ix_list (pv 0) pe_int (fun _ _ => rfl)) (pe_callB call_len_seq (by rfl) bi.len PySem.boot_len (pa_cons (pe_ix ix_list (pv 0) pe_int (fun _ _ => rfl)) pa_nil)) (nomark _)) (pw_or1 (pt_cmpR op_lt (pv 2) (pe_op op_pow pe_int pe_int) (nomark _))))) (pss_cons (ps_set (i := 3) sc_law_pull.nd rfl (Or.inl rfl) (pe_op op_mod (pe_op op_add (pe_op op_add (pe_op op_mul (pv 2) pe_int) (pe_op op_mul (pe_ix ix_list (pv 0) pe_int (fun _ _ => rfl)) pe_int)) pe_int) pe_int)) (pss_cons (ps_set (i := 3) sc_law_pull.nd rfl (Or.inl rfl) (pe_op op_mod (pe_op op_mul (pv 3) (pv 3)) pe_int)) (pss_one (ps_ret (pe_op op_mod (pe_op op_fdiv (pe_op op_mod (pe_op op_mul (pe_op op_add (pv 3) (pe_ix ix_list (pv 0) pe_int (fun _ _ => rfl))) pe_int) pe_int) pe_int) (pv 1)))))) pss_nil) (pss_one (ps_asg (pv 2) (pg_sub (pv 0) pe_int set_list))))))) pss_nil) (pss_cons (ps_set (i := 4) sc_law_pull.nd rfl (Or.inl rfl) (pe_op op_mod (pe_ix ix_list (pv 0) pe_int (fun _ _ => rfl)) (pv 1))) (pss_cons (ps_asg (pe_op op_fdiv (pe_ix ix_list (pv 0) pe_int (fun _ _ => rfl)) (pv 1)) (pg_sub (pv 0) pe_int set_list)) (pss_one (ps_ret (pv 4))))))
@[irreducible] def m_law_stock_s2 (x_many : Int) (x_rows_here : (List (Int × (List Int)))) : Res Unit (List (Option (Int × (List Int)))) := .ok ((cutL x_rows_here none (some x_many)).map some)
@[irreducible] def m_law_stock_s1 (x_many : Int) (x_pairs_here : (List (List Int))) (x_threes : (List (List Int))) : Res Unit (List (Option (Int × (List Int)))) := Res.bind (Res.bind (rlR (4 : Int)) fun l => .ok ((l.filter (fun _ => true)).map (fun z117 => ((0 : Int), ([] : List Int))))) fun t148 => Res.bind (.ok ((x_pairs_here.filter (fun _ => true)).map (fun z156 => ((1 : Int), z156)))) fun t178 => Res.bind (catR t148 t178) fun t186 => Res.bind (.ok ((x_threes.filter (fun _ => true)).map (fun z196 => ((2 : Int), z196)))) fun t218 => Res.bind (catR t186 t218) fun t226 => Res.bind (catR t226 [((3 : Int), [(10 : Int), (11 : Int), (12 : Int), (13 : Int)])]) fun t252 => m_law_stock_s2 x_many t252
@[irreducible] def m_law_stock (x_many : Int) : Res Unit (List (Option (Int × (List Int)))) := m_law_stock_s1 x_many [[(0 : Int), (1 : Int)], [(0 : Int), (2 : Int)], [(0 : Int), (3 : Int)], [(1 : Int), (2 : Int)], [(1 : Int), (3 : Int)], [(2 : Int), (3 : Int)]] [[(4 : Int), (5 : Int), (7 : Int)], [(4 : Int), (6 : Int), (8 : Int)], [(5 : Int), (6 : Int), (9 : Int)], [(7 : Int), (8 : Int), (9 : Int)]]
def sp_law_stock (T : Cs) (K : PySem.W.Frag) : Sp := fun vs H Q E => ∃ (A : Hp) (R : List Hp) (x_many : Int), vs = [(.int x_many)] ∧ St H (A :: R) ∧ (m_law_stock x_many).wp (fun y => ∀ (A' H' : Hp) (p : Addr) (ws : List V), Same A A' → St H' (A' :: one p (.lst ws) :: R) → OL A' ws y → Q (.ref p) H') (fun _ _ => False)
def rd_law_stock_s2 (T : Cs) (K : PySem.W.Frag) (E : XK) : TS := (tRet (tSl (rSlL K) (tVar 3) tNoPart (tPart (tVar 0))))
def rd_law_stock_s1 (T : Cs) (K : PySem.W.Frag) (E : XK) : TS := (tSeq (tAsg (tOp rCat (tLc (iRng1 (tCons (tC (.int 4)) tNil)) (gName 4) tYes (tTup (tCons (tC (.int 0)) (tCons (tLst tNil) tNil))) [4]) (tLc (iList K (tVar 1)) (gName 5) tYes (tTup (tCons (tC (.int 1)) (tCons (tVar 5) tNil))) [5])) (gName 3)) (tSeq (tAsg (tOp rCat (tOp rCat (tVar 3) (tLc (iList K (tVar 2)) (gName 6) tYes (tTup (tCons (tC (.int 2)) (tCons (tVar 6) tNil))) [6])) (tLst (tCons (tTup (tCons (tC (.int 3)) (tCons (tLst (tCons (tC (.int 10)) (tCons (tC (.int 11)) (tCons (tC (.int 12)) (tCons (tC (.int 13)) tNil))))) tNil))) tNil))) (gName 3)) (rd_law_stock_s2 T K E)))
def rd_law_stock (T : Cs) (K : PySem.W.Frag) (E : XK) : TS := (tSeq (tAsg (tLst (tCons (tLst (tCons (tC (.int 0)) (tCons (tC (.int 1)) tNil))) (tCons (tLst (tCons (tC (.int 0)) (tCons (tC (.int 2)) tNil))) (tCons (tLst (tCons (tC (.int 0)) (tCons (tC (.int 3)) tNil))) (tCons (tLst (tCons (tC (.int 1)) (tCons (tC (.int 2)) tNil))) (tCons (tLst (tCons (tC (.int 1)) (tCons (tC (.int 3)) tNil))) (tCons (tLst (tCons (tC (.int 2)) (tCons (tC (.int 3)) tNil))) tNil))))))) (gName 1)) (tSeq (tAsg (tLst (tCons (tLst (tCons (tC (.int 4)) (tCons (tC (.int 5)) (tCons (tC (.int 7)) tNil)))) (tCons (tLst (tCons (tC (.int 4)) (tCons (tC (.int 6)) (tCons (tC (.int 8)) tNil)))) (tCons (tLst (tCons (tC (.int 5)) (tCons (tC (.int 6)) (tCons (tC (.int 9)) tNil)))) (tCons (tLst (tCons (tC (.int 7)) (tCons (tC (.int 8)) (tCons (tC (.int 9)) tNil)))) tNil))))) (gName 2)) (rd_law_stock_s1 T K E)))
theorem wk_law_stock_s2 {T : Cs} {K : PySem.W.Frag} {A AS HS : Hp} {R : List Hp} {Q : VK} {E : XK} {x_many : Int} {x_rows_here : (List (Int × (List Int)))} {v_rows_here : V} {o1 : Option V} {o2 : Option V} {o4 : Option V} {o5 : Option V} {o6 : Option V}  (e0 : Same A AS) (S : St HS (AS :: R)) (h_rows_here : Is AS v_rows_here x_rows_here) (h : (m_law_stock_s2 x_many x_rows_here).wp (fun y => ∀ (A' H' : Hp) (p : Addr) (ws : List V), Same A A' → St H' (A' :: one p (.lst ws) :: R) → OL A' ws y → Q (.ref p) H') (fun _ _ => False)) : rd_law_stock_s2 T K E { nx := fun _ H' => Q .non H', rt := Q } [some (.int x_many), o1, o2, some v_rows_here, o4, o5, o6] HS := by
  unfold m_law_stock_s2 at h
  unfold rd_law_stock_s2
  refine s_ret ?_
  refine c_sl (c_var rfl (c_nopart (c_part (c_var rfl (c_int (c_slice (la_of S h_rows_here) (ow S fun p267 ws268 H269 S270 h271 => ?_)))))))
  have h272 := ol_some h271
  exact h (AS) (H269) (p267) (ws268) e0 S270 h272
theorem wk_law_stock_s1 {T : Cs} {K : PySem.W.Frag} {A AS HS : Hp} {R : List Hp} {Q : VK} {E : XK} {x_many : Int} {x_pairs_here : (List (List Int))} {v_pairs_here : V} {x_threes : (List (List Int))} {v_threes : V} {o3 : Option V} {o4 : Option V} {o5 : Option V} {o6 : Option V}  (e0 : Same A AS) (S : St HS (AS :: R)) (h_pairs_here : Is AS v_pairs_here x_pairs_here) (h_threes : Is AS v_threes x_threes) (h : (m_law_stock_s1 x_many x_pairs_here x_threes).wp (fun y => ∀ (A' H' : Hp) (p : Addr) (ws : List V), Same A A' → St H' (A' :: one p (.lst ws) :: R) → OL A' ws y → Q (.ref p) H') (fun _ _ => False)) : rd_law_stock_s1 T K E { nx := fun _ H' => Q .non H', rt := Q } [some (.int x_many), some v_pairs_here, some v_threes, o3, o4, o5, o6] HS := by
  unfold m_law_stock_s1 at h
  unfold rd_law_stock_s1
  refine q_asg ?_
  refine c_op (?_)
  refine c_lcER ?_
  refine c_cons (c_c (c_nil (?_)))
  refine c_lcR (A := AS) (R := R) (tt := tYes) (te := (tTup (tCons (tC (.int 0)) (tCons (tLst tNil) tNil)))) (vs := [4]) (j := 4) (n := (4 : Int)) (fun _ => true) (fun z117 => ((0 : Int), ([] : List Int))) S (fun Q' q => q) h (fun _ => rfl) (fun _ _ _ _ _ => yes_ok) ?_ (fun p149 A150 H151 ws152 t148 h e153 S154 h155 => ?_)
  ·
    intro z117 A119 n120 hm130 e123 hf129 A121 H122 e124 S125 Q126 hk127
    have e0 := e0.trans (e123.trans e124)
    have e131 := e123.trans e124
    have h_pairs_here := up h_pairs_here e131
    have h_threes := up h_threes e131
    have eC132 : Same A121 A121 := Same.refl _
    refine c_ttup (c_cons (c_c (c_cons (c_tlst (c_nil (c_lst (α := Int) (vs := []) (xs := []) (Nat.le_of_ble_eq_true rfl) trivial (ow S125 fun p133 ws134 H135 S136 h137 => ?_)))))))
    have h139 := frz_is h137 S136
    have S140 := S136.frz
    have e138 := same_join_l (A := A121) (B := (one p133 (.lst ws134)))
    generalize hjA141 : join A121 (one p133 (.lst ws134)) = A141 at h139 S140 e138
    clear hjA141
    have e0 := e0.trans e138
    have eC132 := eC132.trans e138
    have h_pairs_here := up h_pairs_here e138
    have h_threes := up h_threes e138
    refine c_nil (c_tup (α := Int) (β := (List Int)) (x := (0 : Int)) (y := ([] : List Int)) S140 rfl h139 fun p142 A143 H144 e145 S146 h147 => ?_)
    have e0 := e0.trans e145
    have eC132 := eC132.trans e145
    have h_pairs_here := up h_pairs_here e145
    have h_threes := up h_threes e145
    exact hk127 _ _ _ eC132 S146 h147
  ·
    have e0 := e0.trans e153
    have h_pairs_here := up h_pairs_here e153
    have h_threes := up h_threes e153
    refine c_lcE ?_
    refine c_var rfl (?_)
    refine c_lcL (A := A150) (R := (one p149 (.lst ws152)) :: R) (tt := tYes) (te := (tTup (tCons (tC (.int 1)) (tCons (tVar 5) tNil)))) (vs := [5]) (j := 5) (xs := x_pairs_here) (fun _ => true) (fun z156 => ((1 : Int), z156)) S154 (fun Q' q => q) h_pairs_here h (fun _ => rfl) (fun _ _ _ _ _ _ _ => yes_ok) ?_ (fun p179 A180 H181 ws182 t178 h e183 S184 h185 => ?_)
    ·
      intro z156 w157 A158 n159 hm169 e162 h167 hf168 A160 H161 e163 S164 Q165 hk166
      have e0 := e0.trans (e162.trans e163)
      have e170 := e162.trans e163
      have h_pairs_here := up h_pairs_here e170
      have h_threes := up h_threes e170
      have h155 := OL.up h155 e170
      have eC171 : Same A160 A160 := Same.refl _
      have h167 := up h167 e163
      refine c_ttup (c_cons (c_c (c_cons (c_var rfl (c_nil (c_tup (α := Int) (β := (List Int)) (x := (1 : Int)) (y := z156) S164 rfl h167 fun p172 A173 H174 e175 S176 h177 => ?_))))))
      have e0 := e0.trans e175
      have eC171 := eC171.trans e175
      have h_pairs_here := up h_pairs_here e175
      have h_threes := up h_threes e175
      have h167 := up h167 e175
      have h155 := OL.up h155 e175
      exact hk166 _ _ _ eC171 S176 h177
    ·
      have e0 := e0.trans e183
      have h_pairs_here := up h_pairs_here e183
      have h_threes := up h_threes e183
      have h155 := OL.up h155 e183
      refine c_cat ⟨_, _, rfl, (S184.mem _ (List.mem_of_getElem? (i := 2) rfl)) _ _ one_same, h155⟩ ⟨_, _, rfl, (S184.mem _ (List.mem_of_getElem? (i := 1) rfl)) _ _ one_same, h185⟩ h fun t186 h => (ow S184 fun p187 ws188 H189 S190 h191 => ?_)
      have h193 := frz_is h191 S190
      have S194 := S190.frz
      have e192 := same_join_l (A := A180) (B := (one p187 (.lst ws188)))
      generalize hjA195 : join A180 (one p187 (.lst ws188)) = A195 at h193 S194 e192
      clear hjA195
      have e0 := e0.trans e192
      have h_pairs_here := up h_pairs_here e192
      have h_threes := up h_threes e192
      refine q_asg ?_
      refine c_op (c_op (c_var rfl (?_)))
      refine c_lcE ?_
      refine c_var rfl (?_)
      refine c_lcL (A := A195) (R := (one p179 (.lst ws182)) :: (one p149 (.lst ws152)) :: R) (tt := tYes) (te := (tTup (tCons (tC (.int 2)) (tCons (tVar 6) tNil)))) (vs := [6]) (j := 6) (xs := x_threes) (fun _ => true) (fun z196 => ((2 : Int), z196)) S194 (fun Q' q => q) h_threes h (fun _ => rfl) (fun _ _ _ _ _ _ _ => yes_ok) ?_ (fun p219 A220 H221 ws222 t218 h e223 S224 h225 => ?_)
      ·
        intro z196 w197 A198 n199 hm209 e202 h207 hf208 A200 H201 e203 S204 Q205 hk206
        have e0 := e0.trans (e202.trans e203)
        have e210 := e202.trans e203
        have h_pairs_here := up h_pairs_here e210
        have h_threes := up h_threes e210
        have h193 := up h193 e210
        have eC211 : Same A200 A200 := Same.refl _
        have h207 := up h207 e203
        refine c_ttup (c_cons (c_c (c_cons (c_var rfl (c_nil (c_tup (α := Int) (β := (List Int)) (x := (2 : Int)) (y := z196) S204 rfl h207 fun p212 A213 H214 e215 S216 h217 => ?_))))))
        have e0 := e0.trans e215
        have eC211 := eC211.trans e215
        have h_pairs_here := up h_pairs_here e215
        have h_threes := up h_threes e215
        have h193 := up h193 e215
        have h207 := up h207 e215
        exact hk206 _ _ _ eC211 S216 h217
      ·
        have e0 := e0.trans e223
        have h_pairs_here := up h_pairs_here e223
        have h_threes := up h_threes e223
        have h193 := up h193 e223
        refine c_cat (la_of S224 h193) ⟨_, _, rfl, (S224.mem _ (List.mem_of_getElem? (i := 1) rfl)) _ _ one_same, h225⟩ h fun t226 h => (ow S224 fun p227 ws228 H229 S230 h231 => ?_)
        refine c_tlst (c_cons (c_ttup (c_cons (c_c (c_cons (c_tlst (c_cons (c_c (c_cons (c_c (c_cons (c_c (c_cons (c_c (c_nil (c_lst (α := Int) (vs := [(.int 10), (.int 11), (.int 12), (.int 13)]) (xs := [(10 : Int), (11 : Int), (12 : Int), (13 : Int)]) (Nat.le_of_ble_eq_true rfl) ⟨rfl, ⟨rfl, ⟨rfl, ⟨rfl, trivial⟩⟩⟩⟩ (ow S230 fun p232 ws233 H234 S235 h236 => ?_)))))))))))))))))
        have h238 := frz_is h236 S235
        have S239 := S235.frz
        have e237 := same_join_l (A := A220) (B := (one p232 (.lst ws233)))
        generalize hjA240 : join A220 (one p232 (.lst ws233)) = A240 at h238 S239 e237
        clear hjA240
        have e0 := e0.trans e237
        have h_pairs_here := up h_pairs_here e237
        have h_threes := up h_threes e237
        have h193 := up h193 e237
        have h231 := OL.up h231 e237
        refine c_nil (c_tup (α := Int) (β := (List Int)) (x := (3 : Int)) (y := [(10 : Int), (11 : Int), (12 : Int), (13 : Int)]) S239 rfl h238 fun p241 A242 H243 e244 S245 h246 => ?_)
        have e0 := e0.trans e244
        have h_pairs_here := up h_pairs_here e244
        have h_threes := up h_threes e244
        have h193 := up h193 e244
        have h231 := OL.up h231 e244
        refine c_nil (c_lst (α := (Int × (List Int))) (vs := [(.ref p241)]) (xs := [((3 : Int), [(10 : Int), (11 : Int), (12 : Int), (13 : Int)])]) (Nat.le_of_ble_eq_true rfl) ⟨h246, trivial⟩ (ow S245 fun p247 ws248 H249 S250 h251 => ?_))
        refine c_cat ⟨_, _, rfl, (S250.mem _ (List.mem_of_getElem? (i := 2) rfl)) _ _ one_same, h231⟩ ⟨_, _, rfl, (S250.mem _ (List.mem_of_getElem? (i := 1) rfl)) _ _ one_same, h251⟩ h fun t252 h => (ow S250 fun p253 ws254 H255 S256 h257 => ?_)
        have h259 := frz_is h257 S256
        have S260 := S256.frz
        have e258 := same_join_l (A := A242) (B := (one p253 (.lst ws254)))
        generalize hjA261 : join A242 (one p253 (.lst ws254)) = A261 at h259 S260 e258
        clear hjA261
        have e0 := e0.trans e258
        have h_pairs_here := up h_pairs_here e258
        have h_threes := up h_threes e258
        have h193 := up h193 e258
        have S262 : St H255 (A261 :: (one p227 (.lst ws228)) :: (one p219 (.lst ws222)) :: (one p179 (.lst ws182)) :: (one p149 (.lst ws152)) :: R) := S260.drop 0 (Nat.le_of_ble_eq_true rfl)
        have S263 : St H255 (A261 :: (one p219 (.lst ws222)) :: (one p179 (.lst ws182)) :: (one p149 (.lst ws152)) :: R) := S262.drop 0 (Nat.le_of_ble_eq_true rfl)
        have S264 : St H255 (A261 :: (one p179 (.lst ws182)) :: (one p149 (.lst ws152)) :: R) := S263.drop 0 (Nat.le_of_ble_eq_true rfl)
        have S265 : St H255 (A261 :: (one p149 (.lst ws152)) :: R) := S264.drop 0 (Nat.le_of_ble_eq_true rfl)
        have S266 : St H255 (A261 :: R) := S265.drop 0 (Nat.le_of_ble_eq_true rfl)
        exact wk_law_stock_s2 (T := T) (K := K) (E := E)  e0 S266 h259 h
theorem wk_law_stock {T : Cs} {K : PySem.W.Frag} {vs : List V} {H : Hp} {Q : VK} {E : XK}  (h : sp_law_stock T K vs H Q E) : rd_law_stock T K E { nx := fun _ H' => Q .non H', rt := Q } (L2.start ["_law_many", "_law_pairs_here", "_law_threes", "_law_rows_here", "_law_k", "_law_pair", "_law_three"] vs) H := by
  obtain ⟨A, R, x_many, rfl, S, h⟩ := h
  unfold m_law_stock at h
  unfold rd_law_stock
  have e0 : Same A A := Same.refl _
  refine q_asg ?_
  refine c_tlst (c_cons (c_tlst (c_cons (c_c (c_cons (c_c (c_nil (c_lst (α := Int) (vs := [(.int 0), (.int 1)]) (xs := [(0 : Int), (1 : Int)]) (Nat.le_of_ble_eq_true rfl) ⟨rfl, ⟨rfl, trivial⟩⟩ (ow S fun p1 ws2 H3 S4 h5 => ?_)))))))))
  refine c_cons (c_tlst (c_cons (c_c (c_cons (c_c (c_nil (c_lst (α := Int) (vs := [(.int 0), (.int 2)]) (xs := [(0 : Int), (2 : Int)]) (Nat.le_of_ble_eq_true rfl) ⟨rfl, ⟨rfl, trivial⟩⟩ (ow S4 fun p6 ws7 H8 S9 h10 => ?_))))))))
  refine c_cons (c_tlst (c_cons (c_c (c_cons (c_c (c_nil (c_lst (α := Int) (vs := [(.int 0), (.int 3)]) (xs := [(0 : Int), (3 : Int)]) (Nat.le_of_ble_eq_true rfl) ⟨rfl, ⟨rfl, trivial⟩⟩ (ow S9 fun p11 ws12 H13 S14 h15 => ?_))))))))
  refine c_cons (c_tlst (c_cons (c_c (c_cons (c_c (c_nil (c_lst (α := Int) (vs := [(.int 1), (.int 2)]) (xs := [(1 : Int), (2 : Int)]) (Nat.le_of_ble_eq_true rfl) ⟨rfl, ⟨rfl, trivial⟩⟩ (ow S14 fun p16 ws17 H18 S19 h20 => ?_))))))))
  refine c_cons (c_tlst (c_cons (c_c (c_cons (c_c (c_nil (c_lst (α := Int) (vs := [(.int 1), (.int 3)]) (xs := [(1 : Int), (3 : Int)]) (Nat.le_of_ble_eq_true rfl) ⟨rfl, ⟨rfl, trivial⟩⟩ (ow S19 fun p21 ws22 H23 S24 h25 => ?_))))))))
  refine c_cons (c_tlst (c_cons (c_c (c_cons (c_c (c_nil (c_lst (α := Int) (vs := [(.int 2), (.int 3)]) (xs := [(2 : Int), (3 : Int)]) (Nat.le_of_ble_eq_true rfl) ⟨rfl, ⟨rfl, trivial⟩⟩ (ow S24 fun p26 ws27 H28 S29 h30 => ?_))))))))
  have S31 : St H28 (A :: (one p1 (.lst ws2)) :: (one p26 (.lst ws27)) :: (one p21 (.lst ws22)) :: (one p16 (.lst ws17)) :: (one p11 (.lst ws12)) :: (one p6 (.lst ws7)) :: R) := S29.pick 5 (Nat.le_of_ble_eq_true rfl)
  have h33 := frz_is h5 S31
  have S34 := S31.frz
  have e32 := same_join_l (A := A) (B := (one p1 (.lst ws2)))
  generalize hjA35 : join A (one p1 (.lst ws2)) = A35 at h33 S34 e32
  clear hjA35
  have e0 := e0.trans e32
  have h10 := OL.up h10 e32
  have h15 := OL.up h15 e32
  have h20 := OL.up h20 e32
  have h25 := OL.up h25 e32
  have h30 := OL.up h30 e32
  have S36 : St H28 (A35 :: (one p6 (.lst ws7)) :: (one p26 (.lst ws27)) :: (one p21 (.lst ws22)) :: (one p16 (.lst ws17)) :: (one p11 (.lst ws12)) :: R) := S34.pick 4 (Nat.le_of_ble_eq_true rfl)
  have h38 := frz_is h10 S36
  have S39 := S36.frz
  have e37 := same_join_l (A := A35) (B := (one p6 (.lst ws7)))
  generalize hjA40 : join A35 (one p6 (.lst ws7)) = A40 at h38 S39 e37
  clear hjA40
  have e0 := e0.trans e37
  have h33 := up h33 e37
  have h15 := OL.up h15 e37
  have h20 := OL.up h20 e37
  have h25 := OL.up h25 e37
  have h30 := OL.up h30 e37
  have S41 : St H28 (A40 :: (one p11 (.lst ws12)) :: (one p26 (.lst ws27)) :: (one p21 (.lst ws22)) :: (one p16 (.lst ws17)) :: R) := S39.pick 3 (Nat.le_of_ble_eq_true rfl)
  have h43 := frz_is h15 S41
  have S44 := S41.frz
  have e42 := same_join_l (A := A40) (B := (one p11 (.lst ws12)))
  generalize hjA45 : join A40 (one p11 (.lst ws12)) = A45 at h43 S44 e42
  clear hjA45
  have e0 := e0.trans e42
  have h33 := up h33 e42
  have h38 := up h38 e42
  have h20 := OL.up h20 e42
  have h25 := OL.up h25 e42
  have h30 := OL.up h30 e42
  have S46 : St H28 (A45 :: (one p16 (.lst ws17)) :: (one p26 (.lst ws27)) :: (one p21 (.lst ws22)) :: R) := S44.pick 2 (Nat.le_of_ble_eq_true rfl)
  have h48 := frz_is h20 S46
  have S49 := S46.frz
  have e47 := same_join_l (A := A45) (B := (one p16 (.lst ws17)))
  generalize hjA50 : join A45 (one p16 (.lst ws17)) = A50 at h48 S49 e47
  clear hjA50
  have e0 := e0.trans e47
  have h33 := up h33 e47
  have h38 := up h38 e47
  have h43 := up h43 e47
  have h25 := OL.up h25 e47
  have h30 := OL.up h30 e47
  have S51 : St H28 (A50 :: (one p21 (.lst ws22)) :: (one p26 (.lst ws27)) :: R) := S49.pick 1 (Nat.le_of_ble_eq_true rfl)
  have h53 := frz_is h25 S51
  have S54 := S51.frz
  have e52 := same_join_l (A := A50) (B := (one p21 (.lst ws22)))
  generalize hjA55 : join A50 (one p21 (.lst ws22)) = A55 at h53 S54 e52
  clear hjA55
  have e0 := e0.trans e52
  have h33 := up h33 e52
  have h38 := up h38 e52
  have h43 := up h43 e52
  have h48 := up h48 e52
  have h30 := OL.up h30 e52
  have h57 := frz_is h30 S54
  have S58 := S54.frz
  have e56 := same_join_l (A := A55) (B := (one p26 (.lst ws27)))
  generalize hjA59 : join A55 (one p26 (.lst ws27)) = A59 at h57 S58 e56
  clear hjA59
  have e0 := e0.trans e56
  have h33 := up h33 e56
  have h38 := up h38 e56
  have h43 := up h43 e56
  have h48 := up h48 e56
  have h53 := up h53 e56
  refine c_nil (c_lst (α := (List Int)) (vs := [(.ref p1), (.ref p6), (.ref p11), (.ref p16), (.ref p21), (.ref p26)]) (xs := [[(0 : Int), (1 : Int)], [(0 : Int), (2 : Int)], [(0 : Int), (3 : Int)], [(1 : Int), (2 : Int)], [(1 : Int), (3 : Int)], [(2 : Int), (3 : Int)]]) (Nat.le_of_ble_eq_true rfl) ⟨h33, ⟨h38, ⟨h43, ⟨h48, ⟨h53, ⟨h57, trivial⟩⟩⟩⟩⟩⟩ (ow S58 fun p60 ws61 H62 S63 h64 => ?_))
  have h66 := frz_is h64 S63
  have S67 := S63.frz
  have e65 := same_join_l (A := A59) (B := (one p60 (.lst ws61)))
  generalize hjA68 : join A59 (one p60 (.lst ws61)) = A68 at h66 S67 e65
  clear hjA68
  have e0 := e0.trans e65
  refine q_asg ?_
  refine c_tlst (c_cons (c_tlst (c_cons (c_c (c_cons (c_c (c_cons (c_c (c_nil (c_lst (α := Int) (vs := [(.int 4), (.int 5), (.int 7)]) (xs := [(4 : Int), (5 : Int), (7 : Int)]) (Nat.le_of_ble_eq_true rfl) ⟨rfl, ⟨rfl, ⟨rfl, trivial⟩⟩⟩ (ow S67 fun p69 ws70 H71 S72 h73 => ?_)))))))))))
  refine c_cons (c_tlst (c_cons (c_c (c_cons (c_c (c_cons (c_c (c_nil (c_lst (α := Int) (vs := [(.int 4), (.int 6), (.int 8)]) (xs := [(4 : Int), (6 : Int), (8 : Int)]) (Nat.le_of_ble_eq_true rfl) ⟨rfl, ⟨rfl, ⟨rfl, trivial⟩⟩⟩ (ow S72 fun p74 ws75 H76 S77 h78 => ?_))))))))))
  refine c_cons (c_tlst (c_cons (c_c (c_cons (c_c (c_cons (c_c (c_nil (c_lst (α := Int) (vs := [(.int 5), (.int 6), (.int 9)]) (xs := [(5 : Int), (6 : Int), (9 : Int)]) (Nat.le_of_ble_eq_true rfl) ⟨rfl, ⟨rfl, ⟨rfl, trivial⟩⟩⟩ (ow S77 fun p79 ws80 H81 S82 h83 => ?_))))))))))
  refine c_cons (c_tlst (c_cons (c_c (c_cons (c_c (c_cons (c_c (c_nil (c_lst (α := Int) (vs := [(.int 7), (.int 8), (.int 9)]) (xs := [(7 : Int), (8 : Int), (9 : Int)]) (Nat.le_of_ble_eq_true rfl) ⟨rfl, ⟨rfl, ⟨rfl, trivial⟩⟩⟩ (ow S82 fun p84 ws85 H86 S87 h88 => ?_))))))))))
  have S89 : St H86 (A68 :: (one p69 (.lst ws70)) :: (one p84 (.lst ws85)) :: (one p79 (.lst ws80)) :: (one p74 (.lst ws75)) :: R) := S87.pick 3 (Nat.le_of_ble_eq_true rfl)
  have h91 := frz_is h73 S89
  have S92 := S89.frz
  have e90 := same_join_l (A := A68) (B := (one p69 (.lst ws70)))
  generalize hjA93 : join A68 (one p69 (.lst ws70)) = A93 at h91 S92 e90
  clear hjA93
  have e0 := e0.trans e90
  have h66 := up h66 e90
  have h78 := OL.up h78 e90
  have h83 := OL.up h83 e90
  have h88 := OL.up h88 e90
  have S94 : St H86 (A93 :: (one p74 (.lst ws75)) :: (one p84 (.lst ws85)) :: (one p79 (.lst ws80)) :: R) := S92.pick 2 (Nat.le_of_ble_eq_true rfl)
  have h96 := frz_is h78 S94
  have S97 := S94.frz
  have e95 := same_join_l (A := A93) (B := (one p74 (.lst ws75)))
  generalize hjA98 : join A93 (one p74 (.lst ws75)) = A98 at h96 S97 e95
  clear hjA98
  have e0 := e0.trans e95
  have h66 := up h66 e95
  have h91 := up h91 e95
  have h83 := OL.up h83 e95
  have h88 := OL.up h88 e95
  have S99 : St H86 (A98 :: (one p79 (.lst ws80)) :: (one p84 (.lst ws85)) :: R) := S97.pick 1 (Nat.le_of_ble_eq_true rfl)
  have h101 := frz_is h83 S99
  have S102 := S99.frz
  have e100 := same_join_l (A := A98) (B := (one p79 (.lst ws80)))
  generalize hjA103 : join A98 (one p79 (.lst ws80)) = A103 at h101 S102 e100
  clear hjA103
  have e0 := e0.trans e100
  have h66 := up h66 e100
  have h91 := up h91 e100
  have h96 := up h96 e100
  have h88 := OL.up h88 e100
  have h105 := frz_is h88 S102
  have S106 := S102.frz
  have e104 := same_join_l (A := A103) (B := (one p84 (.lst ws85)))
  generalize hjA107 : join A103 (one p84 (.lst ws85)) = A107 at h105 S106 e104
  clear hjA107
  have e0 := e0.trans e104
  have h66 := up h66 e104
  have h91 := up h91 e104
  have h96 := up h96 e104
  have h101 := up h101 e104
  refine c_nil (c_lst (α := (List Int)) (vs := [(.ref p69), (.ref p74), (.ref p79), (.ref p84)]) (xs := [[(4 : Int), (5 : Int), (7 : Int)], [(4 : Int), (6 : Int), (8 : Int)], [(5 : Int), (6 : Int), (9 : Int)], [(7 : Int), (8 : Int), (9 : Int)]]) (Nat.le_of_ble_eq_true rfl) ⟨h91, ⟨h96, ⟨h101, ⟨h105, trivial⟩⟩⟩⟩ (ow S106 fun p108 ws109 H110 S111 h112 => ?_))
  have h114 := frz_is h112 S111
  have S115 := S111.frz
  have e113 := same_join_l (A := A107) (B := (one p108 (.lst ws109)))
  generalize hjA116 : join A107 (one p108 (.lst ws109)) = A116 at h114 S115 e113
  clear hjA116
  have e0 := e0.trans e113
  have h66 := up h66 e113
  exact wk_law_stock_s1 (T := T) (K := K) (E := E)  e0 S115 h66 h114 h
abbrev s_law_stock : Stmt := topS 28
theorem sc_law_stock : FnScope ["_law_many", "_law_pairs_here", "_law_threes", "_law_rows_here", "_law_k", "_law_pair", "_law_three"] ["_law_many"] (defScope s_law_stock) := ⟨rfl, rfl, rfl, by decide +kernel, rfl, by decide +kernel, by decide +kernel⟩
theorem ok_law_stock {P : Program} {w : World} {K : PySem.W.Frag} {mg : Str → Option Value} {base : Heap} {T : Cs} {f : Addr} {fd : FuncData}  (F : Fun K "_law_stock" "_law_stock" s_law_stock f fd) (bi : Bi mg)    : FnOk P w K mg base CX0 1 f fd ["_law_many"] (sp_law_stock T K) := by
  refine F.ok sc_law_stock (fun vs H Q E h => ?_) (fun cdv A outer s H vs Q E hr h => ⟨rd_law_stock T K E, ?_, wk_law_stock  h⟩)
  · obtain ⟨_, _, _, rfl, _⟩ := h
    rfl
  · exact (pss_cons (ps_set (i := 1) sc_law_stock.nd rfl (Or.inl rfl) (pe_lst (pa_cons (pe_lst (pa_cons pe_int (pa_cons pe_int pa_nil))) (pa_cons (pe_lst (pa_cons pe_int (pa_cons pe_int pa_nil))) (pa_cons (pe_lst (pa_cons pe_int (pa_cons pe_int pa_nil))) (pa_cons (pe_lst (pa_cons pe_int (pa_cons pe_int pa_nil))) (pa_cons (pe_lst (pa_cons pe_int (pa_cons pe_int pa_nil))) (pa_cons (pe_lst (pa_cons pe_int (pa_cons pe_int pa_nil))) pa_nil))))))))
      (pss_cons (ps_set (i := 2) sc_law_stock.nd rfl (Or.inl rfl) (pe_lst (pa_cons (pe_lst (pa_cons pe_int (pa_cons pe_int (pa_cons pe_int pa_nil)))) (pa_cons (pe_lst (pa_cons pe_int (pa_cons pe_int (pa_cons pe_int pa_nil)))) (pa_cons (pe_lst (pa_cons pe_int (pa_cons pe_int (pa_cons pe_int pa_nil)))) (pa_cons (pe_lst (pa_cons pe_int (pa_cons pe_int (pa_cons pe_int pa_nil)))) pa_nil))))))
      (pss_cons (ps_set (i := 3) sc_law_stock.nd rfl (Or.inl rfl) (pe_op op_cat (pe_lc (own := [("_law_k", 4)]) (g := gName 4) (tt := tYes) (te := (tTup (tCons (tC (.int 0)) (tCons (tLst tNil) tNil)))) rfl sc_law_stock.nd (pi_range1 (by rfl) bi.range (pa_cons pe_int pa_nil)) (blkOk_by (own := [("_law_k", 4)]) (N := ["_law_many", "_law_pairs_here", "_law_threes", "_law_rows_here", "_law_k", "_law_pair", "_law_three"]) (sc := defScope s_law_stock) (by decide +kernel)) (fun _ _ _ _ _ => pg_name (i := 4) sc_law_stock.nd rfl (Or.inl rfl)) (fun _ _ _ _ _ => pts_nil) (fun _ _ _ _ _ => (pe_tup (pa_cons pe_int (pa_cons (pe_lst pa_nil) pa_nil))))) (pe_lc (own := [("_law_pair", 5)]) (g := gName 5) (tt := tYes) (te := (tTup (tCons (tC (.int 1)) (tCons (tVar 5) tNil)))) rfl sc_law_stock.nd (pi_list (pv 1)) (blkOk_by (own := [("_law_pair", 5)]) (N := ["_law_many", "_law_pairs_here", "_law_threes", "_law_rows_here", "_law_k", "_law_pair", "_law_three"]) (sc := defScope s_law_stock) (by decide +kernel)) (fun _ _ _ _ _ => pg_name (i := 5) sc_law_stock.nd rfl (Or.inl rfl)) (fun _ _ _ _ _ => pts_nil) (fun _ _ _ _ _ => (pe_tup (pa_cons pe_int (pa_cons (pv 5) pa_nil)))))))
      (pss_cons (ps_set (i := 3) sc_law_stock.nd rfl (Or.inl rfl) (pe_op op_cat (pe_op op_cat (pv 3) (pe_lc (own := [("_law_three", 6)]) (g := gName 6) (tt := tYes) (te := (tTup (tCons (tC (.int 2)) (tCons (tVar 6) tNil)))) rfl sc_law_stock.nd (pi_list (pv 2)) (blkOk_by (own := [("_law_three", 6)]) (N := ["_law_many", "_law_pairs_here", "_law_threes", "_law_rows_here", "_law_k", "_law_pair", "_law_three"]) (sc := defScope s_law_stock) (by decide +kernel)) (fun _ _ _ _ _ => pg_name (i := 6) sc_law_stock.nd rfl (Or.inl rfl)) (fun _ _ _ _ _ => pts_nil) (fun _ _ _ _ _ => (pe_tup (pa_cons pe_int (pa_cons (pv 6) pa_nil)))))) (pe_lst (pa_cons (pe_tup (pa_cons pe_int (pa_cons (pe_lst (pa_cons pe_int (pa_cons pe_int (pa_cons pe_int (pa_cons pe_int pa_nil))))) pa_nil))) pa_nil))))
      (pss_one (ps_ret (pe_slice sl_list (pv 3) po_none (po_some (pv 0)))))))))
@[irreducible] def m_law_rank (x_bag_here : Bag) : Res Bag (Int × Bag) := Res.bind (Res.noex (m_law_pull x_bag_here (12 : Int))) fun y1 => if (decide (y1.1 = (11 : Int))) = true then Res.bind (Res.noex (m_law_pull y1.2 (13 : Int))) fun y8 => .ok (y8.1, y8.2) else Res.bind (Res.noex (m_law_pull y1.2 (8 : Int))) fun y21 => Res.bind (ixR [(0 : Int), (0 : Int), (1 : Int), (1 : Int), (1 : Int), (2 : Int), (2 : Int), (3 : Int)] y21.1) fun t28 => .ok (t28, y21.2)
def sp_law_rank (T : Cs) (K : PySem.W.Frag) : Sp := fun vs H Q E => ∃ (A : Hp) (R : List Hp) (m_bag_here : Hp) (v_bag_here : V) (x_bag_here : Bag), vs = [v_bag_here] ∧ St H (A :: m_bag_here :: R) ∧ Ob.isAt T A m_bag_here v_bag_here x_bag_here ∧ (m_law_rank x_bag_here).wp (fun y => ∀ (A' H' : Hp) (m0 : Hp), Same A A' → St H' (A' :: m0 :: R) → Ob.isAt T A' m0 v_bag_here y.2 → Q (.int y.1) H') (fun _ _ => False)
def rd_law_rank (T : Cs) (K : PySem.W.Frag) (E : XK) : TS := (tSeq (tIfS (tTest (tOp rEq (tCall (sp_law_pull T K) [] E0 (tCons (tVar 0) (tCons (tC (.int 12)) tNil))) (tC (.int 11)))) (tRet (tCall (sp_law_pull T K) [] E0 (tCons (tVar 0) (tCons (tC (.int 13)) tNil)))) tNext) (tRet (tOp (rIxL K) (tLst (tCons (tC (.int 0)) (tCons (tC (.int 0)) (tCons (tC (.int 1)) (tCons (tC (.int 1)) (tCons (tC (.int 1)) (tCons (tC (.int 2)) (tCons (tC (.int 2)) (tCons (tC (.int 3)) tNil))))))))) (tCall (sp_law_pull T K) [] E0 (tCons (tVar 0) (tCons (tC (.int 8)) tNil))))))
theorem wk_law_rank {T : Cs} {K : PySem.W.Frag} {vs : List V} {H : Hp} {Q : VK} {E : XK}  (h : sp_law_rank T K vs H Q E) : rd_law_rank T K E { nx := fun _ H' => Q .non H', rt := Q } (L2.start ["_law_bag_here"] vs) H := by
  obtain ⟨A, R, m_bag_here, v_bag_here, x_bag_here, rfl, S, h_bag_here, h⟩ := h
  unfold m_law_rank at h
  unfold rd_law_rank
  have e0 : Same A A := Same.refl _
  refine q_when ?_
  refine c_tst (c_op (c_call (c_cons (c_var rfl (c_cons (c_c (c_nil (⟨A, (R), m_bag_here, v_bag_here, x_bag_here, (12 : Int), rfl, S, h_bag_here, ?_⟩))))))))
  refine Res.wp_mono (Res.wp_noex (Res.wp_bind h)) (fun y1 h A2 H3 m7 e4 S5 h6 => ?_) (fun _ _ h => h.elim)
  have e0 := e0.trans e4
  refine c_c (c_eqI (c_bl (?_)))
  refine c_if h (fun hc h => ?_) (fun hc h => ?_)
  ·
    refine s_ret ?_
    refine c_call (c_cons (c_var rfl (c_cons (c_c (c_nil (⟨A2, (R), m7, v_bag_here, y1.2, (13 : Int), rfl, S5, h6, ?_⟩))))))
    refine Res.wp_mono (Res.wp_noex (Res.wp_bind h)) (fun y8 h A9 H10 m14 e11 S12 h13 => ?_) (fun _ _ h => h.elim)
    have e0 := e0.trans e11
    exact h (A9) (H10) (m14) e0 S12 h13
  ·
    refine s_ret ?_
    refine c_op (c_tlst (c_cons (c_c (c_cons (c_c (c_cons (c_c (c_cons (c_c (c_cons (c_c (c_cons (c_c (c_cons (c_c (c_cons (c_c (c_nil (c_lst (α := Int) (vs := [(.int 0), (.int 0), (.int 1), (.int 1), (.int 1), (.int 2), (.int 2), (.int 3)]) (xs := [(0 : Int), (0 : Int), (1 : Int), (1 : Int), (1 : Int), (2 : Int), (2 : Int), (3 : Int)]) (Nat.le_of_ble_eq_true rfl) ⟨rfl, ⟨rfl, ⟨rfl, ⟨rfl, ⟨rfl, ⟨rfl, ⟨rfl, ⟨rfl, trivial⟩⟩⟩⟩⟩⟩⟩⟩ (ow S5 fun p15 ws16 H17 S18 h19 => ?_))))))))))))))))))))
    have S20 : St H17 (A2 :: m7 :: (one p15 (.lst ws16)) :: R) := S18.pick 1 (Nat.le_of_ble_eq_true rfl)
    refine c_call (c_cons (c_var rfl (c_cons (c_c (c_nil (⟨A2, ((one p15 (.lst ws16)) :: R), m7, v_bag_here, y1.2, (8 : Int), rfl, S20, h6, ?_⟩))))))
    refine Res.wp_mono (Res.wp_noex (Res.wp_bind h)) (fun y21 h A22 H23 m27 e24 S25 h26 => ?_) (fun _ _ h => h.elim)
    have e0 := e0.trans e24
    have h19 := OL.up h19 e24
    refine c_ixI ⟨_, _, rfl, (S25.mem _ (List.mem_of_getElem? (i := 2) rfl)) _ _ one_same, h19⟩ h fun t28 h => ?_
    have S29 : St H23 (A22 :: m27 :: R) := S25.drop 1 (Nat.le_of_ble_eq_true rfl)
    exact h (A22) (H23) (m27) e0 S29 h26
abbrev s_law_rank : Stmt := topS 29
theorem sc_law_rank : FnScope ["_law_bag_here"] ["_law_bag_here"] (defScope s_law_rank) := ⟨rfl, rfl, rfl, by decide +kernel, rfl, by decide +kernel, by decide +kernel⟩
theorem ok_law_rank {P : Program} {w : World} {K : PySem.W.Frag} {mg : Str → Option Value} {base : Heap} {T : Cs} {f : Addr} {fd : FuncData} {f_law_pull : Addr} {fd_law_pull : FuncData} (F : Fun K "_law_rank" "_law_rank" s_law_rank f fd) (bi : Bi mg) (G_law_pull : Glob P w K mg base CX0 1 "_law_pull" ["_law_bag_here", "_law_many"] (sp_law_pull T K) f_law_pull fd_law_pull)   : FnOk P w K mg base CX0 2 f fd ["_law_bag_here"] (sp_law_rank T K) := by
  refine F.ok sc_law_rank (fun vs H Q E h => ?_) (fun cdv A outer s H vs Q E hr h => ⟨rd_law_rank T K E, ?_, wk_law_rank  h⟩)
  · obtain ⟨_, _, _, _, _, rfl, _⟩ := h
    rfl
  · exact (pss_cons (ps_if (pt_cmpR op_eq (pe_call G_law_pull.ok (hr.mono (Nat.le_of_ble_eq_true rfl)) (by rfl) G_law_pull.g G_law_pull.kp G_law_pull.b .nil pass0 (pa_cons (pv 0) (pa_cons pe_int pa_nil))) pe_int (nomark _)) (pss_one (ps_ret (pe_call G_law_pull.ok (hr.mono (Nat.le_of_ble_eq_true rfl)) (by rfl) G_law_pull.g G_law_pull.kp G_law_pull.b .nil pass0 (pa_cons (pv 0) (pa_cons pe_int pa_nil))))) pss_nil)
      (pss_one (ps_ret (pe_ix ix_list (pe_lst (pa_cons pe_int (pa_cons pe_int (pa_cons pe_int (pa_cons pe_int (pa_cons pe_int (pa_cons pe_int (pa_cons pe_int (pa_cons pe_int pa_nil))))))))) (pe_call G_law_pull.ok (hr.mono (Nat.le_of_ble_eq_true rfl)) (by rfl) G_law_pull.g G_law_pull.kp G_law_pull.b .nil pass0 (pa_cons (pv 0) (pa_cons pe_int pa_nil))) (fun _ _ => rfl)))))
@[irreducible] def m_law_join (x_one : (List Int)) (x_other : (List Int)) : Res Unit (List Int) := Res.bind (.ok ((x_one.filter (fun z1 => (!(decide (z1 ∈ x_other))))).map (fun z1 => z1))) fun t31 => Res.bind (.ok ((x_other.filter (fun z43 => (!(decide (z43 ∈ x_one))))).map (fun z43 => z43))) fun t73 => Res.bind (catR t31 t73) fun t81 => Res.bind (.ok (sortI t81)) fun t87 => .ok t87
def sp_law_join (T : Cs) (K : PySem.W.Frag) : Sp := fun vs H Q E => ∃ (A : Hp) (R : List Hp) (v_one : V) (x_one : (List Int)) (v_other : V) (x_other : (List Int)), vs = [v_one, v_other] ∧ St H (A :: R) ∧ Is A v_one x_one ∧ Is A v_other x_other ∧ (m_law_join x_one x_other).wp (fun y => ∀ (A' H' : Hp) (p : Addr) (ws : List V), Same A A' → St H' (A' :: one p (.lst ws) :: R) → OL A' ws y → Q (.ref p) H') (fun _ _ => False)
def rd_law_join (T : Cs) (K : PySem.W.Frag) (E : XK) : TS := (tSeq (tAsg (tLc (iList K (tVar 0)) (gName 3) (tTest (tOp (rIn K true) (tVar 3) (tVar 1))) (tVar 3) [3]) (gName 2)) (tRet (tCB (rSortedI K) (tCons (tOp rCat (tVar 2) (tLc (iList K (tVar 1)) (gName 3) (tTest (tOp (rIn K true) (tVar 3) (tVar 0))) (tVar 3) [3])) tNil))))
theorem wk_law_join {T : Cs} {K : PySem.W.Frag} {vs : List V} {H : Hp} {Q : VK} {E : XK}  (h : sp_law_join T K vs H Q E) : rd_law_join T K E { nx := fun _ H' => Q .non H', rt := Q } (L2.start ["_law_one", "_law_other", "_law_left", "_law_x"] vs) H := by
  obtain ⟨A, R, v_one, x_one, v_other, x_other, rfl, S, h_one, h_other, h⟩ := h
  unfold m_law_join at h
  unfold rd_law_join
  have e0 : Same A A := Same.refl _
  refine q_asg ?_
  refine c_lcE ?_
  refine c_var rfl (?_)
  refine c_lcL (A := A) (R := R) (tt := (tTest (tOp (rIn K true) (tVar 3) (tVar 1)))) (te := (tVar 3)) (vs := [3]) (j := 3) (xs := x_one) (fun z1 => (!(decide (z1 ∈ x_other)))) (fun z1 => z1) S (fun Q' q => q) h_one h (fun _ => rfl) ?_ ?_ (fun p32 A33 H34 ws35 t31 h e36 S37 h38 => ?_)
  ·
    intro z1 w2 A3 n4 hm14 e7 h12 A5 H6 e8 S9 Q10 hk11
    have e0 := e0.trans (e7.trans e8)
    have e15 := e7.trans e8
    have h_one := up h_one e15
    have h_other := up h_other e15
    have eC16 : Same A5 A5 := Same.refl _
    have h12 := up h12 e8
    obtain rfl : w2 = (.int z1) := h12
    refine c_tst (c_op (c_var rfl (c_var rfl (c_notin (la_of S9 h_other) (c_bl (?_))))))
    exact hk11 _ _ eC16 S9
  ·
    intro z1 w2 A17 n18 hm28 e21 h26 hf27 A19 H20 e22 S23 Q24 hk25
    have e0 := e0.trans (e21.trans e22)
    have e29 := e21.trans e22
    have h_one := up h_one e29
    have h_other := up h_other e29
    have eC30 : Same A19 A19 := Same.refl _
    have h26 := up h26 e22
    obtain rfl : w2 = (.int z1) := h26
    refine c_var rfl (?_)
    exact hk25 _ _ _ eC30 S23 rfl
  ·
    have e0 := e0.trans e36
    have h_one := up h_one e36
    have h_other := up h_other e36
    have h40 := frz_is h38 S37
    have S41 := S37.frz
    have e39 := same_join_l (A := A33) (B := (one p32 (.lst ws35)))
    generalize hjA42 : join A33 (one p32 (.lst ws35)) = A42 at h40 S41 e39
    clear hjA42
    have e0 := e0.trans e39
    have h_one := up h_one e39
    have h_other := up h_other e39
    refine s_ret ?_
    refine c_cb (c_cons (c_op (c_var rfl (?_))))
    refine c_lcE ?_
    refine c_var rfl (?_)
    refine c_lcL (A := A42) (R := R) (tt := (tTest (tOp (rIn K true) (tVar 3) (tVar 0)))) (te := (tVar 3)) (vs := [3]) (j := 3) (xs := x_other) (fun z43 => (!(decide (z43 ∈ x_one)))) (fun z43 => z43) S41 (fun Q' q => q) h_other h (fun _ => rfl) ?_ ?_ (fun p74 A75 H76 ws77 t73 h e78 S79 h80 => ?_)
    ·
      intro z43 w44 A45 n46 hm56 e49 h54 A47 H48 e50 S51 Q52 hk53
      have e0 := e0.trans (e49.trans e50)
      have e57 := e49.trans e50
      have h_one := up h_one e57
      have h_other := up h_other e57
      have h40 := up h40 e57
      have eC58 : Same A47 A47 := Same.refl _
      have h54 := up h54 e50
      obtain rfl : w44 = (.int z43) := h54
      refine c_tst (c_op (c_var rfl (c_var rfl (c_notin (la_of S51 h_one) (c_bl (?_))))))
      exact hk53 _ _ eC58 S51
    ·
      intro z43 w44 A59 n60 hm70 e63 h68 hf69 A61 H62 e64 S65 Q66 hk67
      have e0 := e0.trans (e63.trans e64)
      have e71 := e63.trans e64
      have h_one := up h_one e71
      have h_other := up h_other e71
      have h40 := up h40 e71
      have eC72 : Same A61 A61 := Same.refl _
      have h68 := up h68 e64
      obtain rfl : w44 = (.int z43) := h68
      refine c_var rfl (?_)
      exact hk67 _ _ _ eC72 S65 rfl
    ·
      have e0 := e0.trans e78
      have h_one := up h_one e78
      have h_other := up h_other e78
      have h40 := up h40 e78
      refine c_cat (la_of S79 h40) ⟨_, _, rfl, (S79.mem _ (List.mem_of_getElem? (i := 1) rfl)) _ _ one_same, h80⟩ h fun t81 h => (ow S79 fun p82 ws83 H84 S85 h86 => ?_)
      refine c_nil (c_sorted ⟨_, _, rfl, (S85.mem _ (List.mem_of_getElem? (i := 1) rfl)) _ _ one_same, h86⟩ h fun t87 h => (ow S85 fun p88 ws89 H90 S91 h92 => ?_))
      have S93 : St H90 (A75 :: (one p88 (.lst ws89)) :: (one p74 (.lst ws77)) :: R) := S91.drop 1 (Nat.le_of_ble_eq_true rfl)
      have S94 : St H90 (A75 :: (one p88 (.lst ws89)) :: R) := S93.drop 1 (Nat.le_of_ble_eq_true rfl)
      exact h (A75) (H90) (p88) (ws89) e0 S94 h92
abbrev s_law_join : Stmt := topS 30
theorem sc_law_join : FnScope ["_law_one", "_law_other", "_law_left", "_law_x"] ["_law_one", "_law_other"] (defScope s_law_join) := ⟨rfl, rfl, rfl, by decide +kernel, rfl, by decide +kernel, by decide +kernel⟩
theorem ok_law_join {P : Program} {w : World} {K : PySem.W.Frag} {mg : Str → Option Value} {base : Heap} {T : Cs} {f : Addr} {fd : FuncData}  (F : Fun K "_law_join" "_law_join" s_law_join f fd) (bi : Bi mg)    : FnOk P w K mg base CX0 1 f fd ["_law_one", "_law_other"] (sp_law_join T K) := by
  refine F.ok sc_law_join (fun vs H Q E h => ?_) (fun cdv A outer s H vs Q E hr h => ⟨rd_law_join T K E, ?_, wk_law_join  h⟩)
  · obtain ⟨_, _, _, _, _, _, rfl, _⟩ := h
    rfl
  · exact (pss_cons (ps_setLc (i := 2) (own := [("_law_x", 3)]) (g := gName 3) (tt := (tTest (tOp (rIn K true) (tVar 3) (tVar 1)))) (te := (tVar 3)) rfl sc_law_join.nd rfl rfl (sw_true rfl rfl rfl (by decide +kernel)) (pi_list (pv 0)) (blkOk_by (own := [("_law_x", 3)]) (N := ["_law_one", "_law_other", "_law_left", "_law_x"]) (sc := defScope s_law_join) (by decide +kernel)) (fun _ _ _ _ _ => pg_name (i := 3) sc_law_join.nd rfl (Or.inl rfl)) (fun _ _ _ _ _ => pts_one (pt_cmpR op_notIn_seq (pv 3) (pv 1) rfl)) (fun _ _ _ _ _ => (pv 3)))
      (pss_one (ps_ret (pe_callB cr_sortedI (by rfl) bi.sorted boot_sorted (pa_cons (pe_op op_cat (pv 2) (pe_lc (own := [("_law_x", 3)]) (g := gName 3) (tt := (tTest (tOp (rIn K true) (tVar 3) (tVar 0)))) (te := (tVar 3)) rfl sc_law_join.nd (pi_list (pv 1)) (blkOk_by (own := [("_law_x", 3)]) (N := ["_law_one", "_law_other", "_law_left", "_law_x"]) (sc := defScope s_law_join) (by decide +kernel)) (fun _ _ _ _ _ => pg_name (i := 3) sc_law_join.nd rfl (Or.inl rfl)) (fun _ _ _ _ _ => pts_one (pt_cmpR op_notIn_seq (pv 3) (pv 0) rfl)) (fun _ _ _ _ _ => (pv 3)))) pa_nil)))))
@[irreducible] def m_law_here (x_rows_here : (List (Option (Int × (List Int))))) : Res Unit (List Int) := Res.bind (Res.bind (rlR (x_rows_here.length : Int)) fun l => compG (β := Int) (fun z2 (s8 : Unit) => Res.bind (ixR x_rows_here z2) fun t22 => if (!(t22).isNone) = true then .ok (some z2, ()) else .ok (none, ())) l ()) fun y25 => .ok y25.1
def sp_law_here (T : Cs) (K : PySem.W.Frag) : Sp := fun vs H Q E => ∃ (A : Hp) (R : List Hp) (v_rows_here : V) (x_rows_here : (List (Option (Int × (List Int))))), vs = [v_rows_here] ∧ St H (A :: R) ∧ Is A v_rows_here x_rows_here ∧ (m_law_here x_rows_here).wp (fun y => ∀ (A' H' : Hp) (p : Addr) (ws : List V), Same A A' → St H' (A' :: one p (.lst ws) :: R) → OL A' ws y → Q (.ref p) H') (fun _ _ => False)
def rd_law_here (T : Cs) (K : PySem.W.Frag) (E : XK) : TS := (tRet (tLc (iRng1 (tCons (tCB (Evl.rLenS K) (tCons (tVar 0) tNil)) tNil)) (gName 1) (tTest (tOp rNotN (tOp (rIxL K) (tVar 0) (tVar 1)) (tC .non))) (tVar 1) [1]))
theorem wk_law_here {T : Cs} {K : PySem.W.Frag} {vs : List V} {H : Hp} {Q : VK} {E : XK}  (h : sp_law_here T K vs H Q E) : rd_law_here T K E { nx := fun _ H' => Q .non H', rt := Q } (L2.start ["_law_rows_here", "_law_k"] vs) H := by
  obtain ⟨A, R, v_rows_here, x_rows_here, rfl, S, h_rows_here, h⟩ := h
  unfold m_law_here at h
  unfold rd_law_here
  have e0 : Same A A := Same.refl _
  refine s_ret ?_
  refine c_lcER ?_
  refine c_cons (c_cb (c_cons (c_var rfl (c_nil (c_len (la_of S h_rows_here) (c_nil (?_)))))))
  refine c_lcGR (A := A) (R := R) (tt := (tTest (tOp rNotN (tOp (rIxL K) (tVar 0) (tVar 1)) (tC .non)))) (te := (tVar 1)) (vs := [1]) (j := 1) (n := (x_rows_here.length : Int)) (fun (A_ : Hp) (R_ : List Hp) (s : Unit) => R = R_) S (fun Q' q => q) rfl h (fun _ => rfl) (fun z2 w3 A5 H6 R7 s8 n9 C10 K1_11 K0_12 hz13 e14 S15 hR16 hK17 hK18 h => ?_) (fun p26 A27 H28 R29 ws30 y25 h e31 S32 hR33 h34 => ?_)
  ·
    obtain ⟨hz13, rfl⟩ := hz13
    have eC21 : Same A5 A5 := Same.refl _
    obtain rfl := hR16
    have e0 := e0.trans e14
    have h_rows_here := up h_rows_here e14
    refine c_tst (c_op (c_op (c_var rfl (c_var rfl (c_ix (la_of S15 h_rows_here) h fun t22 w23 h24 h => ?_)))))
    refine c_c (c_notN h24 (c_bl (?_)))
    refine c_if h (fun hc h => ?_) (fun hc h => ?_)
    ·
      refine c_var rfl (?_)
      exact hK17 _ _ _ z2 _ () eC21 S15 rfl rfl h
    ·
      exact hK18 _ _ _ () eC21 S15 rfl h
  ·
    obtain rfl := hR33
    have e0 := e0.trans e31
    have h_rows_here := up h_rows_here e31
    exact h (A27) (H28) (p26) (ws30) e0 S32 h34
abbrev s_law_here : Stmt := topS 31
theorem sc_law_here : FnScope ["_law_rows_here", "_law_k"] ["_law_rows_here"] (defScope s_law_here) := ⟨rfl, rfl, rfl, by decide +kernel, rfl, by decide +kernel, by decide +kernel⟩
theorem ok_law_here {P : Program} {w : World} {K : PySem.W.Frag} {mg : Str → Option Value} {base : Heap} {T : Cs} {f : Addr} {fd : FuncData}  (F : Fun K "_law_here" "_law_here" s_law_here f fd) (bi : Bi mg)    : FnOk P w K mg base CX0 1 f fd ["_law_rows_here"] (sp_law_here T K) := by
  refine F.ok sc_law_here (fun vs H Q E h => ?_) (fun cdv A outer s H vs Q E hr h => ⟨rd_law_here T K E, ?_, wk_law_here  h⟩)
  · obtain ⟨_, _, _, _, rfl, _⟩ := h
    rfl
  · exact (pss_one (ps_ret (pe_lc (own := [("_law_k", 1)]) (g := (gName 1)) (tt := (tTest (tOp rNotN (tOp (rIxL K) (tVar 0) (tVar 1)) (tC .non)))) (te := (tVar 1)) rfl sc_law_here.nd (pi_range1 (by rfl) bi.range (pa_cons (pe_callB call_len_seq (by rfl) bi.len PySem.boot_len (pa_cons (pv 0) pa_nil)) pa_nil)) (blkOk_by (own := [("_law_k", 1)]) (N := ["_law_rows_here", "_law_k"]) (sc := defScope s_law_here) (by decide +kernel)) (fun _ _ _ _ _ => pg_name (i := 1) sc_law_here.nd rfl (Or.inl rfl)) (fun _ _ _ _ _ => pts_one (pt_cmpR op_notN1 (pe_ix ix_list (pv 0) (pv 1) (fun _ _ => rfl)) pe_non (nomark _))) (fun _ _ _ _ _ => (pv 1)))))
@[irreducible] def m_law_some_s1 (x_bag_here : Bag) (x_row_here : (List Int)) (x_found : (List Int)) (x_count : Int) : Res Bag ((List Int) × Bag) := Res.bind (Res.bind (rgR (0 : Int) x_count) fun l => forM (β := ((List Int) × Bag)) (fun z48 (s53 : (List Int) × Bag) => Res.bind (Res.noex (m_law_pull s53.2 (x_row_here.length : Int))) fun y74 => Res.bind (ixR x_row_here y74.1) fun t81 => Res.bind (Res.noex (m_law_join s53.1 [t81])) fun y95 => .ok (.next (y95, y74.2))) l (x_found, x_bag_here)) fun r111 => (match r111 with | .next s66 => .ok (s66.1, s66.2) | .ret y112 => .ok y112)
@[irreducible] def m_law_some (x_bag_here : Bag) (x_row_here : (List Int)) : Res Bag ((List Int) × Bag) := if (decide (x_row_here = ([] : List Int))) = true then .ok (([] : List Int), x_bag_here) else Res.bind (Res.noex (m_law_pull x_bag_here (7 : Int))) fun y15 => Res.bind ((if (decide (y15.1 = (6 : Int))) = true then Res.bind (Res.noex (m_law_pull y15.2 (3 : Int))) fun y35 => Res.bind (mulR y35.1 (x_row_here.length : Int)) fun t42 => .ok (.next ((y35.1 * (x_row_here.length : Int)), y35.2)) else .ok (.next (y15.1, y15.2)) : Res Bag (Fl ((List Int) × Bag) (Int × Bag)))) fun r113 => (match r113 with | .next s29 => m_law_some_s1 s29.2 x_row_here ([] : List Int) s29.1 | .ret y114 => .ok y114)
def sp_law_some (T : Cs) (K : PySem.W.Frag) : Sp := fun vs H Q E => ∃ (A : Hp) (R : List Hp) (m_bag_here : Hp) (v_bag_here : V) (x_bag_here : Bag) (v_row_here : V) (x_row_here : (List Int)), vs = [v_bag_here, v_row_here] ∧ St H (A :: m_bag_here :: R) ∧ Ob.isAt T A m_bag_here v_bag_here x_bag_here ∧ Is A v_row_here x_row_here ∧ (m_law_some x_bag_here x_row_here).wp (fun y => ∀ (A' H' : Hp) (p : Addr) (ws : List V) (m0 : Hp), Same A A' → St H' (A' :: one p (.lst ws) :: m0 :: R) → OL A' ws y.1 → Ob.isAt T A' m0 v_bag_here y.2 → Q (.ref p) H') (fun _ _ => False)
def rd_law_some_s1 (T : Cs) (K : PySem.W.Frag) (E : XK) : TS := (tSeq (tFor (iRng1 (tCons (tVar 3) tNil)) (gName 4) (tAsg (tCall (sp_law_join T K) [] E0 (tCons (tVar 2) (tCons (tLst (tCons (tOp (rIxL K) (tVar 1) (tCall (sp_law_pull T K) [] E0 (tCons (tVar 0) (tCons (tCB (Evl.rLenS K) (tCons (tVar 1) tNil)) tNil)))) tNil)) tNil))) (gName 2))) (tRet (tVar 2)))
def rd_law_some (T : Cs) (K : PySem.W.Frag) (E : XK) : TS := (tSeq (tAsg (tLst tNil) (gName 2)) (tSeq (tIfS (tTest (tOp (rEqD K) (tVar 1) (tLst tNil))) (tRet (tVar 2)) tNext) (tSeq (tAsg (tCall (sp_law_pull T K) [] E0 (tCons (tVar 0) (tCons (tC (.int 7)) tNil))) (gName 3)) (Evl.tCut (tIfS (tTest (tOp rEq (tVar 3) (tC (.int 6)))) (tAsg (tOp (rI CMul fun i j => .int (i * j)) (tCall (sp_law_pull T K) [] E0 (tCons (tVar 0) (tCons (tC (.int 3)) tNil))) (tCB (Evl.rLenS K) (tCons (tVar 1) tNil))) (gName 3)) tNext) (rd_law_some_s1 T K E)))))
theorem wk_law_some_s1 {T : Cs} {K : PySem.W.Frag} {A AS HS : Hp} {R : List Hp} {Q : VK} {E : XK} {x_bag_here : Bag} {m_bag_here : Hp} {v_bag_here : V} {x_row_here : (List Int)} {v_row_here : V} {x_found : (List Int)} {p_found : Addr} {ws_found : List V} {x_count : Int} {o4 : Option V}  (e0 : Same A AS) (S : St HS (AS :: m_bag_here :: (one p_found (.lst ws_found)) :: R)) (h_bag_here : Ob.isAt T AS m_bag_here v_bag_here x_bag_here) (h_row_here : Is AS v_row_here x_row_here) (h_found : OL AS ws_found x_found) (h : (m_law_some_s1 x_bag_here x_row_here x_found x_count).wp (fun y => ∀ (A' H' : Hp) (p : Addr) (ws : List V) (m0 : Hp), Same A A' → St H' (A' :: one p (.lst ws) :: m0 :: R) → OL A' ws y.1 → Ob.isAt T A' m0 v_bag_here y.2 → Q (.ref p) H') (fun _ _ => False)) : rd_law_some_s1 T K E { nx := fun _ H' => Q .non H', rt := Q } [some v_bag_here, some v_row_here, some (.ref p_found), some (.int x_count), o4] HS := by
  unfold m_law_some_s1 at h
  unfold rd_law_some_s1
  refine q_forR1 ?_
  refine c_cons (c_var rfl (c_nil (?_)))
  refine c_forR1 (A := AS) (s0 := (x_found, x_bag_here)) (fun (A_ : Hp) (σ_ : L2.St) (R_ : List Hp) (s : (List Int) × Bag) => ∃ (p_found47 : Addr) (ws_found47 : List V) (m_bag_here47 : Hp) (y_k47 : Option V), σ_ = [some v_bag_here, some v_row_here, some (.ref p_found47), some (.int x_count), y_k47] ∧ m_bag_here47 :: (one p_found47 (.lst ws_found47)) :: R = R_ ∧ OL A_ ws_found47 (s.1 : (List Int)) ∧ Ob.isAt T A_ m_bag_here47 v_bag_here (s.2 : Bag)) S (fun Q' q => q) ⟨p_found, ws_found, m_bag_here, _, rfl, rfl, h_found, h_bag_here⟩ h (fun z48 A50 H51 σ62 R52 s53 C54 N55 hz56a hz56b e57 S58 hR60 hN61 h => ?_) (fun A63 H64 σ70 R65 s66 e67 S68 hR69 h => ?_)
  ·
    have eL71 : Same AS AS := Same.refl _
    obtain ⟨p_found47, ws_found47, m_bag_here47, y_k47, rfl, rfl, h72, h73⟩ := hR60
    have e0 := e0.trans e57
    have eL71 := eL71.trans e57
    have h_row_here := up h_row_here e57
    refine s_asg ?_
    refine c_call (c_cons (c_var rfl (c_cons (c_tlst (c_cons (c_op (c_var rfl (c_call (c_cons (c_var rfl (c_cons (c_cb (c_cons (c_var rfl (c_nil (c_len (la_of S58 h_row_here) (c_nil (⟨A50, ((one p_found47 (.lst ws_found47)) :: R), m_bag_here47, v_bag_here, s53.2, (x_row_here.length : Int), rfl, S58, h73, ?_⟩))))))))))))))))))
    refine Res.wp_mono (Res.wp_noex (Res.wp_bind h)) (fun y74 h A75 H76 m80 e77 S78 h79 => ?_) (fun _ _ h => h.elim)
    have e0 := e0.trans e77
    have eL71 := eL71.trans e77
    have h_row_here := up h_row_here e77
    have h72 := OL.up h72 e77
    refine c_ixI (la_of S78 h_row_here) h fun t81 h => ?_
    refine c_nil (c_lst (α := Int) (vs := [(.int t81)]) (xs := [t81]) (Nat.le_of_ble_eq_true rfl) ⟨rfl, trivial⟩ (ow S78 fun p82 ws83 H84 S85 h86 => ?_))
    have h88 := frz_is h86 S85
    have S89 := S85.frz
    have e87 := same_join_l (A := A75) (B := (one p82 (.lst ws83)))
    generalize hjA90 : join A75 (one p82 (.lst ws83)) = A90 at h88 S89 e87
    clear hjA90
    have e0 := e0.trans e87
    have eL71 := eL71.trans e87
    have h79 := upO h79 e87
    have h_row_here := up h_row_here e87
    have h72 := OL.up h72 e87
    have S91 : St H84 (A90 :: (one p_found47 (.lst ws_found47)) :: m80 :: R) := S89.pick 1 (Nat.le_of_ble_eq_true rfl)
    have h94 := frz_is h72 S91
    have S92 := S91.frz
    have e93 := same_join_l (A := A90) (B := (one p_found47 (.lst ws_found47)))
    refine c_nil (⟨(join A90 (one p_found47 (.lst ws_found47))), (m80 :: R), (.ref p_found47), s53.1, (.ref p82), [t81], rfl, S92, h94, (up h88 e93), ?_⟩)
    refine Res.wp_mono (Res.wp_noex (Res.wp_bind h)) (fun y95 h A96 H97 p100 ws101 e98 S99 h102 => ?_) (fun _ _ h => h.elim)
    have S103 := S99.back1 ((same_join_r S91.dj).trans e98)
    have e104 := same_minus S91 e98
    generalize minus A96 (one p_found47 (.lst ws_found47)) = A105 at S103 e104
    have e0 := e0.trans e104
    have eL71 := eL71.trans e104
    have h79 := upO h79 e104
    have h_row_here := up h_row_here e104
    have h72 := OL.up h72 e104
    have h102 : OL A105 _ _ := OL.any h102
    have S106 : St H97 (A105 :: (one p100 (.lst ws101)) :: m80 :: R) := S103.drop 0 (Nat.le_of_ble_eq_true rfl)
    have S107 : St H97 (A105 :: m80 :: (one p100 (.lst ws101)) :: R) := S106.pick 1 (Nat.le_of_ble_eq_true rfl)
    exact hN61 _ _ _ _ (y95, y74.2) eL71 S107 ⟨p100, ws101, m80, _, rfl, rfl, h102, h79⟩ h
  ·
    refine nx_mk ?_
    obtain ⟨p_found47, ws_found47, m_bag_here47, y_k47, rfl, rfl, h108, h109⟩ := hR69
    have e0 := e0.trans e67
    have h_row_here := up h_row_here e67
    refine s_ret ?_
    refine c_var rfl (?_)
    have S110 : St H64 (A63 :: (one p_found47 (.lst ws_found47)) :: m_bag_here47 :: R) := S68.pick 1 (Nat.le_of_ble_eq_true rfl)
    exact h (A63) (H64) (p_found47) (ws_found47) (m_bag_here47) e0 S110 h108 h109
theorem wk_law_some {T : Cs} {K : PySem.W.Frag} {vs : List V} {H : Hp} {Q : VK} {E : XK}  (h : sp_law_some T K vs H Q E) : rd_law_some T K E { nx := fun _ H' => Q .non H', rt := Q } (L2.start ["_law_bag_here", "_law_row_here", "_law_found", "_law_count", "_law_k"] vs) H := by
  obtain ⟨A, R, m_bag_here, v_bag_here, x_bag_here, v_row_here, x_row_here, rfl, S, h_bag_here, h_row_here, h⟩ := h
  unfold m_law_some at h
  unfold rd_law_some
  have e0 : Same A A := Same.refl _
  refine q_asg ?_
  refine c_tlst (c_nil (c_lst (α := Int) (vs := []) (xs := []) (Nat.le_of_ble_eq_true rfl) trivial (ow S fun p1 ws2 H3 S4 h5 => ?_)))
  refine q_when ?_
  refine c_tst (c_op (c_var rfl (c_tlst (c_nil (c_lst (α := Int) (vs := []) (xs := []) (Nat.le_of_ble_eq_true rfl) trivial (ow S4 fun p6 ws7 H8 S9 h10 => ?_))))))
  refine c_eqD (α := (List Int)) (x := x_row_here) (y := ([] : List Int)) (dp_of S9 h_row_here) (dp_la S9 ⟨_, _, rfl, (S9.mem _ (List.mem_of_getElem? (i := 1) rfl)) _ _ one_same, h10⟩) (Nat.le_of_ble_eq_true rfl) (c_bl (?_))
  refine c_if h (fun hc h => ?_) (fun hc h => ?_)
  ·
    refine s_ret ?_
    refine c_var rfl (?_)
    have S11 : St H8 (A :: m_bag_here :: (one p6 (.lst ws7)) :: (one p1 (.lst ws2)) :: R) := S9.pick 2 (Nat.le_of_ble_eq_true rfl)
    have S12 : St H8 (A :: (one p1 (.lst ws2)) :: m_bag_here :: (one p6 (.lst ws7)) :: R) := S11.pick 2 (Nat.le_of_ble_eq_true rfl)
    have S13 : St H8 (A :: (one p1 (.lst ws2)) :: m_bag_here :: R) := S12.drop 2 (Nat.le_of_ble_eq_true rfl)
    exact h (A) (H8) (p1) (ws2) (m_bag_here) e0 S13 h5 h_bag_here
  ·
    refine q_asg ?_
    have S14 : St H8 (A :: m_bag_here :: (one p6 (.lst ws7)) :: (one p1 (.lst ws2)) :: R) := S9.pick 2 (Nat.le_of_ble_eq_true rfl)
    refine c_call (c_cons (c_var rfl (c_cons (c_c (c_nil (⟨A, ((one p6 (.lst ws7)) :: (one p1 (.lst ws2)) :: R), m_bag_here, v_bag_here, x_bag_here, (7 : Int), rfl, S14, h_bag_here, ?_⟩))))))
    refine Res.wp_mono (Res.wp_noex (Res.wp_bind h)) (fun y15 h A16 H17 m21 e18 S19 h20 => ?_) (fun _ _ h => h.elim)
    have e0 := e0.trans e18
    have h_row_here := up h_row_here e18
    have h5 := OL.up h5 e18
    refine q_cut (A := A16) (fun (A_ : Hp) (σ_ : L2.St) (R_ : List Hp) (s : Int × Bag) => ∃ (m_bag_here22 : Hp), σ_ = [some v_bag_here, some v_row_here, some (.ref p1), some (.int s.1), none] ∧ m_bag_here22 :: (one p6 (.lst ws7)) :: (one p1 (.lst ws2)) :: R = R_ ∧ Ob.isAt T A_ m_bag_here22 v_bag_here (s.2 : Bag)) h (fun C23 N24 hN25 h => ?_) (fun A26 H27 σ33 R28 s29 e30 S31 hR32 h => ?_)
    ·
      have eK34 : Same A16 A16 := Same.refl _
      refine s_when ?_
      refine c_tst (c_op (c_var rfl (c_c (c_eqI (c_bl (?_))))))
      refine c_if h (fun hc h => ?_) (fun hc h => ?_)
      ·
        refine s_asg ?_
        refine c_op (c_call (c_cons (c_var rfl (c_cons (c_c (c_nil (⟨A16, ((one p6 (.lst ws7)) :: (one p1 (.lst ws2)) :: R), m21, v_bag_here, y15.2, (3 : Int), rfl, S19, h20, ?_⟩)))))))
        refine Res.wp_mono (Res.wp_noex (Res.wp_bind h)) (fun y35 h A36 H37 m41 e38 S39 h40 => ?_) (fun _ _ h => h.elim)
        have e0 := e0.trans e38
        have eK34 := eK34.trans e38
        have h_row_here := up h_row_here e38
        have h5 := OL.up h5 e38
        refine c_cb (c_cons (c_var rfl (c_nil (c_len (la_of S39 h_row_here) (c_mul h fun h => ?_)))))
        exact hN25 _ _ _ _ ((y35.1 * (x_row_here.length : Int)), y35.2) eK34 S39 ⟨m41, rfl, rfl, h40⟩ h
      ·
        exact hN25 _ _ _ _ (y15.1, y15.2) eK34 S19 ⟨m21, rfl, rfl, h20⟩ h
    ·
      obtain ⟨m_bag_here22, rfl, rfl, h43⟩ := hR32
      have e0 := e0.trans e30
      have h_row_here := up h_row_here e30
      have h5 := OL.up h5 e30
      have S44 : St H27 (A26 :: (one p1 (.lst ws2)) :: m_bag_here22 :: (one p6 (.lst ws7)) :: R) := S31.pick 2 (Nat.le_of_ble_eq_true rfl)
      have S45 : St H27 (A26 :: m_bag_here22 :: (one p1 (.lst ws2)) :: (one p6 (.lst ws7)) :: R) := S44.pick 1 (Nat.le_of_ble_eq_true rfl)
      have S46 : St H27 (A26 :: m_bag_here22 :: (one p1 (.lst ws2)) :: R) := S45.drop 2 (Nat.le_of_ble_eq_true rfl)
      exact wk_law_some_s1 (T := T) (K := K) (E := E)  e0 S46 h43 h_row_here h5 h
abbrev s_law_some : Stmt := topS 32
theorem sc_law_some : FnScope ["_law_bag_here", "_law_row_here", "_law_found", "_law_count", "_law_k"] ["_law_bag_here", "_law_row_here"] (defScope s_law_some) := ⟨rfl, rfl, rfl, by decide +kernel, rfl, by decide +kernel, by decide +kernel⟩
theorem ok_law_some {P : Program} {w : World} {K : PySem.W.Frag} {mg : Str → Option Value} {base : Heap} {T : Cs} {f : Addr} {fd : FuncData} {f_law_pull : Addr} {fd_law_pull : FuncData} {f_law_join : Addr} {fd_law_join : FuncData} (F : Fun K "_law_some" "_law_some" s_law_some f fd) (bi : Bi mg) (G_law_pull : Glob P w K mg base CX0 1 "_law_pull" ["_law_bag_here", "_law_many"] (sp_law_pull T K) f_law_pull fd_law_pull) (G_law_join : Glob P w K mg base CX0 1 "_law_join" ["_law_one", "_law_other"] (sp_law_join T K) f_law_join fd_law_join)   : FnOk P w K mg base CX0 2 f fd ["_law_bag_here", "_law_row_here"] (sp_law_some T K) := by
  refine F.ok sc_law_some (fun vs H Q E h => ?_) (fun cdv A outer s H vs Q E hr h => ⟨rd_law_some T K E, ?_, wk_law_some  h⟩)
  · obtain ⟨_, _, _, _, _, _, _, rfl, _⟩ := h
    rfl
  · exact (pss_cons (ps_set (i := 2) sc_law_some.nd rfl (Or.inl rfl) (pe_lst pa_nil))
      (pss_cons (ps_if (pt_cmpR (op_eqD hr.units) (pv 1) (pe_lst pa_nil) (nomark _)) (pss_one (ps_ret (pv 2))) pss_nil)
      (pss_cons (ps_set (i := 3) sc_law_some.nd rfl (Or.inl rfl) (pe_call G_law_pull.ok (hr.mono (Nat.le_of_ble_eq_true rfl)) (by rfl) G_law_pull.g G_law_pull.kp G_law_pull.b .nil pass0 (pa_cons (pv 0) (pa_cons pe_int pa_nil))))
      (Evl.pss_cut (ps_if (pt_cmpR op_eq (pv 3) pe_int (nomark _)) (pss_one (ps_set (i := 3) sc_law_some.nd rfl (Or.inl rfl) (pe_op op_mul (pe_call G_law_pull.ok (hr.mono (Nat.le_of_ble_eq_true rfl)) (by rfl) G_law_pull.g G_law_pull.kp G_law_pull.b .nil pass0 (pa_cons (pv 0) (pa_cons pe_int pa_nil))) (pe_callB call_len_seq (by rfl) bi.len PySem.boot_len (pa_cons (pv 1) pa_nil))))) pss_nil)
      (pss_cons (ps_for PassesOwn.never rfl (pi_range1 (by rfl) bi.range (pa_cons (pv 3) pa_nil)) (pg_name (i := 4) sc_law_some.nd rfl (Or.inl rfl)) (pss_one (ps_set (i := 2) sc_law_some.nd rfl (Or.inl rfl) (pe_call G_law_join.ok (hr.mono (Nat.le_of_ble_eq_true rfl)) (by rfl) G_law_join.g G_law_join.kp G_law_join.b .nil pass0 (pa_cons (pv 2) (pa_cons (pe_lst (pa_cons (pe_ix ix_list (pv 1) (pe_call G_law_pull.ok (hr.mono (Nat.le_of_ble_eq_true rfl)) (by rfl) G_law_pull.g G_law_pull.kp G_law_pull.b .nil pass0 (pa_cons (pv 0) (pa_cons (pe_callB call_len_seq (by rfl) bi.len PySem.boot_len (pa_cons (pv 1) pa_nil)) pa_nil))) (fun _ _ => rfl)) pa_nil)) pa_nil))))))
      (pss_one (ps_ret (pv 2))))))))
@[irreducible] def m_law_edge (x_rows_here : (List (Option (Int × (List Int))))) (x_row_here : (List Int)) : Res Unit (List Int) := Res.bind (forM (β := (List Int)) (fun z7 (s12 : (List Int)) => Res.bind (ixR x_rows_here z7) fun t32 => Res.bind (getR t32) fun t35 => Res.bind (Res.noex (m_law_join s12 t35.2)) fun y41 => .ok (.next y41)) x_row_here ([] : List Int)) fun r54 => (match r54 with | .next s25 => .ok s25 | .ret y55 => .ok y55)
def sp_law_edge (T : Cs) (K : PySem.W.Frag) : Sp := fun vs H Q E => ∃ (A : Hp) (R : List Hp) (v_rows_here : V) (x_rows_here : (List (Option (Int × (List Int))))) (v_row_here : V) (x_row_here : (List Int)), vs = [v_rows_here, v_row_here] ∧ St H (A :: R) ∧ Is A v_rows_here x_rows_here ∧ Is A v_row_here x_row_here ∧ (m_law_edge x_rows_here x_row_here).wp (fun y => ∀ (A' H' : Hp) (p : Addr) (ws : List V), Same A A' → St H' (A' :: one p (.lst ws) :: R) → OL A' ws y → Q (.ref p) H') (fun _ _ => False)
def rd_law_edge (T : Cs) (K : PySem.W.Frag) (E : XK) : TS := (tSeq (tAsg (tLst tNil) (gName 2)) (tSeq (tFor (iList K (tVar 1)) (gName 3) (tAsg (tCall (sp_law_join T K) [] E0 (tCons (tVar 2) (tCons (tOp (rIxT K) (tOp (rIxL K) (tVar 0) (tVar 3)) (tC (.int 1))) tNil))) (gName 2))) (tRet (tVar 2))))
theorem wk_law_edge {T : Cs} {K : PySem.W.Frag} {vs : List V} {H : Hp} {Q : VK} {E : XK}  (h : sp_law_edge T K vs H Q E) : rd_law_edge T K E { nx := fun _ H' => Q .non H', rt := Q } (L2.start ["_law_rows_here", "_law_row_here", "_law_found", "_law_cell"] vs) H := by
  obtain ⟨A, R, v_rows_here, x_rows_here, v_row_here, x_row_here, rfl, S, h_rows_here, h_row_here, h⟩ := h
  unfold m_law_edge at h
  unfold rd_law_edge
  have e0 : Same A A := Same.refl _
  refine q_asg ?_
  refine c_tlst (c_nil (c_lst (α := Int) (vs := []) (xs := []) (Nat.le_of_ble_eq_true rfl) trivial (ow S fun p1 ws2 H3 S4 h5 => ?_)))
  refine q_forL ?_
  refine c_var rfl (?_)
  refine c_forL (A := A) (s0 := ([] : List Int)) (fun (A_ : Hp) (σ_ : L2.St) (R_ : List Hp) (s : (List Int)) => ∃ (p_found6 : Addr) (ws_found6 : List V) (y_cell6 : Option V), σ_ = [some v_rows_here, some v_row_here, some (.ref p_found6), y_cell6] ∧ (one p_found6 (.lst ws_found6)) :: R = R_ ∧ OL A_ ws_found6 (s : (List Int))) S4 (fun Q' q => q) h_row_here ⟨p1, ws2, _, rfl, rfl, h5⟩ h (fun z7 w8 A9 H10 σ21 R11 s12 C13 N14 hz15 e16 S17 h18 hR19 hN20 h => ?_) (fun A22 H23 σ29 R24 s25 e26 S27 hR28 h => ?_)
  ·
    have eL30 : Same A A := Same.refl _
    obtain ⟨p_found6, ws_found6, y_cell6, rfl, rfl, h31⟩ := hR19
    have e0 := e0.trans e16
    have eL30 := eL30.trans e16
    have h_rows_here := up h_rows_here e16
    have h_row_here := up h_row_here e16
    obtain rfl : w8 = (.int z7) := h18
    refine s_asg ?_
    refine c_call (c_cons (c_var rfl (c_cons (c_op (c_op (c_var rfl (c_var rfl (c_ix (la_of S17 h_rows_here) h fun t32 w33 h34 h => ?_))))))))
    refine c_c (c_ixO1 S17 h34 h fun t35 w36 h37 h => ?_)
    have h40 := frz_is h31 S17
    have S38 := S17.frz
    have e39 := same_join_l (A := A9) (B := (one p_found6 (.lst ws_found6)))
    refine c_nil (⟨(join A9 (one p_found6 (.lst ws_found6))), (R), (.ref p_found6), s12, w36, t35.2, rfl, S38, h40, (up h37 e39), ?_⟩)
    refine Res.wp_mono (Res.wp_noex (Res.wp_bind h)) (fun y41 h A42 H43 p46 ws47 e44 S45 h48 => ?_) (fun _ _ h => h.elim)
    have S49 := S45.back1 ((same_join_r S17.dj).trans e44)
    have e50 := same_minus S17 e44
    generalize minus A42 (one p_found6 (.lst ws_found6)) = A51 at S49 e50
    have e0 := e0.trans e50
    have eL30 := eL30.trans e50
    have h_rows_here := up h_rows_here e50
    have h_row_here := up h_row_here e50
    have h31 := OL.up h31 e50
    have h48 : OL A51 _ _ := OL.any h48
    have S52 : St H43 (A51 :: (one p46 (.lst ws47)) :: R) := S49.drop 0 (Nat.le_of_ble_eq_true rfl)
    exact hN20 _ _ _ _ y41 eL30 S52 ⟨p46, ws47, _, rfl, rfl, h48⟩ h
  ·
    refine nx_mk ?_
    obtain ⟨p_found6, ws_found6, y_cell6, rfl, rfl, h53⟩ := hR28
    have e0 := e0.trans e26
    have h_rows_here := up h_rows_here e26
    have h_row_here := up h_row_here e26
    refine s_ret ?_
    refine c_var rfl (?_)
    exact h (A22) (H23) (p_found6) (ws_found6) e0 S27 h53
abbrev s_law_edge : Stmt := topS 33
theorem sc_law_edge : FnScope ["_law_rows_here", "_law_row_here", "_law_found", "_law_cell"] ["_law_rows_here", "_law_row_here"] (defScope s_law_edge) := ⟨rfl, rfl, rfl, by decide +kernel, rfl, by decide +kernel, by decide +kernel⟩
theorem ok_law_edge {P : Program} {w : World} {K : PySem.W.Frag} {mg : Str → Option Value} {base : Heap} {T : Cs} {f : Addr} {fd : FuncData} {f_law_join : Addr} {fd_law_join : FuncData} (F : Fun K "_law_edge" "_law_edge" s_law_edge f fd) (bi : Bi mg) (G_law_join : Glob P w K mg base CX0 1 "_law_join" ["_law_one", "_law_other"] (sp_law_join T K) f_law_join fd_law_join)   : FnOk P w K mg base CX0 2 f fd ["_law_rows_here", "_law_row_here"] (sp_law_edge T K) := by
  refine F.ok sc_law_edge (fun vs H Q E h => ?_) (fun cdv A outer s H vs Q E hr h => ⟨rd_law_edge T K E, ?_, wk_law_edge  h⟩)
  · obtain ⟨_, _, _, _, _, _, rfl, _⟩ := h
    rfl
  · exact (pss_cons (ps_set (i := 2) sc_law_edge.nd rfl (Or.inl rfl) (pe_lst pa_nil))
      (pss_cons (ps_for PassesOwn.never rfl (pi_list (pv 1)) (pg_name (i := 3) sc_law_edge.nd rfl (Or.inl rfl)) (pss_one (ps_set (i := 2) sc_law_edge.nd rfl (Or.inl rfl) (pe_call G_law_join.ok (hr.mono (Nat.le_of_ble_eq_true rfl)) (by rfl) G_law_join.g G_law_join.kp G_law_join.b .nil pass0 (pa_cons (pv 2) (pa_cons (pe_ix ix_tup (pe_ix ix_list (pv 0) (pv 3) (fun _ _ => rfl)) pe_int (fun _ _ => rfl)) pa_nil))))))
      (pss_one (ps_ret (pv 2)))))
@[irreducible] def m_law_edge_by_s2 (x_rows_here : (List (Option (Int × (List Int))))) (x_loops : (List (Int × (List Int)))) (x_bag_here : Bag) (x_edge_here : (List Int)) : Res ((List (Int × (List Int))) × Bag) ((List Int) × (List (Int × (List Int))) × Bag) := .ok (x_edge_here, x_loops, x_bag_here)
@[irreducible] def m_law_edge_by_s1 (x_rows_here : (List (Option (Int × (List Int))))) (x_loops : (List (Int × (List Int)))) (x_rank_here : Int) (x_bag_here : Bag) (x_number : Int) (x_edge_here : (List Int)) (x_beneath : (List (List Int))) : Res ((List (Int × (List Int))) × Bag) ((List Int) × (List (Int × (List Int))) × Bag) := Res.bind (Res.noex (m_law_pull x_bag_here (8 : Int))) fun y80 => Res.bind (ixR [(2 : Int), (2 : Int), (2 : Int), (2 : Int), (0 : Int), (1 : Int), (3 : Int), (4 : Int)] y80.1) fun t87 => Res.bind (Res.bind (rgR (0 : Int) t87) fun l => forM (β := ((List Int) × (List (Int × (List Int))) × Bag)) (fun z89 (s94 : (List Int) × Bag) => if (!(decide (x_beneath = ([] : List (List Int))))) = true then Res.bind (Res.noex (m_law_pull s94.2 (x_beneath.length : Int))) fun y121 => Res.bind (ixR x_beneath y121.1) fun t128 => Res.bind (Res.noex (m_law_join s94.1 t128)) fun y135 => .ok (.next (y135, y121.2)) else .ok (.next (s94.1, s94.2))) l (x_edge_here, y80.2)) fun r222 => (match r222 with | .next s107 => Res.bind ((if (decide (s107.1 = ([] : List Int))) = true then Res.bind (appR x_loops (x_rank_here, [x_number])) fun t195 => .ok (.next t195) else .ok (.next x_loops) : Res ((List (Int × (List Int))) × Bag) (Fl ((List Int) × (List (Int × (List Int))) × Bag) ((List (Int × (List Int))))))) fun r220 => (match r220 with | .next s168 => m_law_edge_by_s2 x_rows_here s168 s107.2 s107.1 | .ret y221 => .ok y221) | .ret y223 => .ok y223)
@[irreducible] def m_law_edge_by_s3 (x_rows_here : (List (Option (Int × (List Int))))) (x_loops : (List (Int × (List Int)))) (x_rank_here : Int) (x_bag_here : Bag) (x_number : Int) (x_kin : (List Int)) : Res ((List (Int × (List Int))) × Bag) ((List Int) × (List (Int × (List Int))) × Bag) := Res.bind (Res.noex (m_law_some x_bag_here x_kin)) fun y290 => Res.bind (catR y290.1 [x_number]) fun t309 => Res.bind (appR x_loops (x_rank_here, t309)) fun t326 => Res.bind (Res.noex (m_law_edge x_rows_here y290.1)) fun y335 => .ok (y335, t326, y290.2)
@[irreducible] def m_law_edge_by (x_rows_here : (List (Option (Int × (List Int))))) (x_loops : (List (Int × (List Int)))) (x_rank_here : Int) (x_bag_here : Bag) : Res ((List (Int × (List Int))) × Bag) ((List Int) × (List (Int × (List Int))) × Bag) := if (decide (x_rank_here = (0 : Int))) = true then Res.bind (appR x_loops ((0 : Int), [(x_rows_here.length : Int)])) fun t22 => .ok (([] : List Int), t22, x_bag_here) else Res.bind (Res.noex (m_law_pull x_bag_here (5 : Int))) fun y32 => if (decide (y32.1 < (3 : Int))) = true then Res.bind (compG (β := (List Int)) (fun z40 (s46 : Unit) => if (decide (z40.1 = (x_rank_here - (1 : Int)))) = true then .ok (some z40.2, ()) else .ok (none, ())) x_loops ()) fun y60 => m_law_edge_by_s1 x_rows_here x_loops x_rank_here y32.2 (x_rows_here.length : Int) ([] : List Int) y60.1 else Res.bind (Res.noex (m_law_here x_rows_here)) fun y228 => Res.bind (compG (β := Int) (fun z245 (s251 : Unit) => Res.bind (ixR x_rows_here z245) fun t265 => Res.bind (getR t265) fun t268 => if (decide (t268.1 = x_rank_here)) = true then .ok (some z245, ()) else .ok (none, ())) y228 ()) fun y271 => m_law_edge_by_s3 x_rows_here x_loops x_rank_here y32.2 (x_rows_here.length : Int) y271.1
def sp_law_edge_by (T : Cs) (K : PySem.W.Frag) : Sp := fun vs H Q E => ∃ (A : Hp) (R : List Hp) (p_rows_here : Addr) (ws_rows_here : List V) (x_rows_here : (List (Option (Int × (List Int))))) (p_loops : Addr) (ws_loops : List V) (x_loops : (List (Int × (List Int)))) (x_rank_here : Int) (m_bag_here : Hp) (v_bag_here : V) (x_bag_here : Bag), vs = [.ref p_rows_here, .ref p_loops, (.int x_rank_here), v_bag_here] ∧ St H (A :: (one p_rows_here (.lst ws_rows_here)) :: (one p_loops (.lst ws_loops)) :: m_bag_here :: R) ∧ OL A ws_rows_here x_rows_here ∧ OL A ws_loops x_loops ∧ Ob.isAt T A m_bag_here v_bag_here x_bag_here ∧ (m_law_edge_by x_rows_here x_loops x_rank_here x_bag_here).wp (fun y => ∀ (A' H' : Hp) (p : Addr) (ws : List V) (ws1 : List V) (m3 : Hp), Same A A' → St H' (A' :: one p (.lst ws) :: (one p_rows_here (.lst ws_rows_here)) :: one p_loops (.lst ws1) :: m3 :: R) → OL A' ws y.1 → OL A' ws1 y.2.1 → Ob.isAt T A' m3 v_bag_here y.2.2 → Q (.ref p) H') (fun _ _ => False)
def rd_law_edge_by_s2 (T : Cs) (K : PySem.W.Frag) (E : XK) : TS := (tRet (tVar 5))
def rd_law_edge_by_s1 (T : Cs) (K : PySem.W.Frag) (E : XK) : TS := (tSeq (tFor (iRng1 (tCons (tOp (rIxL K) (tLst (tCons (tC (.int 2)) (tCons (tC (.int 2)) (tCons (tC (.int 2)) (tCons (tC (.int 2)) (tCons (tC (.int 0)) (tCons (tC (.int 1)) (tCons (tC (.int 3)) (tCons (tC (.int 4)) tNil))))))))) (tCall (sp_law_pull T K) [] E0 (tCons (tVar 3) (tCons (tC (.int 8)) tNil)))) tNil)) (gName 7) (tIfS (tTest (tOp (rNeD K) (tVar 6) (tLst tNil))) (tAsg (tCall (sp_law_join T K) [] E0 (tCons (tVar 5) (tCons (tOp (rIxL K) (tVar 6) (tCall (sp_law_pull T K) [] E0 (tCons (tVar 3) (tCons (tCB (Evl.rLenS K) (tCons (tVar 6) tNil)) tNil)))) tNil))) (gName 5)) tNext)) (Evl.tCut (tIfS (tTest (tOp (rEqD K) (tVar 5) (tLst tNil))) (tDrop (tBM K "list" rAppend (tVar 1) (tCons (tTup (tCons (tVar 2) (tCons (tLst (tCons (tVar 4) tNil)) tNil))) tNil))) tNext) (rd_law_edge_by_s2 T K E)))
def rd_law_edge_by_s3 (T : Cs) (K : PySem.W.Frag) (E : XK) : TS := (tSeq (tAsg (tCall (sp_law_some T K) [] E0 (tCons (tVar 3) (tCons (tVar 8) tNil))) (gName 9)) (tSeq (tDrop (tBM K "list" rAppend (tVar 1) (tCons (tTup (tCons (tVar 2) (tCons (tOp rCat (tVar 9) (tLst (tCons (tVar 4) tNil))) tNil))) tNil))) (tRet (tCall (sp_law_edge T K) [] E0 (tCons (tVar 0) (tCons (tVar 9) tNil))))))
def rd_law_edge_by (T : Cs) (K : PySem.W.Frag) (E : XK) : TS := (tSeq (tAsg (tCB (Evl.rLenS K) (tCons (tVar 0) tNil)) (gName 4)) (tSeq (tAsg (tLst tNil) (gName 5)) (tSeq (tIfS (tTest (tOp rEq (tVar 2) (tC (.int 0)))) (tSeq (tDrop (tBM K "list" rAppend (tVar 1) (tCons (tTup (tCons (tC (.int 0)) (tCons (tLst (tCons (tVar 4) tNil)) tNil))) tNil))) (tRet (tVar 5))) tNext) (tSeq (tIfS (tTest (tOp (rI0 fun i j => .bl (decide (i < j))) (tCall (sp_law_pull T K) [] E0 (tCons (tVar 3) (tCons (tC (.int 5)) tNil))) (tC (.int 3)))) (tSeq (tAsg (tLc (iList K (tVar 1)) (gTup K 2 (gCons (gName 10) (gCons (gName 11) gNil))) (tTest (tOp rEq (tVar 10) (tOp (rI0 fun i j => .int (i - j)) (tVar 2) (tC (.int 1))))) (tVar 11) [10, 11]) (gName 6)) (rd_law_edge_by_s1 T K E)) tNext) (tSeq (tAsg (tLc (iList K (tCall (sp_law_here T K) [] E0 (tCons (tVar 0) tNil))) (gName 7) (tTest (tOp rEq (tOp (rIxT K) (tOp (rIxL K) (tVar 0) (tVar 7)) (tC (.int 0))) (tVar 2))) (tVar 7) [7]) (gName 8)) (rd_law_edge_by_s3 T K E))))))
theorem wk_law_edge_by_s2 {T : Cs} {K : PySem.W.Frag} {A AS HS : Hp} {R : List Hp} {Q : VK} {E : XK} {x_rows_here : (List (Option (Int × (List Int))))} {p_rows_here : Addr} {ws_rows_here : List V} {x_loops : (List (Int × (List Int)))} {p_loops : Addr} {ws_loops : List V} {x_bag_here : Bag} {m_bag_here : Hp} {v_bag_here : V} {x_edge_here : (List Int)} {p_edge_here : Addr} {ws_edge_here : List V} {o2 : Option V} {o4 : Option V} {o6 : Option V} {o7 : Option V} {o8 : Option V} {o9 : Option V} {o10 : Option V} {o11 : Option V}  (e0 : Same A AS) (S : St HS (AS :: m_bag_here :: (one p_edge_here (.lst ws_edge_here)) :: (one p_rows_here (.lst ws_rows_here)) :: (one p_loops (.lst ws_loops)) :: R)) (h_rows_here : OL AS ws_rows_here x_rows_here) (h_loops : OL AS ws_loops x_loops) (h_bag_here : Ob.isAt T AS m_bag_here v_bag_here x_bag_here) (h_edge_here : OL AS ws_edge_here x_edge_here) (h : (m_law_edge_by_s2 x_rows_here x_loops x_bag_here x_edge_here).wp (fun y => ∀ (A' H' : Hp) (p : Addr) (ws : List V) (ws1 : List V) (m3 : Hp), Same A A' → St H' (A' :: one p (.lst ws) :: (one p_rows_here (.lst ws_rows_here)) :: one p_loops (.lst ws1) :: m3 :: R) → OL A' ws y.1 → OL A' ws1 y.2.1 → Ob.isAt T A' m3 v_bag_here y.2.2 → Q (.ref p) H') (fun _ _ => False)) : rd_law_edge_by_s2 T K E { nx := fun _ H' => Q .non H', rt := Q } [some (.ref p_rows_here), some (.ref p_loops), o2, some v_bag_here, o4, some (.ref p_edge_here), o6, o7, o8, o9, o10, o11] HS := by
  unfold m_law_edge_by_s2 at h
  unfold rd_law_edge_by_s2
  refine s_ret ?_
  refine c_var rfl (?_)
  have S217 : St HS (AS :: (one p_loops (.lst ws_loops)) :: m_bag_here :: (one p_edge_here (.lst ws_edge_here)) :: (one p_rows_here (.lst ws_rows_here)) :: R) := S.pick 3 (Nat.le_of_ble_eq_true rfl)
  have S218 : St HS (AS :: (one p_rows_here (.lst ws_rows_here)) :: (one p_loops (.lst ws_loops)) :: m_bag_here :: (one p_edge_here (.lst ws_edge_here)) :: R) := S217.pick 3 (Nat.le_of_ble_eq_true rfl)
  have S219 : St HS (AS :: (one p_edge_here (.lst ws_edge_here)) :: (one p_rows_here (.lst ws_rows_here)) :: (one p_loops (.lst ws_loops)) :: m_bag_here :: R) := S218.pick 3 (Nat.le_of_ble_eq_true rfl)
  exact h (AS) (HS) (p_edge_here) (ws_edge_here) (ws_loops) (m_bag_here) e0 S219 h_edge_here h_loops h_bag_here
theorem wk_law_edge_by_s1 {T : Cs} {K : PySem.W.Frag} {A AS HS : Hp} {R : List Hp} {Q : VK} {E : XK} {x_rows_here : (List (Option (Int × (List Int))))} {p_rows_here : Addr} {ws_rows_here : List V} {x_loops : (List (Int × (List Int)))} {p_loops : Addr} {ws_loops : List V} {x_rank_here : Int} {x_bag_here : Bag} {m_bag_here : Hp} {v_bag_here : V} {x_number : Int} {x_edge_here : (List Int)} {p_edge_here : Addr} {ws_edge_here : List V} {x_beneath : (List (List Int))} {v_beneath : V} {o7 : Option V} {o8 : Option V} {o9 : Option V} {o10 : Option V} {o11 : Option V}  (e0 : Same A AS) (S : St HS (AS :: m_bag_here :: (one p_edge_here (.lst ws_edge_here)) :: (one p_rows_here (.lst ws_rows_here)) :: (one p_loops (.lst ws_loops)) :: R)) (h_rows_here : OL AS ws_rows_here x_rows_here) (h_loops : OL AS ws_loops x_loops) (h_bag_here : Ob.isAt T AS m_bag_here v_bag_here x_bag_here) (h_edge_here : OL AS ws_edge_here x_edge_here) (h_beneath : Is AS v_beneath x_beneath) (h : (m_law_edge_by_s1 x_rows_here x_loops x_rank_here x_bag_here x_number x_edge_here x_beneath).wp (fun y => ∀ (A' H' : Hp) (p : Addr) (ws : List V) (ws1 : List V) (m3 : Hp), Same A A' → St H' (A' :: one p (.lst ws) :: (one p_rows_here (.lst ws_rows_here)) :: one p_loops (.lst ws1) :: m3 :: R) → OL A' ws y.1 → OL A' ws1 y.2.1 → Ob.isAt T A' m3 v_bag_here y.2.2 → Q (.ref p) H') (fun _ _ => False)) : rd_law_edge_by_s1 T K E { nx := fun _ H' => Q .non H', rt := Q } [some (.ref p_rows_here), some (.ref p_loops), some (.int x_rank_here), some v_bag_here, some (.int x_number), some (.ref p_edge_here), some v_beneath, o7, o8, o9, o10, o11] HS := by
  unfold m_law_edge_by_s1 at h
  unfold rd_law_edge_by_s1
  refine q_forR1 ?_
  refine c_cons (c_op (c_tlst (c_cons (c_c (c_cons (c_c (c_cons (c_c (c_cons (c_c (c_cons (c_c (c_cons (c_c (c_cons (c_c (c_cons (c_c (c_nil (c_lst (α := Int) (vs := [(.int 2), (.int 2), (.int 2), (.int 2), (.int 0), (.int 1), (.int 3), (.int 4)]) (xs := [(2 : Int), (2 : Int), (2 : Int), (2 : Int), (0 : Int), (1 : Int), (3 : Int), (4 : Int)]) (Nat.le_of_ble_eq_true rfl) ⟨rfl, ⟨rfl, ⟨rfl, ⟨rfl, ⟨rfl, ⟨rfl, ⟨rfl, ⟨rfl, trivial⟩⟩⟩⟩⟩⟩⟩⟩ (ow S fun p74 ws75 H76 S77 h78 => ?_)))))))))))))))))))))
  have S79 : St H76 (AS :: m_bag_here :: (one p74 (.lst ws75)) :: (one p_edge_here (.lst ws_edge_here)) :: (one p_rows_here (.lst ws_rows_here)) :: (one p_loops (.lst ws_loops)) :: R) := S77.pick 1 (Nat.le_of_ble_eq_true rfl)
  refine c_call (c_cons (c_var rfl (c_cons (c_c (c_nil (⟨AS, ((one p74 (.lst ws75)) :: (one p_edge_here (.lst ws_edge_here)) :: (one p_rows_here (.lst ws_rows_here)) :: (one p_loops (.lst ws_loops)) :: R), m_bag_here, v_bag_here, x_bag_here, (8 : Int), rfl, S79, h_bag_here, ?_⟩))))))
  refine Res.wp_mono (Res.wp_noex (Res.wp_bind h)) (fun y80 h A81 H82 m86 e83 S84 h85 => ?_) (fun _ _ h => h.elim)
  have e0 := e0.trans e83
  have h_rows_here := OL.up h_rows_here e83
  have h_loops := OL.up h_loops e83
  have h_edge_here := OL.up h_edge_here e83
  have h_beneath := up h_beneath e83
  have h78 := OL.up h78 e83
  refine c_ixI ⟨_, _, rfl, (S84.mem _ (List.mem_of_getElem? (i := 2) rfl)) _ _ one_same, h78⟩ h fun t87 h => ?_
  refine c_nil (?_)
  refine c_forR1 (A := A81) (s0 := (x_edge_here, y80.2)) (fun (A_ : Hp) (σ_ : L2.St) (R_ : List Hp) (s : (List Int) × Bag) => ∃ (p_edge_here88 : Addr) (ws_edge_here88 : List V) (m_bag_here88 : Hp) (y_k88 : Option V), σ_ = [some (.ref p_rows_here), some (.ref p_loops), some (.int x_rank_here), some v_bag_here, some (.int x_number), some (.ref p_edge_here88), some v_beneath, y_k88, o8, o9, o10, o11] ∧ m_bag_here88 :: (one p74 (.lst ws75)) :: (one p_edge_here88 (.lst ws_edge_here88)) :: (one p_rows_here (.lst ws_rows_here)) :: (one p_loops (.lst ws_loops)) :: R = R_ ∧ OL A_ ws_edge_here88 (s.1 : (List Int)) ∧ Ob.isAt T A_ m_bag_here88 v_bag_here (s.2 : Bag)) S84 (fun Q' q => q) ⟨p_edge_here, ws_edge_here, m86, _, rfl, rfl, h_edge_here, h85⟩ h (fun z89 A91 H92 σ103 R93 s94 C95 N96 hz97a hz97b e98 S99 hR101 hN102 h => ?_) (fun A104 H105 σ111 R106 s107 e108 S109 hR110 h => ?_)
  ·
    have eL112 : Same A81 A81 := Same.refl _
    obtain ⟨p_edge_here88, ws_edge_here88, m_bag_here88, y_k88, rfl, rfl, h113, h114⟩ := hR101
    have e0 := e0.trans e98
    have eL112 := eL112.trans e98
    have h_rows_here := OL.up h_rows_here e98
    have h_loops := OL.up h_loops e98
    have h_beneath := up h_beneath e98
    refine s_when ?_
    refine c_tst (c_op (c_var rfl (c_tlst (c_nil (c_lst (α := (List Int)) (vs := []) (xs := []) (Nat.le_of_ble_eq_true rfl) trivial (ow S99 fun p115 ws116 H117 S118 h119 => ?_))))))
    refine c_neD (α := (List (List Int))) (x := x_beneath) (y := ([] : List (List Int))) (dp_of S118 h_beneath) (dp_la S118 ⟨_, _, rfl, (S118.mem _ (List.mem_of_getElem? (i := 1) rfl)) _ _ one_same, h119⟩) (Nat.le_of_ble_eq_true rfl) (c_bl (?_))
    refine c_if h (fun hc h => ?_) (fun hc h => ?_)
    ·
      refine s_asg ?_
      have S120 : St H117 (A91 :: m_bag_here88 :: (one p115 (.lst ws116)) :: (one p74 (.lst ws75)) :: (one p_edge_here88 (.lst ws_edge_here88)) :: (one p_rows_here (.lst ws_rows_here)) :: (one p_loops (.lst ws_loops)) :: R) := S118.pick 1 (Nat.le_of_ble_eq_true rfl)
      refine c_call (c_cons (c_var rfl (c_cons (c_op (c_var rfl (c_call (c_cons (c_var rfl (c_cons (c_cb (c_cons (c_var rfl (c_nil (c_len (la_of S118 h_beneath) (c_nil (⟨A91, ((one p115 (.lst ws116)) :: (one p74 (.lst ws75)) :: (one p_edge_here88 (.lst ws_edge_here88)) :: (one p_rows_here (.lst ws_rows_here)) :: (one p_loops (.lst ws_loops)) :: R), m_bag_here88, v_bag_here, s94.2, (x_beneath.length : Int), rfl, S120, h114, ?_⟩))))))))))))))))
      refine Res.wp_mono (Res.wp_noex (Res.wp_bind h)) (fun y121 h A122 H123 m127 e124 S125 h126 => ?_) (fun _ _ h => h.elim)
      have e0 := e0.trans e124
      have eL112 := eL112.trans e124
      have h_rows_here := OL.up h_rows_here e124
      have h_loops := OL.up h_loops e124
      have h113 := OL.up h113 e124
      have h_beneath := up h_beneath e124
      refine c_ix (la_of S125 h_beneath) h fun t128 w129 h130 h => ?_
      have S131 : St H123 (A122 :: (one p_edge_here88 (.lst ws_edge_here88)) :: m127 :: (one p115 (.lst ws116)) :: (one p74 (.lst ws75)) :: (one p_rows_here (.lst ws_rows_here)) :: (one p_loops (.lst ws_loops)) :: R) := S125.pick 3 (Nat.le_of_ble_eq_true rfl)
      have h134 := frz_is h113 S131
      have S132 := S131.frz
      have e133 := same_join_l (A := A122) (B := (one p_edge_here88 (.lst ws_edge_here88)))
      refine c_nil (⟨(join A122 (one p_edge_here88 (.lst ws_edge_here88))), (m127 :: (one p115 (.lst ws116)) :: (one p74 (.lst ws75)) :: (one p_rows_here (.lst ws_rows_here)) :: (one p_loops (.lst ws_loops)) :: R), (.ref p_edge_here88), s94.1, w129, t128, rfl, S132, h134, (up h130 e133), ?_⟩)
      refine Res.wp_mono (Res.wp_noex (Res.wp_bind h)) (fun y135 h A136 H137 p140 ws141 e138 S139 h142 => ?_) (fun _ _ h => h.elim)
      have S143 := S139.back1 ((same_join_r S131.dj).trans e138)
      have e144 := same_minus S131 e138
      generalize minus A136 (one p_edge_here88 (.lst ws_edge_here88)) = A145 at S143 e144
      have e0 := e0.trans e144
      have eL112 := eL112.trans e144
      have h_rows_here := OL.up h_rows_here e144
      have h_loops := OL.up h_loops e144
      have h126 := upO h126 e144
      have h113 := OL.up h113 e144
      have h_beneath := up h_beneath e144
      have h142 : OL A145 _ _ := OL.any h142
      have S146 : St H137 (A145 :: (one p140 (.lst ws141)) :: m127 :: (one p115 (.lst ws116)) :: (one p74 (.lst ws75)) :: (one p_rows_here (.lst ws_rows_here)) :: (one p_loops (.lst ws_loops)) :: R) := S143.drop 0 (Nat.le_of_ble_eq_true rfl)
      have S147 : St H137 (A145 :: (one p_loops (.lst ws_loops)) :: (one p140 (.lst ws141)) :: m127 :: (one p115 (.lst ws116)) :: (one p74 (.lst ws75)) :: (one p_rows_here (.lst ws_rows_here)) :: R) := S146.pick 5 (Nat.le_of_ble_eq_true rfl)
      have S148 : St H137 (A145 :: (one p_rows_here (.lst ws_rows_here)) :: (one p_loops (.lst ws_loops)) :: (one p140 (.lst ws141)) :: m127 :: (one p115 (.lst ws116)) :: (one p74 (.lst ws75)) :: R) := S147.pick 5 (Nat.le_of_ble_eq_true rfl)
      have S149 : St H137 (A145 :: (one p140 (.lst ws141)) :: (one p_rows_here (.lst ws_rows_here)) :: (one p_loops (.lst ws_loops)) :: m127 :: (one p115 (.lst ws116)) :: (one p74 (.lst ws75)) :: R) := S148.pick 2 (Nat.le_of_ble_eq_true rfl)
      have S150 : St H137 (A145 :: (one p74 (.lst ws75)) :: (one p140 (.lst ws141)) :: (one p_rows_here (.lst ws_rows_here)) :: (one p_loops (.lst ws_loops)) :: m127 :: (one p115 (.lst ws116)) :: R) := S149.pick 5 (Nat.le_of_ble_eq_true rfl)
      have S151 : St H137 (A145 :: m127 :: (one p74 (.lst ws75)) :: (one p140 (.lst ws141)) :: (one p_rows_here (.lst ws_rows_here)) :: (one p_loops (.lst ws_loops)) :: (one p115 (.lst ws116)) :: R) := S150.pick 4 (Nat.le_of_ble_eq_true rfl)
      have S152 : St H137 (A145 :: m127 :: (one p74 (.lst ws75)) :: (one p140 (.lst ws141)) :: (one p_rows_here (.lst ws_rows_here)) :: (one p_loops (.lst ws_loops)) :: R) := S151.drop 5 (Nat.le_of_ble_eq_true rfl)
      exact hN102 _ _ _ _ (y135, y121.2) eL112 S152 ⟨p140, ws141, m127, _, rfl, rfl, h142, h126⟩ h
    ·
      have S153 : St H117 (A91 :: (one p_loops (.lst ws_loops)) :: (one p115 (.lst ws116)) :: m_bag_here88 :: (one p74 (.lst ws75)) :: (one p_edge_here88 (.lst ws_edge_here88)) :: (one p_rows_here (.lst ws_rows_here)) :: R) := S118.pick 5 (Nat.le_of_ble_eq_true rfl)
      have S154 : St H117 (A91 :: (one p_rows_here (.lst ws_rows_here)) :: (one p_loops (.lst ws_loops)) :: (one p115 (.lst ws116)) :: m_bag_here88 :: (one p74 (.lst ws75)) :: (one p_edge_here88 (.lst ws_edge_here88)) :: R) := S153.pick 5 (Nat.le_of_ble_eq_true rfl)
      have S155 : St H117 (A91 :: (one p_edge_here88 (.lst ws_edge_here88)) :: (one p_rows_here (.lst ws_rows_here)) :: (one p_loops (.lst ws_loops)) :: (one p115 (.lst ws116)) :: m_bag_here88 :: (one p74 (.lst ws75)) :: R) := S154.pick 5 (Nat.le_of_ble_eq_true rfl)
      have S156 : St H117 (A91 :: (one p74 (.lst ws75)) :: (one p_edge_here88 (.lst ws_edge_here88)) :: (one p_rows_here (.lst ws_rows_here)) :: (one p_loops (.lst ws_loops)) :: (one p115 (.lst ws116)) :: m_bag_here88 :: R) := S155.pick 5 (Nat.le_of_ble_eq_true rfl)
      have S157 : St H117 (A91 :: m_bag_here88 :: (one p74 (.lst ws75)) :: (one p_edge_here88 (.lst ws_edge_here88)) :: (one p_rows_here (.lst ws_rows_here)) :: (one p_loops (.lst ws_loops)) :: (one p115 (.lst ws116)) :: R) := S156.pick 5 (Nat.le_of_ble_eq_true rfl)
      have S158 : St H117 (A91 :: m_bag_here88 :: (one p74 (.lst ws75)) :: (one p_edge_here88 (.lst ws_edge_here88)) :: (one p_rows_here (.lst ws_rows_here)) :: (one p_loops (.lst ws_loops)) :: R) := S157.drop 5 (Nat.le_of_ble_eq_true rfl)
      exact hN102 _ _ _ _ (s94.1, s94.2) eL112 S158 ⟨p_edge_here88, ws_edge_here88, m_bag_here88, _, rfl, rfl, h113, h114⟩ h
  ·
    refine nx_mk ?_
    obtain ⟨p_edge_here88, ws_edge_here88, m_bag_here88, y_k88, rfl, rfl, h159, h160⟩ := hR110
    have e0 := e0.trans e108
    have h_rows_here := OL.up h_rows_here e108
    have h_loops := OL.up h_loops e108
    have h_beneath := up h_beneath e108
    refine q_cut (A := A104) (fun (A_ : Hp) (σ_ : L2.St) (R_ : List Hp) (s : (List (Int × (List Int)))) => ∃ (ws_loops161 : List V), σ_ = [some (.ref p_rows_here), some (.ref p_loops), some (.int x_rank_here), some v_bag_here, some (.int x_number), some (.ref p_edge_here88), some v_beneath, y_k88, o8, o9, o10, o11] ∧ m_bag_here88 :: (one p74 (.lst ws75)) :: (one p_edge_here88 (.lst ws_edge_here88)) :: (one p_rows_here (.lst ws_rows_here)) :: (one p_loops (.lst ws_loops161)) :: R = R_ ∧ OL A_ ws_loops161 (s : (List (Int × (List Int))))) h (fun C162 N163 hN164 h => ?_) (fun A165 H166 σ172 R167 s168 e169 S170 hR171 h => ?_)
    ·
      have eK173 : Same A104 A104 := Same.refl _
      refine s_when ?_
      refine c_tst (c_op (c_var rfl (c_tlst (c_nil (c_lst (α := Int) (vs := []) (xs := []) (Nat.le_of_ble_eq_true rfl) trivial (ow S109 fun p174 ws175 H176 S177 h178 => ?_))))))
      refine c_eqD (α := (List Int)) (x := s107.1) (y := ([] : List Int)) (dp_la S177 ⟨_, _, rfl, (S177.mem _ (List.mem_of_getElem? (i := 4) rfl)) _ _ one_same, h159⟩) (dp_la S177 ⟨_, _, rfl, (S177.mem _ (List.mem_of_getElem? (i := 1) rfl)) _ _ one_same, h178⟩) (Nat.le_of_ble_eq_true rfl) (c_bl (?_))
      refine c_if h (fun hc h => ?_) (fun hc h => ?_)
      ·
        refine s_drop (c_bm (c_var rfl (c_and2 (.inl ⟨rfl, _, SqL.of ((S177.mem _ (List.mem_of_getElem? (i := 6) rfl)) _ _ one_same)⟩) (c_cons (c_ttup (c_cons (c_var rfl (c_cons (c_tlst (c_cons (c_var rfl (c_nil (c_lst (α := Int) (vs := [(.int x_number)]) (xs := [x_number]) (Nat.le_of_ble_eq_true rfl) ⟨rfl, trivial⟩ (ow S177 fun p179 ws180 H181 S182 h183 => ?_))))))))))))))
        have h185 := frz_is h183 S182
        have S186 := S182.frz
        have e184 := same_join_l (A := A104) (B := (one p179 (.lst ws180)))
        generalize hjA187 : join A104 (one p179 (.lst ws180)) = A187 at h185 S186 e184
        clear hjA187
        have e0 := e0.trans e184
        have eK173 := eK173.trans e184
        have h_rows_here := OL.up h_rows_here e184
        have h_loops := OL.up h_loops e184
        have h160 := upO h160 e184
        have h159 := OL.up h159 e184
        have h_beneath := up h_beneath e184
        refine c_nil (c_tup (α := Int) (β := (List Int)) (x := x_rank_here) (y := [x_number]) S186 rfl h185 fun p188 A189 H190 e191 S192 h193 => ?_)
        have e0 := e0.trans e191
        have eK173 := eK173.trans e191
        have h_rows_here := OL.up h_rows_here e191
        have h_loops := OL.up h_loops e191
        have h160 := upO h160 e191
        have h159 := OL.up h159 e191
        have h_beneath := up h_beneath e191
        refine c_nil (?_)
        have S194 : St H190 (A189 :: (one p_loops (.lst ws_loops)) :: (one p174 (.lst ws175)) :: m_bag_here88 :: (one p74 (.lst ws75)) :: (one p_edge_here88 (.lst ws_edge_here88)) :: (one p_rows_here (.lst ws_rows_here)) :: R) := S192.pick 5 (Nat.le_of_ble_eq_true rfl)
        refine c_app (x := (x_rank_here, [x_number])) S194 h_loops h193 h fun t195 ws199 h H198 S197 h196 => ?_
        have S200 : St H198 (A189 :: (one p_rows_here (.lst ws_rows_here)) :: (one p_loops (.lst ws199)) :: (one p174 (.lst ws175)) :: m_bag_here88 :: (one p74 (.lst ws75)) :: (one p_edge_here88 (.lst ws_edge_here88)) :: R) := S197.pick 5 (Nat.le_of_ble_eq_true rfl)
        have S201 : St H198 (A189 :: (one p_edge_here88 (.lst ws_edge_here88)) :: (one p_rows_here (.lst ws_rows_here)) :: (one p_loops (.lst ws199)) :: (one p174 (.lst ws175)) :: m_bag_here88 :: (one p74 (.lst ws75)) :: R) := S200.pick 5 (Nat.le_of_ble_eq_true rfl)
        have S202 : St H198 (A189 :: (one p74 (.lst ws75)) :: (one p_edge_here88 (.lst ws_edge_here88)) :: (one p_rows_here (.lst ws_rows_here)) :: (one p_loops (.lst ws199)) :: (one p174 (.lst ws175)) :: m_bag_here88 :: R) := S201.pick 5 (Nat.le_of_ble_eq_true rfl)
        have S203 : St H198 (A189 :: m_bag_here88 :: (one p74 (.lst ws75)) :: (one p_edge_here88 (.lst ws_edge_here88)) :: (one p_rows_here (.lst ws_rows_here)) :: (one p_loops (.lst ws199)) :: (one p174 (.lst ws175)) :: R) := S202.pick 5 (Nat.le_of_ble_eq_true rfl)
        have S204 : St H198 (A189 :: m_bag_here88 :: (one p74 (.lst ws75)) :: (one p_edge_here88 (.lst ws_edge_here88)) :: (one p_rows_here (.lst ws_rows_here)) :: (one p_loops (.lst ws199)) :: R) := S203.drop 5 (Nat.le_of_ble_eq_true rfl)
        exact hN164 _ _ _ _ t195 eK173 S204 ⟨ws199, rfl, rfl, h196⟩ h
      ·
        have S205 : St H176 (A104 :: (one p_loops (.lst ws_loops)) :: (one p174 (.lst ws175)) :: m_bag_here88 :: (one p74 (.lst ws75)) :: (one p_edge_here88 (.lst ws_edge_here88)) :: (one p_rows_here (.lst ws_rows_here)) :: R) := S177.pick 5 (Nat.le_of_ble_eq_true rfl)
        have S206 : St H176 (A104 :: (one p_rows_here (.lst ws_rows_here)) :: (one p_loops (.lst ws_loops)) :: (one p174 (.lst ws175)) :: m_bag_here88 :: (one p74 (.lst ws75)) :: (one p_edge_here88 (.lst ws_edge_here88)) :: R) := S205.pick 5 (Nat.le_of_ble_eq_true rfl)
        have S207 : St H176 (A104 :: (one p_edge_here88 (.lst ws_edge_here88)) :: (one p_rows_here (.lst ws_rows_here)) :: (one p_loops (.lst ws_loops)) :: (one p174 (.lst ws175)) :: m_bag_here88 :: (one p74 (.lst ws75)) :: R) := S206.pick 5 (Nat.le_of_ble_eq_true rfl)
        have S208 : St H176 (A104 :: (one p74 (.lst ws75)) :: (one p_edge_here88 (.lst ws_edge_here88)) :: (one p_rows_here (.lst ws_rows_here)) :: (one p_loops (.lst ws_loops)) :: (one p174 (.lst ws175)) :: m_bag_here88 :: R) := S207.pick 5 (Nat.le_of_ble_eq_true rfl)
        have S209 : St H176 (A104 :: m_bag_here88 :: (one p74 (.lst ws75)) :: (one p_edge_here88 (.lst ws_edge_here88)) :: (one p_rows_here (.lst ws_rows_here)) :: (one p_loops (.lst ws_loops)) :: (one p174 (.lst ws175)) :: R) := S208.pick 5 (Nat.le_of_ble_eq_true rfl)
        have S210 : St H176 (A104 :: m_bag_here88 :: (one p74 (.lst ws75)) :: (one p_edge_here88 (.lst ws_edge_here88)) :: (one p_rows_here (.lst ws_rows_here)) :: (one p_loops (.lst ws_loops)) :: R) := S209.drop 5 (Nat.le_of_ble_eq_true rfl)
        exact hN164 _ _ _ _ x_loops eK173 S210 ⟨ws_loops, rfl, rfl, h_loops⟩ h
    ·
      obtain ⟨ws_loops161, rfl, rfl, h211⟩ := hR171
      have e0 := e0.trans e169
      have h_rows_here := OL.up h_rows_here e169
      have h160 := upO h160 e169
      have h159 := OL.up h159 e169
      have h_beneath := up h_beneath e169
      have S212 : St H166 (A165 :: (one p_loops (.lst ws_loops161)) :: m_bag_here88 :: (one p74 (.lst ws75)) :: (one p_edge_here88 (.lst ws_edge_here88)) :: (one p_rows_here (.lst ws_rows_here)) :: R) := S170.pick 4 (Nat.le_of_ble_eq_true rfl)
      have S213 : St H166 (A165 :: (one p_rows_here (.lst ws_rows_here)) :: (one p_loops (.lst ws_loops161)) :: m_bag_here88 :: (one p74 (.lst ws75)) :: (one p_edge_here88 (.lst ws_edge_here88)) :: R) := S212.pick 4 (Nat.le_of_ble_eq_true rfl)
      have S214 : St H166 (A165 :: (one p_edge_here88 (.lst ws_edge_here88)) :: (one p_rows_here (.lst ws_rows_here)) :: (one p_loops (.lst ws_loops161)) :: m_bag_here88 :: (one p74 (.lst ws75)) :: R) := S213.pick 4 (Nat.le_of_ble_eq_true rfl)
      have S215 : St H166 (A165 :: m_bag_here88 :: (one p_edge_here88 (.lst ws_edge_here88)) :: (one p_rows_here (.lst ws_rows_here)) :: (one p_loops (.lst ws_loops161)) :: (one p74 (.lst ws75)) :: R) := S214.pick 3 (Nat.le_of_ble_eq_true rfl)
      have S216 : St H166 (A165 :: m_bag_here88 :: (one p_edge_here88 (.lst ws_edge_here88)) :: (one p_rows_here (.lst ws_rows_here)) :: (one p_loops (.lst ws_loops161)) :: R) := S215.drop 4 (Nat.le_of_ble_eq_true rfl)
      exact wk_law_edge_by_s2 (T := T) (K := K) (E := E)  e0 S216 h_rows_here h211 h160 h159 h
theorem wk_law_edge_by_s3 {T : Cs} {K : PySem.W.Frag} {A AS HS : Hp} {R : List Hp} {Q : VK} {E : XK} {x_rows_here : (List (Option (Int × (List Int))))} {p_rows_here : Addr} {ws_rows_here : List V} {x_loops : (List (Int × (List Int)))} {p_loops : Addr} {ws_loops : List V} {x_rank_here : Int} {x_bag_here : Bag} {m_bag_here : Hp} {v_bag_here : V} {x_number : Int} {x_kin : (List Int)} {v_kin : V} {o5 : Option V} {o6 : Option V} {o7 : Option V} {o9 : Option V} {o10 : Option V} {o11 : Option V}  (e0 : Same A AS) (S : St HS (AS :: (one p_rows_here (.lst ws_rows_here)) :: m_bag_here :: (one p_loops (.lst ws_loops)) :: R)) (h_rows_here : OL AS ws_rows_here x_rows_here) (h_loops : OL AS ws_loops x_loops) (h_bag_here : Ob.isAt T AS m_bag_here v_bag_here x_bag_here) (h_kin : Is AS v_kin x_kin) (h : (m_law_edge_by_s3 x_rows_here x_loops x_rank_here x_bag_here x_number x_kin).wp (fun y => ∀ (A' H' : Hp) (p : Addr) (ws : List V) (ws1 : List V) (m3 : Hp), Same A A' → St H' (A' :: one p (.lst ws) :: (one p_rows_here (.lst ws_rows_here)) :: one p_loops (.lst ws1) :: m3 :: R) → OL A' ws y.1 → OL A' ws1 y.2.1 → Ob.isAt T A' m3 v_bag_here y.2.2 → Q (.ref p) H') (fun _ _ => False)) : rd_law_edge_by_s3 T K E { nx := fun _ H' => Q .non H', rt := Q } [some (.ref p_rows_here), some (.ref p_loops), some (.int x_rank_here), some v_bag_here, some (.int x_number), o5, o6, o7, some v_kin, o9, o10, o11] HS := by
  unfold m_law_edge_by_s3 at h
  unfold rd_law_edge_by_s3
  refine q_asg ?_
  have S289 : St HS (AS :: m_bag_here :: (one p_rows_here (.lst ws_rows_here)) :: (one p_loops (.lst ws_loops)) :: R) := S.pick 1 (Nat.le_of_ble_eq_true rfl)
  refine c_call (c_cons (c_var rfl (c_cons (c_var rfl (c_nil (⟨AS, ((one p_rows_here (.lst ws_rows_here)) :: (one p_loops (.lst ws_loops)) :: R), m_bag_here, v_bag_here, x_bag_here, v_kin, x_kin, rfl, S289, h_bag_here, h_kin, ?_⟩))))))
  refine Res.wp_mono (Res.wp_noex (Res.wp_bind h)) (fun y290 h A291 H292 p295 ws296 m299 e293 S294 h297 h298 => ?_) (fun _ _ h => h.elim)
  have e0 := e0.trans e293
  have h_rows_here := OL.up h_rows_here e293
  have h_loops := OL.up h_loops e293
  have h_kin := up h_kin e293
  have h301 := frz_is h297 S294
  have S302 := S294.frz
  have e300 := same_join_l (A := A291) (B := (one p295 (.lst ws296)))
  generalize hjA303 : join A291 (one p295 (.lst ws296)) = A303 at h301 S302 e300
  clear hjA303
  have e0 := e0.trans e300
  have h_rows_here := OL.up h_rows_here e300
  have h_loops := OL.up h_loops e300
  have h298 := upO h298 e300
  have h_kin := up h_kin e300
  refine q_drop (c_bm (c_var rfl (c_and2 (.inl ⟨rfl, _, SqL.of ((S302.mem _ (List.mem_of_getElem? (i := 3) rfl)) _ _ one_same)⟩) (c_cons (c_ttup (c_cons (c_var rfl (c_cons (c_op (c_var rfl (c_tlst (c_cons (c_var rfl (c_nil (c_lst (α := Int) (vs := [(.int x_number)]) (xs := [x_number]) (Nat.le_of_ble_eq_true rfl) ⟨rfl, trivial⟩ (ow S302 fun p304 ws305 H306 S307 h308 => ?_))))))))))))))))
  refine c_cat (la_of S307 h301) ⟨_, _, rfl, (S307.mem _ (List.mem_of_getElem? (i := 1) rfl)) _ _ one_same, h308⟩ h fun t309 h => (ow S307 fun p310 ws311 H312 S313 h314 => ?_)
  have h316 := frz_is h314 S313
  have S317 := S313.frz
  have e315 := same_join_l (A := A303) (B := (one p310 (.lst ws311)))
  generalize hjA318 : join A303 (one p310 (.lst ws311)) = A318 at h316 S317 e315
  clear hjA318
  have e0 := e0.trans e315
  have h_rows_here := OL.up h_rows_here e315
  have h_loops := OL.up h_loops e315
  have h298 := upO h298 e315
  have h_kin := up h_kin e315
  have h301 := up h301 e315
  refine c_nil (c_tup (α := Int) (β := (List Int)) (x := x_rank_here) (y := t309) S317 rfl h316 fun p319 A320 H321 e322 S323 h324 => ?_)
  have e0 := e0.trans e322
  have h_rows_here := OL.up h_rows_here e322
  have h_loops := OL.up h_loops e322
  have h298 := upO h298 e322
  have h_kin := up h_kin e322
  have h301 := up h301 e322
  refine c_nil (?_)
  have S325 : St H321 (A320 :: (one p_loops (.lst ws_loops)) :: (one p304 (.lst ws305)) :: m299 :: (one p_rows_here (.lst ws_rows_here)) :: R) := S323.pick 3 (Nat.le_of_ble_eq_true rfl)
  refine c_app (x := (x_rank_here, t309)) S325 h_loops h324 h fun t326 ws330 h H329 S328 h327 => ?_
  refine s_ret ?_
  have S331 : St H329 (A320 :: (one p_rows_here (.lst ws_rows_here)) :: (one p_loops (.lst ws330)) :: (one p304 (.lst ws305)) :: m299 :: R) := S328.pick 3 (Nat.le_of_ble_eq_true rfl)
  have h334 := frz_is h_rows_here S331
  have S332 := S331.frz
  have e333 := same_join_l (A := A320) (B := (one p_rows_here (.lst ws_rows_here)))
  refine c_call (c_cons (c_var rfl (c_cons (c_var rfl (c_nil (⟨(join A320 (one p_rows_here (.lst ws_rows_here))), ((one p_loops (.lst ws330)) :: (one p304 (.lst ws305)) :: m299 :: R), (.ref p_rows_here), x_rows_here, (.ref p295), y290.1, rfl, S332, h334, (up h301 e333), ?_⟩))))))
  refine Res.wp_mono (Res.wp_noex (Res.wp_bind h)) (fun y335 h A336 H337 p340 ws341 e338 S339 h342 => ?_) (fun _ _ h => h.elim)
  have S343 := S339.back1 ((same_join_r S331.dj).trans e338)
  have e344 := same_minus S331 e338
  generalize minus A336 (one p_rows_here (.lst ws_rows_here)) = A345 at S343 e344
  have e0 := e0.trans e344
  have h_rows_here := OL.up h_rows_here e344
  have h327 := OL.up h327 e344
  have h298 := upO h298 e344
  have h_kin := up h_kin e344
  have h301 := up h301 e344
  have h342 : OL A345 _ _ := OL.any h342
  have S346 : St H337 (A345 :: m299 :: (one p_rows_here (.lst ws_rows_here)) :: (one p340 (.lst ws341)) :: (one p_loops (.lst ws330)) :: (one p304 (.lst ws305)) :: R) := S343.pick 4 (Nat.le_of_ble_eq_true rfl)
  have S347 : St H337 (A345 :: (one p_loops (.lst ws330)) :: m299 :: (one p_rows_here (.lst ws_rows_here)) :: (one p340 (.lst ws341)) :: (one p304 (.lst ws305)) :: R) := S346.pick 3 (Nat.le_of_ble_eq_true rfl)
  have S348 : St H337 (A345 :: (one p_rows_here (.lst ws_rows_here)) :: (one p_loops (.lst ws330)) :: m299 :: (one p340 (.lst ws341)) :: (one p304 (.lst ws305)) :: R) := S347.pick 2 (Nat.le_of_ble_eq_true rfl)
  have S349 : St H337 (A345 :: (one p340 (.lst ws341)) :: (one p_rows_here (.lst ws_rows_here)) :: (one p_loops (.lst ws330)) :: m299 :: (one p304 (.lst ws305)) :: R) := S348.pick 3 (Nat.le_of_ble_eq_true rfl)
  have S350 : St H337 (A345 :: (one p340 (.lst ws341)) :: (one p_rows_here (.lst ws_rows_here)) :: (one p_loops (.lst ws330)) :: m299 :: R) := S349.drop 4 (Nat.le_of_ble_eq_true rfl)
  exact h (A345) (H337) (p340) (ws341) (ws330) (m299) e0 S350 h342 h327 h298
theorem wk_law_edge_by {T : Cs} {K : PySem.W.Frag} {vs : List V} {H : Hp} {Q : VK} {E : XK}  (h : sp_law_edge_by T K vs H Q E) : rd_law_edge_by T K E { nx := fun _ H' => Q .non H', rt := Q } (L2.start ["_law_rows_here", "_law_loops", "_law_rank_here", "_law_bag_here", "_law_number", "_law_edge_here", "_law_beneath", "_law_k", "_law_kin", "_law_chosen", "_law_at", "_law_one"] vs) H := by
  obtain ⟨A, R, p_rows_here, ws_rows_here, x_rows_here, p_loops, ws_loops, x_loops, x_rank_here, m_bag_here, v_bag_here, x_bag_here, rfl, S, h_rows_here, h_loops, h_bag_here, h⟩ := h
  unfold m_law_edge_by at h
  unfold rd_law_edge_by
  have e0 : Same A A := Same.refl _
  refine q_asg ?_
  refine c_cb (c_cons (c_var rfl (c_nil (c_len ⟨_, _, rfl, (S.mem _ (List.mem_of_getElem? (i := 1) rfl)) _ _ one_same, h_rows_here⟩ (?_)))))
  refine q_asg ?_
  refine c_tlst (c_nil (c_lst (α := Int) (vs := []) (xs := []) (Nat.le_of_ble_eq_true rfl) trivial (ow S fun p1 ws2 H3 S4 h5 => ?_)))
  refine q_when ?_
  refine c_tst (c_op (c_var rfl (c_c (c_eqI (c_bl (?_))))))
  refine c_if h (fun hc h => ?_) (fun hc h => ?_)
  ·
    refine q_drop (c_bm (c_var rfl (c_and2 (.inl ⟨rfl, _, SqL.of ((S4.mem _ (List.mem_of_getElem? (i := 3) rfl)) _ _ one_same)⟩) (c_cons (c_ttup (c_cons (c_c (c_cons (c_tlst (c_cons (c_var rfl (c_nil (c_lst (α := Int) (vs := [(.int (x_rows_here.length : Int))]) (xs := [(x_rows_here.length : Int)]) (Nat.le_of_ble_eq_true rfl) ⟨rfl, trivial⟩ (ow S4 fun p6 ws7 H8 S9 h10 => ?_))))))))))))))
    have h12 := frz_is h10 S9
    have S13 := S9.frz
    have e11 := same_join_l (A := A) (B := (one p6 (.lst ws7)))
    generalize hjA14 : join A (one p6 (.lst ws7)) = A14 at h12 S13 e11
    clear hjA14
    have e0 := e0.trans e11
    have h_rows_here := OL.up h_rows_here e11
    have h_loops := OL.up h_loops e11
    have h_bag_here := upO h_bag_here e11
    have h5 := OL.up h5 e11
    refine c_nil (c_tup (α := Int) (β := (List Int)) (x := (0 : Int)) (y := [(x_rows_here.length : Int)]) S13 rfl h12 fun p15 A16 H17 e18 S19 h20 => ?_)
    have e0 := e0.trans e18
    have h_rows_here := OL.up h_rows_here e18
    have h_loops := OL.up h_loops e18
    have h_bag_here := upO h_bag_here e18
    have h5 := OL.up h5 e18
    refine c_nil (?_)
    have S21 : St H17 (A16 :: (one p_loops (.lst ws_loops)) :: (one p1 (.lst ws2)) :: (one p_rows_here (.lst ws_rows_here)) :: m_bag_here :: R) := S19.pick 2 (Nat.le_of_ble_eq_true rfl)
    refine c_app (x := ((0 : Int), [(x_rows_here.length : Int)])) S21 h_loops h20 h fun t22 ws26 h H25 S24 h23 => ?_
    refine s_ret ?_
    refine c_var rfl (?_)
    have S27 : St H25 (A16 :: m_bag_here :: (one p_loops (.lst ws26)) :: (one p1 (.lst ws2)) :: (one p_rows_here (.lst ws_rows_here)) :: R) := S24.pick 3 (Nat.le_of_ble_eq_true rfl)
    have S28 : St H25 (A16 :: (one p_loops (.lst ws26)) :: m_bag_here :: (one p1 (.lst ws2)) :: (one p_rows_here (.lst ws_rows_here)) :: R) := S27.pick 1 (Nat.le_of_ble_eq_true rfl)
    have S29 : St H25 (A16 :: (one p_rows_here (.lst ws_rows_here)) :: (one p_loops (.lst ws26)) :: m_bag_here :: (one p1 (.lst ws2)) :: R) := S28.pick 3 (Nat.le_of_ble_eq_true rfl)
    have S30 : St H25 (A16 :: (one p1 (.lst ws2)) :: (one p_rows_here (.lst ws_rows_here)) :: (one p_loops (.lst ws26)) :: m_bag_here :: R) := S29.pick 3 (Nat.le_of_ble_eq_true rfl)
    exact h (A16) (H25) (p1) (ws2) (ws26) (m_bag_here) e0 S30 h5 h23 h_bag_here
  ·
    refine q_when ?_
    have S31 : St H3 (A :: m_bag_here :: (one p1 (.lst ws2)) :: (one p_rows_here (.lst ws_rows_here)) :: (one p_loops (.lst ws_loops)) :: R) := S4.pick 3 (Nat.le_of_ble_eq_true rfl)
    refine c_tst (c_op (c_call (c_cons (c_var rfl (c_cons (c_c (c_nil (⟨A, ((one p1 (.lst ws2)) :: (one p_rows_here (.lst ws_rows_here)) :: (one p_loops (.lst ws_loops)) :: R), m_bag_here, v_bag_here, x_bag_here, (5 : Int), rfl, S31, h_bag_here, ?_⟩))))))))
    refine Res.wp_mono (Res.wp_noex (Res.wp_bind h)) (fun y32 h A33 H34 m38 e35 S36 h37 => ?_) (fun _ _ h => h.elim)
    have e0 := e0.trans e35
    have h_rows_here := OL.up h_rows_here e35
    have h_loops := OL.up h_loops e35
    have h5 := OL.up h5 e35
    refine c_c (c_I0 (c_bl (?_)))
    refine c_if h (fun hc h => ?_) (fun hc h => ?_)
    ·
      refine q_asg ?_
      refine c_lcE ?_
      refine c_var rfl (?_)
      refine c_lcGP (A := A33) (R := m38 :: (one p1 (.lst ws2)) :: (one p_rows_here (.lst ws_rows_here)) :: (one p_loops (.lst ws_loops)) :: R) (tt := (tTest (tOp rEq (tVar 10) (tOp (rI0 fun i j => .int (i - j)) (tVar 2) (tC (.int 1)))))) (te := (tVar 11)) (vs := [10, 11]) (j1 := 10) (j2 := 11) (fun (A_ : Hp) (R_ : List Hp) (s : Unit) => m38 :: (one p1 (.lst ws2)) :: (one p_rows_here (.lst ws_rows_here)) :: (one p_loops (.lst ws_loops)) :: R = R_) S36 (fun Q' q => q) h_loops (fun A' R' s e hR => by obtain rfl := hR; exact .inr ⟨_, List.mem_of_getElem? (i := 3) rfl, one_same⟩) rfl h (fun _ _ => rfl) (fun z40 w41 w42 A43 H44 R45 s46 n47 C48 K1_49 K0_50 hz51 h57 h58 e52 S53 hR54 hK55 hK56 h => ?_) (fun p61 A62 H63 R64 ws65 y60 h e66 S67 hR68 h69 => ?_)
      ·
        have eC59 : Same A43 A43 := Same.refl _
        obtain rfl := hR54
        have e0 := e0.trans e52
        have h_rows_here := OL.up h_rows_here e52
        have h_loops := OL.up h_loops e52
        have h37 := upO h37 e52
        have h5 := OL.up h5 e52
        obtain rfl : w41 = (.int z40.1) := h57
        refine c_tst (c_op (c_var rfl (c_op (c_var rfl (c_c (c_I0 (c_eqI (c_bl (?_)))))))))
        refine c_if h (fun hc h => ?_) (fun hc h => ?_)
        ·
          refine c_var rfl (?_)
          exact hK55 _ _ _ z40.2 _ () eC59 S53 rfl h58 h
        ·
          exact hK56 _ _ _ () eC59 S53 rfl h
      ·
        obtain rfl := hR68
        have e0 := e0.trans e66
        have h_rows_here := OL.up h_rows_here e66
        have h_loops := OL.up h_loops e66
        have h37 := upO h37 e66
        have h5 := OL.up h5 e66
        have h71 := frz_is h69 S67
        have S72 := S67.frz
        have e70 := same_join_l (A := A62) (B := (one p61 (.lst ws65)))
        generalize hjA73 : join A62 (one p61 (.lst ws65)) = A73 at h71 S72 e70
        clear hjA73
        have e0 := e0.trans e70
        have h_rows_here := OL.up h_rows_here e70
        have h_loops := OL.up h_loops e70
        have h37 := upO h37 e70
        have h5 := OL.up h5 e70
        exact wk_law_edge_by_s1 (T := T) (K := K) (E := E)  e0 S72 h_rows_here h_loops h37 h5 h71 h
    ·
      refine q_asg ?_
      refine c_lcE ?_
      have S224 : St H34 (A33 :: (one p_rows_here (.lst ws_rows_here)) :: m38 :: (one p1 (.lst ws2)) :: (one p_loops (.lst ws_loops)) :: R) := S36.pick 2 (Nat.le_of_ble_eq_true rfl)
      have h227 := frz_is h_rows_here S224
      have S225 := S224.frz
      have e226 := same_join_l (A := A33) (B := (one p_rows_here (.lst ws_rows_here)))
      refine c_call (c_cons (c_var rfl (c_nil (⟨(join A33 (one p_rows_here (.lst ws_rows_here))), (m38 :: (one p1 (.lst ws2)) :: (one p_loops (.lst ws_loops)) :: R), (.ref p_rows_here), x_rows_here, rfl, S225, h227, ?_⟩))))
      refine Res.wp_mono (Res.wp_noex (Res.wp_bind h)) (fun y228 h A229 H230 p233 ws234 e231 S232 h235 => ?_) (fun _ _ h => h.elim)
      have S236 := S232.back1 ((same_join_r S224.dj).trans e231)
      have e237 := same_minus S224 e231
      generalize minus A229 (one p_rows_here (.lst ws_rows_here)) = A238 at S236 e237
      have e0 := e0.trans e237
      have h_rows_here := OL.up h_rows_here e237
      have h_loops := OL.up h_loops e237
      have h37 := upO h37 e237
      have h5 := OL.up h5 e237
      have h235 : OL A238 _ _ := OL.any h235
      have S239 : St H230 (A238 :: (one p233 (.lst ws234)) :: (one p_rows_here (.lst ws_rows_here)) :: m38 :: (one p1 (.lst ws2)) :: (one p_loops (.lst ws_loops)) :: R) := S236.pick 1 (Nat.le_of_ble_eq_true rfl)
      have h241 := frz_is h235 S239
      have S242 := S239.frz
      have e240 := same_join_l (A := A238) (B := (one p233 (.lst ws234)))
      generalize hjA243 : join A238 (one p233 (.lst ws234)) = A243 at h241 S242 e240
      clear hjA243
      have e0 := e0.trans e240
      have h_rows_here := OL.up h_rows_here e240
      have h_loops := OL.up h_loops e240
      have h37 := upO h37 e240
      have h5 := OL.up h5 e240
      refine c_lcGL (A := A243) (R := (one p_rows_here (.lst ws_rows_here)) :: m38 :: (one p1 (.lst ws2)) :: (one p_loops (.lst ws_loops)) :: R) (tt := (tTest (tOp rEq (tOp (rIxT K) (tOp (rIxL K) (tVar 0) (tVar 7)) (tC (.int 0))) (tVar 2)))) (te := (tVar 7)) (vs := [7]) (j := 7) (fun (A_ : Hp) (R_ : List Hp) (s : Unit) => (one p_rows_here (.lst ws_rows_here)) :: m38 :: (one p1 (.lst ws2)) :: (one p_loops (.lst ws_loops)) :: R = R_) S242 (fun Q' q => q) h241 rfl h (fun _ => rfl) (fun z245 w246 A248 H249 R250 s251 n252 C253 K1_254 K0_255 hz256 e257 S258 hR259 hK260 hK261 h => ?_) (fun p272 A273 H274 R275 ws276 y271 h e277 S278 hR279 h280 => ?_)
      ·
        obtain ⟨hz256, h262⟩ := hz256
        have eC264 : Same A248 A248 := Same.refl _
        obtain rfl := hR259
        have e0 := e0.trans e257
        have h_rows_here := OL.up h_rows_here e257
        have h_loops := OL.up h_loops e257
        have h37 := upO h37 e257
        have h5 := OL.up h5 e257
        obtain rfl : w246 = (.int z245) := h262
        refine c_tst (c_op (c_op (c_op (c_var rfl (c_var rfl (c_ix ⟨_, _, rfl, (S258.mem _ (List.mem_of_getElem? (i := 2) rfl)) _ _ one_same, h_rows_here⟩ h fun t265 w266 h267 h => ?_))))))
        refine c_c (c_ixO0 S258 h267 h fun t268 w269 h270 h => ?_)
        obtain rfl : w269 = (.int t268.1) := h270
        refine c_var rfl (c_eqI (c_bl (?_)))
        refine c_if h (fun hc h => ?_) (fun hc h => ?_)
        ·
          refine c_var rfl (?_)
          exact hK260 _ _ _ z245 _ () eC264 S258 rfl rfl h
        ·
          exact hK261 _ _ _ () eC264 S258 rfl h
      ·
        obtain rfl := hR279
        have e0 := e0.trans e277
        have h_rows_here := OL.up h_rows_here e277
        have h_loops := OL.up h_loops e277
        have h37 := upO h37 e277
        have h5 := OL.up h5 e277
        have h282 := frz_is h280 S278
        have S283 := S278.frz
        have e281 := same_join_l (A := A273) (B := (one p272 (.lst ws276)))
        generalize hjA284 : join A273 (one p272 (.lst ws276)) = A284 at h282 S283 e281
        clear hjA284
        have e0 := e0.trans e281
        have h_rows_here := OL.up h_rows_here e281
        have h_loops := OL.up h_loops e281
        have h37 := upO h37 e281
        have h5 := OL.up h5 e281
        have S285 : St H274 (A284 :: (one p_loops (.lst ws_loops)) :: (one p_rows_here (.lst ws_rows_here)) :: m38 :: (one p1 (.lst ws2)) :: R) := S283.pick 3 (Nat.le_of_ble_eq_true rfl)
        have S286 : St H274 (A284 :: m38 :: (one p_loops (.lst ws_loops)) :: (one p_rows_here (.lst ws_rows_here)) :: (one p1 (.lst ws2)) :: R) := S285.pick 2 (Nat.le_of_ble_eq_true rfl)
        have S287 : St H274 (A284 :: (one p_rows_here (.lst ws_rows_here)) :: m38 :: (one p_loops (.lst ws_loops)) :: (one p1 (.lst ws2)) :: R) := S286.pick 2 (Nat.le_of_ble_eq_true rfl)
        have S288 : St H274 (A284 :: (one p_rows_here (.lst ws_rows_here)) :: m38 :: (one p_loops (.lst ws_loops)) :: R) := S287.drop 3 (Nat.le_of_ble_eq_true rfl)
        exact wk_law_edge_by_s3 (T := T) (K := K) (E := E)  e0 S288 h_rows_here h_loops h37 h282 h
abbrev s_law_edge_by : Stmt := topS 34
theorem sc_law_edge_by : FnScope ["_law_rows_here", "_law_loops", "_law_rank_here", "_law_bag_here", "_law_number", "_law_edge_here", "_law_beneath", "_law_k", "_law_kin", "_law_chosen", "_law_at", "_law_one"] ["_law_rows_here", "_law_loops", "_law_rank_here", "_law_bag_here"] (defScope s_law_edge_by) := ⟨rfl, rfl, rfl, by decide +kernel, rfl, by decide +kernel, by decide +kernel⟩
theorem ok_law_edge_by {P : Program} {w : World} {K : PySem.W.Frag} {mg : Str → Option Value} {base : Heap} {T : Cs} {f : Addr} {fd : FuncData} {f_law_pull : Addr} {fd_law_pull : FuncData} {f_law_join : Addr} {fd_law_join : FuncData} {f_law_here : Addr} {fd_law_here : FuncData} {f_law_some : Addr} {fd_law_some : FuncData} {f_law_edge : Addr} {fd_law_edge : FuncData} (F : Fun K "_law_edge_by" "_law_edge_by" s_law_edge_by f fd) (bi : Bi mg) (G_law_pull : Glob P w K mg base CX0 1 "_law_pull" ["_law_bag_here", "_law_many"] (sp_law_pull T K) f_law_pull fd_law_pull) (G_law_join : Glob P w K mg base CX0 1 "_law_join" ["_law_one", "_law_other"] (sp_law_join T K) f_law_join fd_law_join) (G_law_here : Glob P w K mg base CX0 1 "_law_here" ["_law_rows_here"] (sp_law_here T K) f_law_here fd_law_here) (G_law_some : Glob P w K mg base CX0 2 "_law_some" ["_law_bag_here", "_law_row_here"] (sp_law_some T K) f_law_some fd_law_some) (G_law_edge : Glob P w K mg base CX0 2 "_law_edge" ["_law_rows_here", "_law_row_here"] (sp_law_edge T K) f_law_edge fd_law_edge)   : FnOk P w K mg base CX0 3 f fd ["_law_rows_here", "_law_loops", "_law_rank_here", "_law_bag_here"] (sp_law_edge_by T K) := by
  refine F.ok sc_law_edge_by (fun vs H Q E h => ?_) (fun cdv A outer s H vs Q E hr h => ⟨rd_law_edge_by T K E, ?_, wk_law_edge_by  h⟩)
  · obtain ⟨_, _, _, _, _, _, _, _, _, _, _, _, rfl, _⟩ := h
    rfl
  · exact (pss_cons (ps_set (i := 4) sc_law_edge_by.nd rfl (Or.inl rfl) (pe_callB call_len_seq (by rfl) bi.len PySem.boot_len (pa_cons (pv 0) pa_nil)))
      (pss_cons (ps_set (i := 5) sc_law_edge_by.nd rfl (Or.inl rfl) (pe_lst pa_nil))
      (pss_cons (ps_if (pt_cmpR op_eq (pv 2) pe_int (nomark _)) (pss_cons (ps_expr (pe_bm PySem.F.plainAttrs_list PySem.F.slot_list_append PySem.F.type_list_append mt_append (pv 1) (pa_cons (pe_tup (pa_cons pe_int (pa_cons (pe_lst (pa_cons (pv 4) pa_nil)) pa_nil))) pa_nil)))
      (pss_one (ps_ret (pv 5)))) pss_nil)
      (pss_cons (ps_if (pt_cmpR op_lt (pe_call G_law_pull.ok (hr.mono (Nat.le_of_ble_eq_true rfl)) (by rfl) G_law_pull.g G_law_pull.kp G_law_pull.b .nil pass0 (pa_cons (pv 3) (pa_cons pe_int pa_nil))) pe_int (nomark _)) (pss_cons (ps_setLc (i := 6) (own := [("_law_at", 10), ("_law_one", 11)]) (g := (gTup K 2 (gCons (gName 10) (gCons (gName 11) gNil)))) (tt := (tTest (tOp rEq (tVar 10) (tOp (rI0 fun i j => .int (i - j)) (tVar 2) (tC (.int 1)))))) (te := (tVar 11)) rfl sc_law_edge_by.nd rfl rfl (sw_true rfl rfl rfl (by decide +kernel)) (pi_list (pv 1)) (blkOk_by (own := [("_law_at", 10), ("_law_one", 11)]) (N := ["_law_rows_here", "_law_loops", "_law_rank_here", "_law_bag_here", "_law_number", "_law_edge_here", "_law_beneath", "_law_k", "_law_kin", "_law_chosen", "_law_at", "_law_one"]) (sc := defScope s_law_edge_by) (by decide +kernel)) (fun _ _ _ _ _ => pg_tup rfl (pgs_cons (pg_name (i := 10) sc_law_edge_by.nd rfl (Or.inl rfl)) (pgs_cons (pg_name (i := 11) sc_law_edge_by.nd rfl (Or.inl rfl)) pgs_nil))) (fun _ _ _ _ _ => pts_one (pt_cmpR op_eq (pv 10) (pe_op op_sub (pv 2) pe_int) (nomark _))) (fun _ _ _ _ _ => (pv 11)))
      (pss_cons (ps_for PassesOwn.never rfl (pi_range1 (by rfl) bi.range (pa_cons (pe_ix ix_list (pe_lst (pa_cons pe_int (pa_cons pe_int (pa_cons pe_int (pa_cons pe_int (pa_cons pe_int (pa_cons pe_int (pa_cons pe_int (pa_cons pe_int pa_nil))))))))) (pe_call G_law_pull.ok (hr.mono (Nat.le_of_ble_eq_true rfl)) (by rfl) G_law_pull.g G_law_pull.kp G_law_pull.b .nil pass0 (pa_cons (pv 3) (pa_cons pe_int pa_nil))) (fun _ _ => rfl)) pa_nil)) (pg_name (i := 7) sc_law_edge_by.nd rfl (Or.inl rfl)) (pss_one (ps_if (pt_cmpR (op_neD hr.units) (pv 6) (pe_lst pa_nil) (nomark _)) (pss_one (ps_set (i := 5) sc_law_edge_by.nd rfl (Or.inl rfl) (pe_call G_law_join.ok (hr.mono (Nat.le_of_ble_eq_true rfl)) (by rfl) G_law_join.g G_law_join.kp G_law_join.b .nil pass0 (pa_cons (pv 5) (pa_cons (pe_ix ix_list (pv 6) (pe_call G_law_pull.ok (hr.mono (Nat.le_of_ble_eq_true rfl)) (by rfl) G_law_pull.g G_law_pull.kp G_law_pull.b .nil pass0 (pa_cons (pv 3) (pa_cons (pe_callB call_len_seq (by rfl) bi.len PySem.boot_len (pa_cons (pv 6) pa_nil)) pa_nil))) (fun _ _ => rfl)) pa_nil))))) pss_nil)))
      (Evl.pss_cut (ps_if (pt_cmpR (op_eqD hr.units) (pv 5) (pe_lst pa_nil) (nomark _)) (pss_one (ps_expr (pe_bm PySem.F.plainAttrs_list PySem.F.slot_list_append PySem.F.type_list_append mt_append (pv 1) (pa_cons (pe_tup (pa_cons (pv 2) (pa_cons (pe_lst (pa_cons (pv 4) pa_nil)) pa_nil))) pa_nil)))) pss_nil)
      (pss_one (ps_ret (pv 5)))))) pss_nil)
      (pss_cons (ps_setLc (i := 8) (own := [("_law_k", 7)]) (g := (gName 7)) (tt := (tTest (tOp rEq (tOp (rIxT K) (tOp (rIxL K) (tVar 0) (tVar 7)) (tC (.int 0))) (tVar 2)))) (te := (tVar 7)) rfl sc_law_edge_by.nd rfl rfl (sw_true rfl rfl rfl (by decide +kernel)) (pi_list (pe_call G_law_here.ok (hr.mono (Nat.le_of_ble_eq_true rfl)) (by rfl) G_law_here.g G_law_here.kp G_law_here.b .nil pass0 (pa_cons (pv 0) pa_nil))) (blkOk_by (own := [("_law_k", 7)]) (N := ["_law_rows_here", "_law_loops", "_law_rank_here", "_law_bag_here", "_law_number", "_law_edge_here", "_law_beneath", "_law_k", "_law_kin", "_law_chosen", "_law_at", "_law_one"]) (sc := defScope s_law_edge_by) (by decide +kernel)) (fun _ _ _ _ _ => pg_name (i := 7) sc_law_edge_by.nd rfl (Or.inl rfl)) (fun _ _ _ _ _ => pts_one (pt_cmpR op_eq (pe_ix ix_tup (pe_ix ix_list (pv 0) (pv 7) (fun _ _ => rfl)) pe_int (fun _ _ => rfl)) (pv 2) (nomark _))) (fun _ _ _ _ _ => (pv 7)))
      (pss_cons (ps_set (i := 9) sc_law_edge_by.nd rfl (Or.inl rfl) (pe_call G_law_some.ok (hr.mono (Nat.le_of_ble_eq_true rfl)) (by rfl) G_law_some.g G_law_some.kp G_law_some.b .nil pass0 (pa_cons (pv 3) (pa_cons (pv 8) pa_nil))))
      (pss_cons (ps_expr (pe_bm PySem.F.plainAttrs_list PySem.F.slot_list_append PySem.F.type_list_append mt_append (pv 1) (pa_cons (pe_tup (pa_cons (pv 2) (pa_cons (pe_op op_cat (pv 9) (pe_lst (pa_cons (pv 4) pa_nil))) pa_nil))) pa_nil)))
      (pss_one (ps_ret (pe_call G_law_edge.ok (hr.mono (Nat.le_of_ble_eq_true rfl)) (by rfl) G_law_edge.g G_law_edge.kp G_law_edge.b .nil pass0 (pa_cons (pv 0) (pa_cons (pv 9) pa_nil))))))))))))
@[irreducible] def m_law_rows_s1 (x_bag_here : Bag) (x_most : Int) (x_rows_here : (List (Option (Int × (List Int))))) (x_loops : (List (Int × (List Int)))) : Res Bag ((List (Option (Int × (List Int)))) × Bag) := Res.bind (Res.noex (m_law_pull x_bag_here (x_most + (1 : Int)))) fun y175 => Res.bind (Res.bind (rgR (0 : Int) y175.1) fun l => forM (β := ((List (Option (Int × (List Int)))) × Bag)) (fun z183 (s188 : Bag × (List (Option (Int × (List Int)))) × (List (Int × (List Int)))) => Res.bind (Res.noex (m_law_pull s188.1 (9 : Int))) fun y210 => if (decide (y210.1 = (8 : Int))) = true then Res.bind (appR s188.2.1 (none : (Option (Int × (List Int))))) fun t219 => .ok (.next (y210.2, t219, s188.2.2)) else Res.bind (Res.noex (m_law_rank y210.2)) fun y226 => Res.bind (Res.noex (m_law_edge_by s188.2.1 s188.2.2 y226.1 y226.2)) fun y235 => Res.bind (appR s188.2.1 (some (y226.1, y235.1))) fun t258 => .ok (.next (y235.2.2, t258, y235.2.1))) l (y175.2, x_rows_here, x_loops)) fun r270 => (match r270 with | .next s201 => .ok (s201.2.1, s201.1) | .ret y271 => .ok y271)
@[irreducible] def m_law_rows (x_bag_here : Bag) (x_most : Int) : Res Bag ((List (Option (Int × (List Int)))) × Bag) := Res.bind ((Res.bind (Res.noex (m_law_pull x_bag_here (2 : Int))) fun y20 => if (decide (y20.1 = (1 : Int))) = true then Res.bind (Res.noex (m_law_pull y20.2 (16 : Int))) fun y27 => Res.bind (Res.noex (m_law_stock y27.1)) fun y34 => .ok (.next (y34, y27.2)) else .ok (.next (([] : List (Option (Int × (List Int)))), y20.2)) : Res Bag (Fl ((List (Option (Int × (List Int)))) × Bag) ((List (Option (Int × (List Int)))) × Bag)))) fun r274 => (match r274 with | .next s13 => Res.bind (Res.bind (rlR (s13.1.length : Int)) fun l => .ok ((l.filter (fun z46 => (decide (z46 < (4 : Int))))).map (fun z46 => ((0 : Int), [z46])))) fun t91 => Res.bind ((if (decide ((9 : Int) < (s13.1.length : Int))) = true then Res.bind (catR t91 [((1 : Int), [(4 : Int), (5 : Int), (7 : Int)]), ((1 : Int), [(4 : Int), (6 : Int), (8 : Int)]), ((1 : Int), [(5 : Int), (6 : Int), (9 : Int)])]) fun t162 => .ok (.next t162) else .ok (.next t91) : Res Bag (Fl ((List (Option (Int × (List Int)))) × Bag) ((List (Int × (List Int))))))) fun r272 => (match r272 with | .next s106 => m_law_rows_s1 s13.2 x_most s13.1 s106 | .ret y273 => .ok y273) | .ret y275 => .ok y275)
def sp_law_rows (T : Cs) (K : PySem.W.Frag) : Sp := fun vs H Q E => ∃ (A : Hp) (R : List Hp) (m_bag_here : Hp) (v_bag_here : V) (x_bag_here : Bag) (x_most : Int), vs = [v_bag_here, (.int x_most)] ∧ St H (A :: m_bag_here :: R) ∧ Ob.isAt T A m_bag_here v_bag_here x_bag_here ∧ (m_law_rows x_bag_here x_most).wp (fun y => ∀ (A' H' : Hp) (p : Addr) (ws : List V) (m0 : Hp), Same A A' → St H' (A' :: one p (.lst ws) :: m0 :: R) → OL A' ws y.1 → Ob.isAt T A' m0 v_bag_here y.2 → Q (.ref p) H') (fun _ _ => False)
def rd_law_rows_s1 (T : Cs) (K : PySem.W.Frag) (E : XK) : TS := (tSeq (tFor (iRng1 (tCons (tCall (sp_law_pull T K) [] E0 (tCons (tVar 0) (tCons (tOp (rI0 fun i j => .int (i + j)) (tVar 1) (tC (.int 1))) tNil))) tNil)) (gName 3) (tIfS (tTest (tOp rEq (tCall (sp_law_pull T K) [] E0 (tCons (tVar 0) (tCons (tC (.int 9)) tNil))) (tC (.int 8)))) (tDrop (tBM K "list" rAppend (tVar 2) (tCons (tC .non) tNil))) (tSeq (tAsg (tCall (sp_law_rank T K) [] E0 (tCons (tVar 0) tNil)) (gName 5)) (tDrop (tBM K "list" rAppend (tVar 2) (tCons (tTup (tCons (tVar 5) (tCons (tCall (sp_law_edge_by T K) [] E0 (tCons (tVar 2) (tCons (tVar 4) (tCons (tVar 5) (tCons (tVar 0) tNil))))) tNil))) tNil)))))) (tRet (tVar 2)))
def rd_law_rows (T : Cs) (K : PySem.W.Frag) (E : XK) : TS := (tSeq (tAsg (tLst tNil) (gName 2)) (Evl.tCut (tIfS (tTest (tOp rEq (tCall (sp_law_pull T K) [] E0 (tCons (tVar 0) (tCons (tC (.int 2)) tNil))) (tC (.int 1)))) (tAsg (tCall (sp_law_stock T K) [] E0 (tCons (tCall (sp_law_pull T K) [] E0 (tCons (tVar 0) (tCons (tC (.int 16)) tNil))) tNil)) (gName 2)) tNext) (tSeq (tAsg (tLc (iRng1 (tCons (tCB (Evl.rLenS K) (tCons (tVar 2) tNil)) tNil)) (gName 3) (tTest (tOp (rI0 fun i j => .bl (decide (i < j))) (tVar 3) (tC (.int 4)))) (tTup (tCons (tC (.int 0)) (tCons (tLst (tCons (tVar 3) tNil)) tNil))) [3]) (gName 4)) (Evl.tCut (tIfS (tTest (tOp (rI0 fun i j => .bl (decide (j < i))) (tCB (Evl.rLenS K) (tCons (tVar 2) tNil)) (tC (.int 9)))) (tAsg (tOp rCat (tVar 4) (tLst (tCons (tTup (tCons (tC (.int 1)) (tCons (tLst (tCons (tC (.int 4)) (tCons (tC (.int 5)) (tCons (tC (.int 7)) tNil)))) tNil))) (tCons (tTup (tCons (tC (.int 1)) (tCons (tLst (tCons (tC (.int 4)) (tCons (tC (.int 6)) (tCons (tC (.int 8)) tNil)))) tNil))) (tCons (tTup (tCons (tC (.int 1)) (tCons (tLst (tCons (tC (.int 5)) (tCons (tC (.int 6)) (tCons (tC (.int 9)) tNil)))) tNil))) tNil))))) (gName 4)) tNext) (rd_law_rows_s1 T K E)))))
theorem wk_law_rows_s1 {T : Cs} {K : PySem.W.Frag} {A AS HS : Hp} {R : List Hp} {Q : VK} {E : XK} {x_bag_here : Bag} {m_bag_here : Hp} {v_bag_here : V} {x_most : Int} {x_rows_here : (List (Option (Int × (List Int))))} {p_rows_here : Addr} {ws_rows_here : List V} {x_loops : (List (Int × (List Int)))} {p_loops : Addr} {ws_loops : List V} {o3 : Option V} {o5 : Option V}  (e0 : Same A AS) (S : St HS (AS :: (one p_loops (.lst ws_loops)) :: (one p_rows_here (.lst ws_rows_here)) :: m_bag_here :: R)) (h_bag_here : Ob.isAt T AS m_bag_here v_bag_here x_bag_here) (h_rows_here : OL AS ws_rows_here x_rows_here) (h_loops : OL AS ws_loops x_loops) (h : (m_law_rows_s1 x_bag_here x_most x_rows_here x_loops).wp (fun y => ∀ (A' H' : Hp) (p : Addr) (ws : List V) (m0 : Hp), Same A A' → St H' (A' :: one p (.lst ws) :: m0 :: R) → OL A' ws y.1 → Ob.isAt T A' m0 v_bag_here y.2 → Q (.ref p) H') (fun _ _ => False)) : rd_law_rows_s1 T K E { nx := fun _ H' => Q .non H', rt := Q } [some v_bag_here, some (.int x_most), some (.ref p_rows_here), o3, some (.ref p_loops), o5] HS := by
  unfold m_law_rows_s1 at h
  unfold rd_law_rows_s1
  refine q_forR1 ?_
  have S174 : St HS (AS :: m_bag_here :: (one p_loops (.lst ws_loops)) :: (one p_rows_here (.lst ws_rows_here)) :: R) := S.pick 2 (Nat.le_of_ble_eq_true rfl)
  refine c_cons (c_call (c_cons (c_var rfl (c_cons (c_op (c_var rfl (c_c (c_I0 (c_nil (⟨AS, ((one p_loops (.lst ws_loops)) :: (one p_rows_here (.lst ws_rows_here)) :: R), m_bag_here, v_bag_here, x_bag_here, (x_most + (1 : Int)), rfl, S174, h_bag_here, ?_⟩))))))))))
  refine Res.wp_mono (Res.wp_noex (Res.wp_bind h)) (fun y175 h A176 H177 m181 e178 S179 h180 => ?_) (fun _ _ h => h.elim)
  have e0 := e0.trans e178
  have h_rows_here := OL.up h_rows_here e178
  have h_loops := OL.up h_loops e178
  refine c_nil (?_)
  refine c_forR1 (A := A176) (s0 := (y175.2, x_rows_here, x_loops)) (fun (A_ : Hp) (σ_ : L2.St) (R_ : List Hp) (s : Bag × (List (Option (Int × (List Int)))) × (List (Int × (List Int)))) => ∃ (m_bag_here182 : Hp) (ws_rows_here182 : List V) (ws_loops182 : List V) (y_rank_here182 : Option V) (y_k182 : Option V), σ_ = [some v_bag_here, some (.int x_most), some (.ref p_rows_here), y_k182, some (.ref p_loops), y_rank_here182] ∧ m_bag_here182 :: (one p_loops (.lst ws_loops182)) :: (one p_rows_here (.lst ws_rows_here182)) :: R = R_ ∧ Ob.isAt T A_ m_bag_here182 v_bag_here (s.1 : Bag) ∧ OL A_ ws_rows_here182 (s.2.1 : (List (Option (Int × (List Int))))) ∧ OL A_ ws_loops182 (s.2.2 : (List (Int × (List Int))))) S179 (fun Q' q => q) ⟨m181, ws_rows_here, ws_loops, _, _, rfl, rfl, h180, h_rows_here, h_loops⟩ h (fun z183 A185 H186 σ197 R187 s188 C189 N190 hz191a hz191b e192 S193 hR195 hN196 h => ?_) (fun A198 H199 σ205 R200 s201 e202 S203 hR204 h => ?_)
  ·
    have eL206 : Same A176 A176 := Same.refl _
    obtain ⟨m_bag_here182, ws_rows_here182, ws_loops182, y_rank_here182, y_k182, rfl, rfl, h207, h208, h209⟩ := hR195
    have e0 := e0.trans e192
    have eL206 := eL206.trans e192
    refine s_if ?_
    refine c_tst (c_op (c_call (c_cons (c_var rfl (c_cons (c_c (c_nil (⟨A185, ((one p_loops (.lst ws_loops182)) :: (one p_rows_here (.lst ws_rows_here182)) :: R), m_bag_here182, v_bag_here, s188.1, (9 : Int), rfl, S193, h207, ?_⟩))))))))
    refine Res.wp_mono (Res.wp_noex (Res.wp_bind h)) (fun y210 h A211 H212 m216 e213 S214 h215 => ?_) (fun _ _ h => h.elim)
    have e0 := e0.trans e213
    have eL206 := eL206.trans e213
    have h208 := OL.up h208 e213
    have h209 := OL.up h209 e213
    refine c_c (c_eqI (c_bl (?_)))
    refine c_if h (fun hc h => ?_) (fun hc h => ?_)
    ·
      refine s_drop (c_bm (c_var rfl (c_and2 (.inl ⟨rfl, _, SqL.of ((S214.mem _ (List.mem_of_getElem? (i := 3) rfl)) _ _ one_same)⟩) (c_cons (c_c (c_nil (?_)))))))
      have h217 : Is A211 .non (none : (Option (Int × (List Int)))) := rfl
      have S218 : St H212 (A211 :: (one p_rows_here (.lst ws_rows_here182)) :: m216 :: (one p_loops (.lst ws_loops182)) :: R) := S214.pick 2 (Nat.le_of_ble_eq_true rfl)
      refine c_app (x := (none : (Option (Int × (List Int))))) S218 h208 h217 h fun t219 ws223 h H222 S221 h220 => ?_
      have S224 : St H222 (A211 :: (one p_loops (.lst ws_loops182)) :: (one p_rows_here (.lst ws223)) :: m216 :: R) := S221.pick 2 (Nat.le_of_ble_eq_true rfl)
      have S225 : St H222 (A211 :: m216 :: (one p_loops (.lst ws_loops182)) :: (one p_rows_here (.lst ws223)) :: R) := S224.pick 2 (Nat.le_of_ble_eq_true rfl)
      exact hN196 _ _ _ _ (y210.2, t219, s188.2.2) eL206 S225 ⟨m216, ws223, ws_loops182, _, _, rfl, rfl, h215, h220, h209⟩ h
    ·
      refine q_asg ?_
      refine c_call (c_cons (c_var rfl (c_nil (⟨A211, ((one p_loops (.lst ws_loops182)) :: (one p_rows_here (.lst ws_rows_here182)) :: R), m216, v_bag_here, y210.2, rfl, S214, h215, ?_⟩))))
      refine Res.wp_mono (Res.wp_noex (Res.wp_bind h)) (fun y226 h A227 H228 m232 e229 S230 h231 => ?_) (fun _ _ h => h.elim)
      have e0 := e0.trans e229
      have eL206 := eL206.trans e229
      have h208 := OL.up h208 e229
      have h209 := OL.up h209 e229
      have S233 : St H228 (A227 :: (one p_loops (.lst ws_loops182)) :: m232 :: (one p_rows_here (.lst ws_rows_here182)) :: R) := S230.pick 1 (Nat.le_of_ble_eq_true rfl)
      have S234 : St H228 (A227 :: (one p_rows_here (.lst ws_rows_here182)) :: (one p_loops (.lst ws_loops182)) :: m232 :: R) := S233.pick 2 (Nat.le_of_ble_eq_true rfl)
      refine s_drop (c_bm (c_var rfl (c_and2 (.inl ⟨rfl, _, SqL.of ((S230.mem _ (List.mem_of_getElem? (i := 3) rfl)) _ _ one_same)⟩) (c_cons (c_ttup (c_cons (c_var rfl (c_cons (c_call (c_cons (c_var rfl (c_cons (c_var rfl (c_cons (c_var rfl (c_cons (c_var rfl (c_nil (⟨A227, (R), p_rows_here, ws_rows_here182, s188.2.1, p_loops, ws_loops182, s188.2.2, y226.1, m232, v_bag_here, y226.2, rfl, S234, h208, h209, h231, ?_⟩)))))))))))))))))))
      refine Res.wp_mono (Res.wp_noex (Res.wp_bind h)) (fun y235 h A236 H237 p240 ws241 ws244 m246 e238 S239 h242 h243 h245 => ?_) (fun _ _ h => h.elim)
      have e0 := e0.trans e238
      have eL206 := eL206.trans e238
      have h208 := OL.up h208 e238
      have h248 := frz_is h242 S239
      have S249 := S239.frz
      have e247 := same_join_l (A := A236) (B := (one p240 (.lst ws241)))
      generalize hjA250 : join A236 (one p240 (.lst ws241)) = A250 at h248 S249 e247
      clear hjA250
      have e0 := e0.trans e247
      have eL206 := eL206.trans e247
      have h245 := upO h245 e247
      have h208 := OL.up h208 e247
      have h243 := OL.up h243 e247
      refine c_nil (c_tup (α := Int) (β := (List Int)) (x := y226.1) (y := y235.1) S249 rfl h248 fun p251 A252 H253 e254 S255 h256 => ?_)
      have e0 := e0.trans e254
      have eL206 := eL206.trans e254
      have h245 := upO h245 e254
      have h208 := OL.up h208 e254
      have h243 := OL.up h243 e254
      refine c_nil (?_)
      have h257 := opt_some h256
      refine c_app (x := (some (y226.1, y235.1))) S255 h208 h257 h fun t258 ws262 h H261 S260 h259 => ?_
      have S263 : St H261 (A252 :: (one p_loops (.lst ws244)) :: (one p_rows_here (.lst ws262)) :: m246 :: R) := S260.pick 1 (Nat.le_of_ble_eq_true rfl)
      have S264 : St H261 (A252 :: m246 :: (one p_loops (.lst ws244)) :: (one p_rows_here (.lst ws262)) :: R) := S263.pick 2 (Nat.le_of_ble_eq_true rfl)
      exact hN196 _ _ _ _ (y235.2.2, t258, y235.2.1) eL206 S264 ⟨m246, ws262, ws244, _, _, rfl, rfl, h245, h259, h243⟩ h
  ·
    refine nx_mk ?_
    obtain ⟨m_bag_here182, ws_rows_here182, ws_loops182, y_rank_here182, y_k182, rfl, rfl, h265, h266, h267⟩ := hR204
    have e0 := e0.trans e202
    refine s_ret ?_
    refine c_var rfl (?_)
    have S268 : St H199 (A198 :: (one p_rows_here (.lst ws_rows_here182)) :: m_bag_here182 :: (one p_loops (.lst ws_loops182)) :: R) := S203.pick 2 (Nat.le_of_ble_eq_true rfl)
    have S269 : St H199 (A198 :: (one p_rows_here (.lst ws_rows_here182)) :: m_bag_here182 :: R) := S268.drop 2 (Nat.le_of_ble_eq_true rfl)
    exact h (A198) (H199) (p_rows_here) (ws_rows_here182) (m_bag_here182) e0 S269 h266 h265
theorem wk_law_rows {T : Cs} {K : PySem.W.Frag} {vs : List V} {H : Hp} {Q : VK} {E : XK}  (h : sp_law_rows T K vs H Q E) : rd_law_rows T K E { nx := fun _ H' => Q .non H', rt := Q } (L2.start ["_law_bag_here", "_law_most", "_law_rows_here", "_law_k", "_law_loops", "_law_rank_here"] vs) H := by
  obtain ⟨A, R, m_bag_here, v_bag_here, x_bag_here, x_most, rfl, S, h_bag_here, h⟩ := h
  unfold m_law_rows at h
  unfold rd_law_rows
  have e0 : Same A A := Same.refl _
  refine q_asg ?_
  refine c_tlst (c_nil (c_lst (α := (Option (Int × (List Int)))) (vs := []) (xs := []) (Nat.le_of_ble_eq_true rfl) trivial (ow S fun p1 ws2 H3 S4 h5 => ?_)))
  refine q_cut (A := A) (fun (A_ : Hp) (σ_ : L2.St) (R_ : List Hp) (s : (List (Option (Int × (List Int)))) × Bag) => ∃ (p_rows_here6 : Addr) (ws_rows_here6 : List V) (m_bag_here6 : Hp), σ_ = [some v_bag_here, some (.int x_most), some (.ref p_rows_here6), none, none, none] ∧ (one p_rows_here6 (.lst ws_rows_here6)) :: m_bag_here6 :: R = R_ ∧ OL A_ ws_rows_here6 (s.1 : (List (Option (Int × (List Int))))) ∧ Ob.isAt T A_ m_bag_here6 v_bag_here (s.2 : Bag)) h (fun C7 N8 hN9 h => ?_) (fun A10 H11 σ17 R12 s13 e14 S15 hR16 h => ?_)
  ·
    have eK18 : Same A A := Same.refl _
    refine s_when ?_
    have S19 : St H3 (A :: m_bag_here :: (one p1 (.lst ws2)) :: R) := S4.pick 1 (Nat.le_of_ble_eq_true rfl)
    refine c_tst (c_op (c_call (c_cons (c_var rfl (c_cons (c_c (c_nil (⟨A, ((one p1 (.lst ws2)) :: R), m_bag_here, v_bag_here, x_bag_here, (2 : Int), rfl, S19, h_bag_here, ?_⟩))))))))
    refine Res.wp_mono (Res.wp_noex (Res.wp_bind h)) (fun y20 h A21 H22 m26 e23 S24 h25 => ?_) (fun _ _ h => h.elim)
    have e0 := e0.trans e23
    have eK18 := eK18.trans e23
    have h5 := OL.up h5 e23
    refine c_c (c_eqI (c_bl (?_)))
    refine c_if h (fun hc h => ?_) (fun hc h => ?_)
    ·
      refine s_asg ?_
      refine c_call (c_cons (c_call (c_cons (c_var rfl (c_cons (c_c (c_nil (⟨A21, ((one p1 (.lst ws2)) :: R), m26, v_bag_here, y20.2, (16 : Int), rfl, S24, h25, ?_⟩))))))))
      refine Res.wp_mono (Res.wp_noex (Res.wp_bind h)) (fun y27 h A28 H29 m33 e30 S31 h32 => ?_) (fun _ _ h => h.elim)
      have e0 := e0.trans e30
      have eK18 := eK18.trans e30
      have h5 := OL.up h5 e30
      refine c_nil (⟨A28, (m33 :: (one p1 (.lst ws2)) :: R), y27.1, rfl, S31, ?_⟩)
      refine Res.wp_mono (Res.wp_noex (Res.wp_bind h)) (fun y34 h A35 H36 p39 ws40 e37 S38 h41 => ?_) (fun _ _ h => h.elim)
      have e0 := e0.trans e37
      have eK18 := eK18.trans e37
      have h32 := upO h32 e37
      have h5 := OL.up h5 e37
      have S42 : St H36 (A35 :: (one p39 (.lst ws40)) :: m33 :: R) := S38.drop 2 (Nat.le_of_ble_eq_true rfl)
      exact hN9 _ _ _ _ (y34, y27.2) eK18 S42 ⟨p39, ws40, m33, rfl, rfl, h41, h32⟩ h
    ·
      have S43 : St H22 (A21 :: (one p1 (.lst ws2)) :: m26 :: R) := S24.pick 1 (Nat.le_of_ble_eq_true rfl)
      exact hN9 _ _ _ _ (([] : List (Option (Int × (List Int)))), y20.2) eK18 S43 ⟨p1, ws2, m26, rfl, rfl, h5, h25⟩ h
  ·
    obtain ⟨p_rows_here6, ws_rows_here6, m_bag_here6, rfl, rfl, h44, h45⟩ := hR16
    have e0 := e0.trans e14
    refine q_asg ?_
    refine c_lcER ?_
    refine c_cons (c_cb (c_cons (c_var rfl (c_nil (c_len ⟨_, _, rfl, (S15.mem _ (List.mem_of_getElem? (i := 1) rfl)) _ _ one_same, h44⟩ (c_nil (?_)))))))
    refine c_lcR (A := A10) (R := (one p_rows_here6 (.lst ws_rows_here6)) :: m_bag_here6 :: R) (tt := (tTest (tOp (rI0 fun i j => .bl (decide (i < j))) (tVar 3) (tC (.int 4))))) (te := (tTup (tCons (tC (.int 0)) (tCons (tLst (tCons (tVar 3) tNil)) tNil)))) (vs := [3]) (j := 3) (n := (s13.1.length : Int)) (fun z46 => (decide (z46 < (4 : Int)))) (fun z46 => ((0 : Int), [z46])) S15 (fun Q' q => q) h (fun _ => rfl) ?_ ?_ (fun p92 A93 H94 ws95 t91 h e96 S97 h98 => ?_)
    ·
      intro z46 A48 n49 hm59 e52 A50 H51 e53 S54 Q55 hk56
      have e0 := e0.trans (e52.trans e53)
      have e60 := e52.trans e53
      have h45 := upO h45 e60
      have h44 := OL.up h44 e60
      have eC61 : Same A50 A50 := Same.refl _
      refine c_tst (c_op (c_var rfl (c_c (c_I0 (c_bl (?_))))))
      exact hk56 _ _ eC61 S54
    ·
      intro z46 A62 n63 hm73 e66 hf72 A64 H65 e67 S68 Q69 hk70
      have e0 := e0.trans (e66.trans e67)
      have e74 := e66.trans e67
      have h45 := upO h45 e74
      have h44 := OL.up h44 e74
      have eC75 : Same A64 A64 := Same.refl _
      refine c_ttup (c_cons (c_c (c_cons (c_tlst (c_cons (c_var rfl (c_nil (c_lst (α := Int) (vs := [(.int z46)]) (xs := [z46]) (Nat.le_of_ble_eq_true rfl) ⟨rfl, trivial⟩ (ow S68 fun p76 ws77 H78 S79 h80 => ?_)))))))))
      have h82 := frz_is h80 S79
      have S83 := S79.frz
      have e81 := same_join_l (A := A64) (B := (one p76 (.lst ws77)))
      generalize hjA84 : join A64 (one p76 (.lst ws77)) = A84 at h82 S83 e81
      clear hjA84
      have e0 := e0.trans e81
      have eC75 := eC75.trans e81
      have h45 := upO h45 e81
      have h44 := OL.up h44 e81
      refine c_nil (c_tup (α := Int) (β := (List Int)) (x := (0 : Int)) (y := [z46]) S83 rfl h82 fun p85 A86 H87 e88 S89 h90 => ?_)
      have e0 := e0.trans e88
      have eC75 := eC75.trans e88
      have h45 := upO h45 e88
      have h44 := OL.up h44 e88
      exact hk70 _ _ _ eC75 S89 h90
    ·
      have e0 := e0.trans e96
      have h45 := upO h45 e96
      have h44 := OL.up h44 e96
      refine q_cut (A := A93) (fun (A_ : Hp) (σ_ : L2.St) (R_ : List Hp) (s : (List (Int × (List Int)))) => ∃ (p_loops99 : Addr) (ws_loops99 : List V), σ_ = [some v_bag_here, some (.int x_most), some (.ref p_rows_here6), none, some (.ref p_loops99), none] ∧ (one p_loops99 (.lst ws_loops99)) :: (one p_rows_here6 (.lst ws_rows_here6)) :: m_bag_here6 :: R = R_ ∧ OL A_ ws_loops99 (s : (List (Int × (List Int))))) h (fun C100 N101 hN102 h => ?_) (fun A103 H104 σ110 R105 s106 e107 S108 hR109 h => ?_)
      ·
        have eK111 : Same A93 A93 := Same.refl _
        refine s_when ?_
        refine c_tst (c_op (c_cb (c_cons (c_var rfl (c_nil (c_len ⟨_, _, rfl, (S97.mem _ (List.mem_of_getElem? (i := 2) rfl)) _ _ one_same, h44⟩ (c_c (c_I0 (c_bl (?_))))))))))
        refine c_if h (fun hc h => ?_) (fun hc h => ?_)
        ·
          refine s_asg ?_
          refine c_op (c_var rfl (c_tlst (c_cons (c_ttup (c_cons (c_c (c_cons (c_tlst (c_cons (c_c (c_cons (c_c (c_cons (c_c (c_nil (c_lst (α := Int) (vs := [(.int 4), (.int 5), (.int 7)]) (xs := [(4 : Int), (5 : Int), (7 : Int)]) (Nat.le_of_ble_eq_true rfl) ⟨rfl, ⟨rfl, ⟨rfl, trivial⟩⟩⟩ (ow S97 fun p112 ws113 H114 S115 h116 => ?_)))))))))))))))))
          have h118 := frz_is h116 S115
          have S119 := S115.frz
          have e117 := same_join_l (A := A93) (B := (one p112 (.lst ws113)))
          generalize hjA120 : join A93 (one p112 (.lst ws113)) = A120 at h118 S119 e117
          clear hjA120
          have e0 := e0.trans e117
          have eK111 := eK111.trans e117
          have h45 := upO h45 e117
          have h44 := OL.up h44 e117
          have h98 := OL.up h98 e117
          refine c_nil (c_tup (α := Int) (β := (List Int)) (x := (1 : Int)) (y := [(4 : Int), (5 : Int), (7 : Int)]) S119 rfl h118 fun p121 A122 H123 e124 S125 h126 => ?_)
          have e0 := e0.trans e124
          have eK111 := eK111.trans e124
          have h45 := upO h45 e124
          have h44 := OL.up h44 e124
          have h98 := OL.up h98 e124
          refine c_cons (c_ttup (c_cons (c_c (c_cons (c_tlst (c_cons (c_c (c_cons (c_c (c_cons (c_c (c_nil (c_lst (α := Int) (vs := [(.int 4), (.int 6), (.int 8)]) (xs := [(4 : Int), (6 : Int), (8 : Int)]) (Nat.le_of_ble_eq_true rfl) ⟨rfl, ⟨rfl, ⟨rfl, trivial⟩⟩⟩ (ow S125 fun p127 ws128 H129 S130 h131 => ?_))))))))))))))
          have h133 := frz_is h131 S130
          have S134 := S130.frz
          have e132 := same_join_l (A := A122) (B := (one p127 (.lst ws128)))
          generalize hjA135 : join A122 (one p127 (.lst ws128)) = A135 at h133 S134 e132
          clear hjA135
          have e0 := e0.trans e132
          have eK111 := eK111.trans e132
          have h45 := upO h45 e132
          have h44 := OL.up h44 e132
          have h98 := OL.up h98 e132
          have h126 := up h126 e132
          refine c_nil (c_tup (α := Int) (β := (List Int)) (x := (1 : Int)) (y := [(4 : Int), (6 : Int), (8 : Int)]) S134 rfl h133 fun p136 A137 H138 e139 S140 h141 => ?_)
          have e0 := e0.trans e139
          have eK111 := eK111.trans e139
          have h45 := upO h45 e139
          have h44 := OL.up h44 e139
          have h98 := OL.up h98 e139
          have h126 := up h126 e139
          refine c_cons (c_ttup (c_cons (c_c (c_cons (c_tlst (c_cons (c_c (c_cons (c_c (c_cons (c_c (c_nil (c_lst (α := Int) (vs := [(.int 5), (.int 6), (.int 9)]) (xs := [(5 : Int), (6 : Int), (9 : Int)]) (Nat.le_of_ble_eq_true rfl) ⟨rfl, ⟨rfl, ⟨rfl, trivial⟩⟩⟩ (ow S140 fun p142 ws143 H144 S145 h146 => ?_))))))))))))))
          have h148 := frz_is h146 S145
          have S149 := S145.frz
          have e147 := same_join_l (A := A137) (B := (one p142 (.lst ws143)))
          generalize hjA150 : join A137 (one p142 (.lst ws143)) = A150 at h148 S149 e147
          clear hjA150
          have e0 := e0.trans e147
          have eK111 := eK111.trans e147
          have h45 := upO h45 e147
          have h44 := OL.up h44 e147
          have h98 := OL.up h98 e147
          have h126 := up h126 e147
          have h141 := up h141 e147
          refine c_nil (c_tup (α := Int) (β := (List Int)) (x := (1 : Int)) (y := [(5 : Int), (6 : Int), (9 : Int)]) S149 rfl h148 fun p151 A152 H153 e154 S155 h156 => ?_)
          have e0 := e0.trans e154
          have eK111 := eK111.trans e154
          have h45 := upO h45 e154
          have h44 := OL.up h44 e154
          have h98 := OL.up h98 e154
          have h126 := up h126 e154
          have h141 := up h141 e154
          refine c_nil (c_lst (α := (Int × (List Int))) (vs := [(.ref p121), (.ref p136), (.ref p151)]) (xs := [((1 : Int), [(4 : Int), (5 : Int), (7 : Int)]), ((1 : Int), [(4 : Int), (6 : Int), (8 : Int)]), ((1 : Int), [(5 : Int), (6 : Int), (9 : Int)])]) (Nat.le_of_ble_eq_true rfl) ⟨h126, ⟨h141, ⟨h156, trivial⟩⟩⟩ (ow S155 fun p157 ws158 H159 S160 h161 => ?_))
          refine c_cat ⟨_, _, rfl, (S160.mem _ (List.mem_of_getElem? (i := 2) rfl)) _ _ one_same, h98⟩ ⟨_, _, rfl, (S160.mem _ (List.mem_of_getElem? (i := 1) rfl)) _ _ one_same, h161⟩ h fun t162 h => (ow S160 fun p163 ws164 H165 S166 h167 => ?_)
          have S168 : St H165 (A152 :: (one p163 (.lst ws164)) :: (one p157 (.lst ws158)) :: (one p_rows_here6 (.lst ws_rows_here6)) :: m_bag_here6 :: R) := S166.drop 2 (Nat.le_of_ble_eq_true rfl)
          have S169 : St H165 (A152 :: m_bag_here6 :: (one p163 (.lst ws164)) :: (one p157 (.lst ws158)) :: (one p_rows_here6 (.lst ws_rows_here6)) :: R) := S168.pick 3 (Nat.le_of_ble_eq_true rfl)
          have S170 : St H165 (A152 :: (one p_rows_here6 (.lst ws_rows_here6)) :: m_bag_here6 :: (one p163 (.lst ws164)) :: (one p157 (.lst ws158)) :: R) := S169.pick 3 (Nat.le_of_ble_eq_true rfl)
          have S171 : St H165 (A152 :: (one p163 (.lst ws164)) :: (one p_rows_here6 (.lst ws_rows_here6)) :: m_bag_here6 :: (one p157 (.lst ws158)) :: R) := S170.pick 2 (Nat.le_of_ble_eq_true rfl)
          have S172 : St H165 (A152 :: (one p163 (.lst ws164)) :: (one p_rows_here6 (.lst ws_rows_here6)) :: m_bag_here6 :: R) := S171.drop 3 (Nat.le_of_ble_eq_true rfl)
          exact hN102 _ _ _ _ t162 eK111 S172 ⟨p163, ws164, rfl, rfl, h167⟩ h
        ·
          exact hN102 _ _ _ _ t91 eK111 S97 ⟨p92, ws95, rfl, rfl, h98⟩ h
      ·
        obtain ⟨p_loops99, ws_loops99, rfl, rfl, h173⟩ := hR109
        have e0 := e0.trans e107
        have h45 := upO h45 e107
        have h44 := OL.up h44 e107
        exact wk_law_rows_s1 (T := T) (K := K) (E := E)  e0 S108 h45 h44 h173 h
abbrev s_law_rows : Stmt := topS 35
theorem sc_law_rows : FnScope ["_law_bag_here", "_law_most", "_law_rows_here", "_law_k", "_law_loops", "_law_rank_here"] ["_law_bag_here", "_law_most"] (defScope s_law_rows) := ⟨rfl, rfl, rfl, by decide +kernel, rfl, by decide +kernel, by decide +kernel⟩
theorem ok_law_rows {P : Program} {w : World} {K : PySem.W.Frag} {mg : Str → Option Value} {base : Heap} {T : Cs} {f : Addr} {fd : FuncData} {f_law_pull : Addr} {fd_law_pull : FuncData} {f_law_stock : Addr} {fd_law_stock : FuncData} {f_law_rank : Addr} {fd_law_rank : FuncData} {f_law_edge_by : Addr} {fd_law_edge_by : FuncData} (F : Fun K "_law_rows" "_law_rows" s_law_rows f fd) (bi : Bi mg) (G_law_pull : Glob P w K mg base CX0 1 "_law_pull" ["_law_bag_here", "_law_many"] (sp_law_pull T K) f_law_pull fd_law_pull) (G_law_stock : Glob P w K mg base CX0 1 "_law_stock" ["_law_many"] (sp_law_stock T K) f_law_stock fd_law_stock) (G_law_rank : Glob P w K mg base CX0 2 "_law_rank" ["_law_bag_here"] (sp_law_rank T K) f_law_rank fd_law_rank) (G_law_edge_by : Glob P w K mg base CX0 3 "_law_edge_by" ["_law_rows_here", "_law_loops", "_law_rank_here", "_law_bag_here"] (sp_law_edge_by T K) f_law_edge_by fd_law_edge_by)   : FnOk P w K mg base CX0 4 f fd ["_law_bag_here", "_law_most"] (sp_law_rows T K) := by
  refine F.ok sc_law_rows (fun vs H Q E h => ?_) (fun cdv A outer s H vs Q E hr h => ⟨rd_law_rows T K E, ?_, wk_law_rows  h⟩)
  · obtain ⟨_, _, _, _, _, _, rfl, _⟩ := h
    rfl
  · exact (pss_cons (ps_set (i := 2) sc_law_rows.nd rfl (Or.inl rfl) (pe_lst pa_nil))
      (Evl.pss_cut (ps_if (pt_cmpR op_eq (pe_call G_law_pull.ok (hr.mono (Nat.le_of_ble_eq_true rfl)) (by rfl) G_law_pull.g G_law_pull.kp G_law_pull.b .nil pass0 (pa_cons (pv 0) (pa_cons pe_int pa_nil))) pe_int (nomark _)) (pss_one (ps_set (i := 2) sc_law_rows.nd rfl (Or.inl rfl) (pe_call G_law_stock.ok (hr.mono (Nat.le_of_ble_eq_true rfl)) (by rfl) G_law_stock.g G_law_stock.kp G_law_stock.b .nil pass0 (pa_cons (pe_call G_law_pull.ok (hr.mono (Nat.le_of_ble_eq_true rfl)) (by rfl) G_law_pull.g G_law_pull.kp G_law_pull.b .nil pass0 (pa_cons (pv 0) (pa_cons pe_int pa_nil))) pa_nil)))) pss_nil)
      (pss_cons (ps_setLc (i := 4) (own := [("_law_k", 3)]) (g := gName 3) (tt := (tTest (tOp (rI0 fun i j => .bl (decide (i < j))) (tVar 3) (tC (.int 4))))) (te := (tTup (tCons (tC (.int 0)) (tCons (tLst (tCons (tVar 3) tNil)) tNil)))) rfl sc_law_rows.nd rfl rfl (sw_true rfl rfl rfl (by decide +kernel)) (pi_range1 (by rfl) bi.range (pa_cons (pe_callB call_len_seq (by rfl) bi.len PySem.boot_len (pa_cons (pv 2) pa_nil)) pa_nil)) (blkOk_by (own := [("_law_k", 3)]) (N := ["_law_bag_here", "_law_most", "_law_rows_here", "_law_k", "_law_loops", "_law_rank_here"]) (sc := defScope s_law_rows) (by decide +kernel)) (fun _ _ _ _ _ => pg_name (i := 3) sc_law_rows.nd rfl (Or.inl rfl)) (fun _ _ _ _ _ => pts_one (pt_cmpR op_lt (pv 3) pe_int (nomark _))) (fun _ _ _ _ _ => (pe_tup (pa_cons pe_int (pa_cons (pe_lst (pa_cons (pv 3) pa_nil)) pa_nil)))))
      (Evl.pss_cut (ps_if (pt_cmpR op_gt (pe_callB call_len_seq (by rfl) bi.len PySem.boot_len (pa_cons (pv 2) pa_nil)) pe_int (nomark _)) (pss_one (ps_set (i := 4) sc_law_rows.nd rfl (Or.inl rfl) (pe_op op_cat (pv 4) (pe_lst (pa_cons (pe_tup (pa_cons pe_int (pa_cons (pe_lst (pa_cons pe_int (pa_cons pe_int (pa_cons pe_int pa_nil)))) pa_nil))) (pa_cons (pe_tup (pa_cons pe_int (pa_cons (pe_lst (pa_cons pe_int (pa_cons pe_int (pa_cons pe_int pa_nil)))) pa_nil))) (pa_cons (pe_tup (pa_cons pe_int (pa_cons (pe_lst (pa_cons pe_int (pa_cons pe_int (pa_cons pe_int pa_nil)))) pa_nil))) pa_nil))))))) pss_nil)
      (pss_cons (ps_for PassesOwn.never rfl (pi_range1 (by rfl) bi.range (pa_cons (pe_call G_law_pull.ok (hr.mono (Nat.le_of_ble_eq_true rfl)) (by rfl) G_law_pull.g G_law_pull.kp G_law_pull.b .nil pass0 (pa_cons (pv 0) (pa_cons (pe_op op_add (pv 1) pe_int) pa_nil))) pa_nil)) (pg_name (i := 3) sc_law_rows.nd rfl (Or.inl rfl)) (pss_one (ps_if (pt_cmpR op_eq (pe_call G_law_pull.ok (hr.mono (Nat.le_of_ble_eq_true rfl)) (by rfl) G_law_pull.g G_law_pull.kp G_law_pull.b .nil pass0 (pa_cons (pv 0) (pa_cons pe_int pa_nil))) pe_int (nomark _)) (pss_one (ps_expr (pe_bm PySem.F.plainAttrs_list PySem.F.slot_list_append PySem.F.type_list_append mt_append (pv 2) (pa_cons pe_non pa_nil)))) (pss_cons (ps_set (i := 5) sc_law_rows.nd rfl (Or.inl rfl) (pe_call G_law_rank.ok (hr.mono (Nat.le_of_ble_eq_true rfl)) (by rfl) G_law_rank.g G_law_rank.kp G_law_rank.b .nil pass0 (pa_cons (pv 0) pa_nil)))
      (pss_one (ps_expr (pe_bm PySem.F.plainAttrs_list PySem.F.slot_list_append PySem.F.type_list_append mt_append (pv 2) (pa_cons (pe_tup (pa_cons (pv 5) (pa_cons (pe_call G_law_edge_by.ok (hr.mono (Nat.le_of_ble_eq_true rfl)) (by rfl) G_law_edge_by.g G_law_edge_by.kp G_law_edge_by.b .nil pass0 (pa_cons (pv 2) (pa_cons (pv 4) (pa_cons (pv 5) (pa_cons (pv 0) pa_nil))))) pa_nil))) pa_nil))))))))
      (pss_one (ps_ret (pv 2))))))))
@[irreducible] def m_is_sum (x_row : (List Int)) : Res Unit Bool := Res.bind (Res.bind (rgR (1 : Int) (x_row.length : Int)) fun l => forM (β := Bool) (fun z2 (s7 : Unit) => Res.bind (ixR x_row (z2 - (1 : Int))) fun t26 => Res.bind (ixR x_row z2) fun t27 => if (decide (t27 ≤ t26)) = true then .ok (.ret (false)) else .ok (.next ())) l ()) fun r28 => (match r28 with | .next s20 => .ok true | .ret y29 => .ok y29)
def sp_is_sum (T : Cs) (K : PySem.W.Frag) : Sp := fun vs H Q E => ∃ (A : Hp) (R : List Hp) (v_row : V) (x_row : (List Int)), vs = [v_row] ∧ St H (A :: R) ∧ Is A v_row x_row ∧ (m_is_sum x_row).wp (fun y => ∀ (A' H' : Hp) , Same A A' → St H' (A' :: R) → Q (.bl y) H') (fun _ _ => False)
def rd_is_sum (T : Cs) (K : PySem.W.Frag) (E : XK) : TS := (tSeq (tFor (iRng2 (tCons (tC (.int 1)) (tCons (tCB (Evl.rLenS K) (tCons (tVar 0) tNil)) tNil))) (gName 1) (tIfS (tTest (tOp (rI0 fun i j => .bl (decide (j ≤ i))) (tOp (rIxL K) (tVar 0) (tOp (rI0 fun i j => .int (i - j)) (tVar 1) (tC (.int 1)))) (tOp (rIxL K) (tVar 0) (tVar 1)))) (tRet (tC (.bl false))) tNext)) (tRet (tC (.bl true))))
theorem wk_is_sum {T : Cs} {K : PySem.W.Frag} {vs : List V} {H : Hp} {Q : VK} {E : XK}  (h : sp_is_sum T K vs H Q E) : rd_is_sum T K E { nx := fun _ H' => Q .non H', rt := Q } (L2.start ["row", "k"] vs) H := by
  obtain ⟨A, R, v_row, x_row, rfl, S, h_row, h⟩ := h
  unfold m_is_sum at h
  unfold rd_is_sum
  have e0 : Same A A := Same.refl _
  refine q_forR2 ?_
  refine c_cons (c_c (c_cons (c_cb (c_cons (c_var rfl (c_nil (c_len (la_of S h_row) (c_nil (?_)))))))))
  refine c_forR2 (A := A) (s0 := ()) (fun (A_ : Hp) (σ_ : L2.St) (R_ : List Hp) (s : Unit) => ∃ (y_k1 : Option V), σ_ = [some v_row, y_k1] ∧ R = R_) S (fun Q' q => q) ⟨_, rfl, rfl⟩ h (fun z2 A4 H5 σ16 R6 s7 C8 N9 hz10a hz10b e11 S12 hR14 hN15 h => ?_) (fun A17 H18 σ24 R19 s20 e21 S22 hR23 h => ?_)
  ·
    have eL25 : Same A A := Same.refl _
    obtain ⟨y_k1, rfl, rfl⟩ := hR14
    have e0 := e0.trans e11
    have eL25 := eL25.trans e11
    have h_row := up h_row e11
    refine s_when ?_
    refine c_tst (c_op (c_op (c_var rfl (c_op (c_var rfl (c_c (c_I0 (c_ixI (la_of S12 h_row) h fun t26 h => ?_))))))))
    refine c_op (c_var rfl (c_var rfl (c_ixI (la_of S12 h_row) h fun t27 h => ?_)))
    refine c_I0 (c_bl (?_))
    refine c_if h (fun hc h => ?_) (fun hc h => ?_)
    ·
      refine s_ret ?_
      refine c_c (?_)
      exact h (A4) (H5) e0 S12 
    ·
      exact hN15 _ _ _ _ () eL25 S12 ⟨_, rfl, rfl⟩ h
  ·
    refine nx_mk ?_
    obtain ⟨y_k1, rfl, rfl⟩ := hR23
    have e0 := e0.trans e21
    have h_row := up h_row e21
    refine s_ret ?_
    refine c_c (?_)
    exact h (A17) (H18) e0 S22 
abbrev s_is_sum : Stmt := topS 15
theorem sc_is_sum : FnScope ["row", "k"] ["row"] (defScope s_is_sum) := ⟨rfl, rfl, rfl, by decide +kernel, rfl, by decide +kernel, by decide +kernel⟩
theorem ok_is_sum {P : Program} {w : World} {K : PySem.W.Frag} {mg : Str → Option Value} {base : Heap} {T : Cs} {f : Addr} {fd : FuncData}  (F : Fun K "is_sum" "is_sum" s_is_sum f fd) (bi : Bi mg)    : FnOk P w K mg base CX0 1 f fd ["row"] (sp_is_sum T K) := by
  refine F.ok sc_is_sum (fun vs H Q E h => ?_) (fun cdv A outer s H vs Q E hr h => ⟨rd_is_sum T K E, ?_, wk_is_sum  h⟩)
  · obtain ⟨_, _, _, _, rfl, _⟩ := h
    rfl
  · exact (pss_cons (ps_for PassesOwn.never rfl (pi_range2 (by rfl) bi.range (pa_cons pe_int (pa_cons (pe_callB call_len_seq (by rfl) bi.len PySem.boot_len (pa_cons (pv 0) pa_nil)) pa_nil))) (pg_name (i := 1) sc_is_sum.nd rfl (Or.inl rfl)) (pss_one (ps_if (pt_cmpR op_ge (pe_ix ix_list (pv 0) (pe_op op_sub (pv 1) pe_int) (fun _ _ => rfl)) (pe_ix ix_list (pv 0) (pv 1) (fun _ _ => rfl)) (nomark _)) (pss_one (ps_ret pe_bl)) pss_nil)))
      (pss_one (ps_ret pe_bl)))
@[irreducible] def m_checked (x_row : (List Int)) : Res Unit (List Int) := Res.bind (Res.noex (m_is_sum x_row)) fun y1 => if (!y1) = true then .ex (.plain 0) () else .ok x_row
def sp_checked (T : Cs) (K : PySem.W.Frag) : Sp := fun vs H Q E => ∃ (A : Hp) (R : List Hp) (v_row : V) (x_row : (List Int)), vs = [v_row] ∧ St H (A :: R) ∧ Is A v_row x_row ∧ (m_checked x_row).wp (fun y => ∀ (A' H' : Hp) (p : Addr) (ws : List V), Same A A' → St H' (A' :: one p (.lst ws) :: R) → OL A' ws y → Q (.ref p) H') (fun e w => ∀ (A' H' : Hp)  (cls : Value) (d : Option Addr), Same A A' → St H' (A' :: R) → XA T e cls d A A' → E cls d H')
def rd_checked (T : Cs) (K : PySem.W.Frag) (E : XK) : TS := (tSeq (tIfS (tNot (tB (tCall (sp_is_sum T K) [] E0 (tCons (tVar 0) tNil)))) (tRaise0 E (T.ex 0)) tNext) (tRet (tCB (Evl.rListS K) (tCons (tVar 0) tNil))))
theorem wk_checked {T : Cs} {K : PySem.W.Frag} {vs : List V} {H : Hp} {Q : VK} {E : XK}  (h : sp_checked T K vs H Q E) : rd_checked T K E { nx := fun _ H' => Q .non H', rt := Q } (L2.start ["row"] vs) H := by
  obtain ⟨A, R, v_row, x_row, rfl, S, h_row, h⟩ := h
  unfold m_checked at h
  unfold rd_checked
  have e0 : Same A A := Same.refl _
  refine q_when ?_
  refine c_not (b := true) (c_tb (c_call (c_cons (c_var rfl (c_nil (⟨A, (R), v_row, x_row, rfl, S, h_row, ?_⟩))))))
  refine Res.wp_mono (Res.wp_noex (Res.wp_bind h)) (fun y1 h A2 H3 e4 S5 => ?_) (fun _ _ h => h.elim)
  have e0 := e0.trans e4
  have h_row := up h_row e4
  refine c_bl (?_)
  refine c_if h (fun hc h => ?_) (fun hc h => ?_)
  ·
    refine s_raise ?_
    exact h A2 H3  _ _ e0 S5  ⟨rfl, rfl⟩
  ·
    refine s_ret ?_
    refine c_cb (c_cons (c_var rfl (c_nil (c_list (la_of S5 h_row) (ow S5 fun p6 ws7 H8 S9 h10 => ?_)))))
    exact h (A2) (H8) (p6) (ws7) e0 S9 h10
abbrev s_checked : Stmt := topS 16
theorem sc_checked : FnScope ["row"] ["row"] (defScope s_checked) := ⟨rfl, rfl, rfl, by decide +kernel, rfl, by decide +kernel, by decide +kernel⟩
theorem ok_checked {P : Program} {w : World} {K : PySem.W.Frag} {mg : Str → Option Value} {base : Heap} {T : Cs} {f : Addr} {fd : FuncData} {f_is_sum : Addr} {fd_is_sum : FuncData} (F : Fun K "checked" "checked" s_checked f fd) (bi : Bi mg) (G_is_sum : Glob P w K mg base CX0 1 "is_sum" ["row"] (sp_is_sum T K) f_is_sum fd_is_sum) (X_NotASum : ExC K mg "NotASum" (T.ex 0))  : FnOk P w K mg base (L2.CX P w) 2 f fd ["row"] (sp_checked T K) := by
  refine F.okX sc_checked (fun vs H Q E h => ?_) (fun cdv A outer s H vs Q E hr h => ⟨rd_checked T K E, ?_, wk_checked  h⟩)
  · obtain ⟨_, _, _, _, rfl, _⟩ := h
    rfl
  · exact (pss_cons (ps_if (pt_not (pt_val (pe_call G_is_sum.ok (hr.mono (Nat.le_of_ble_eq_true rfl)) (by rfl) G_is_sum.g G_is_sum.kp G_is_sum.b .nil pass0 (pa_cons (pv 0) pa_nil)))) (pss_one (ps_raise rfl (takes_of rfl rfl rfl rfl) (pmk_own PySem.F.excBase_ValueError X_NotASum.x X_NotASum.g X_NotASum.kp (raises_own X_NotASum.b X_NotASum.t) (by rfl)))) pss_nil)
      (pss_one (ps_ret (pe_callTy call_list_of (by rfl) bi.list boot_list (pa_cons (pv 0) pa_nil)))))
@[irreducible] def m_Body_known {t : Bool} (x_self : (FS t)) (x_row : (List Int)) : Res Unit Unit := Res.bind (forM (β := Unit) (fun z2 (s7 : Unit) => if (!(agt x_self.ranks z2).isSome) = true then .ex (.plain 1) () else .ok (.next ())) x_row ()) fun r31 => (match r31 with | .next s20 => .ok () | .ret y32 => .ok y32)
def sp_Body_known (t : Bool) (T : Cs) (K : PySem.W.Frag) : Sp := fun vs H Q E => ∃ (A : Hp) (R : List Hp) (m_self : Hp) (v_self : V) (x_self : (FS t)) (v_row : V) (x_row : (List Int)), vs = [v_self, v_row] ∧ St H (A :: m_self :: R) ∧ Ob.isAt T A m_self v_self x_self ∧ Is A v_row x_row ∧ (m_Body_known x_self x_row).wp (fun y => ∀ (A' H' : Hp) , Same A A' → St H' (A' :: m_self :: R) → Q .non H') (fun e w => ∀ (A' H' : Hp)  (cls : Value) (d : Option Addr), Same A A' → St H' (A' :: m_self :: R) → XA T e cls d A A' → E cls d H')
def rd_Body_known (t : Bool) (T : Cs) (K : PySem.W.Frag) (E : XK) : TS := (tFor (iList K (tVar 1)) (gName 2) (tIfS (tB (tDNotIn (tVar 2) (tFld K (tVar 0) "ranks"))) (tRaise0 E (T.ex 1)) tNext))
theorem wk_Body_known {t : Bool} {T : Cs} {K : PySem.W.Frag} {vs : List V} {H : Hp} {Q : VK} {E : XK} (kl_t : Kl K (T.cls t) t) (h : sp_Body_known t T K vs H Q E) : rd_Body_known t T K E { nx := fun _ H' => Q .non H', rt := Q } (L2.start ["self", "row", "cell"] vs) H := by
  obtain ⟨A, R, m_self, v_self, x_self, v_row, x_row, rfl, S, h_self, h_row, h⟩ := h
  unfold m_Body_known at h
  unfold rd_Body_known
  have e0 : Same A A := Same.refl _
  refine s_forL ?_
  refine c_var rfl (?_)
  refine c_forL (A := A) (s0 := ()) (fun (A_ : Hp) (σ_ : L2.St) (R_ : List Hp) (s : Unit) => ∃ (y_cell1 : Option V), σ_ = [some v_self, some v_row, y_cell1] ∧ m_self :: R = R_) S (fun Q' q => q) h_row ⟨_, rfl, rfl⟩ h (fun z2 w3 A4 H5 σ16 R6 s7 C8 N9 hz10 e11 S12 h13 hR14 hN15 h => ?_) (fun A17 H18 σ24 R19 s20 e21 S22 hR23 h => ?_)
  ·
    have eL25 : Same A A := Same.refl _
    obtain ⟨y_cell1, rfl, rfl⟩ := hR14
    have e0 := e0.trans e11
    have eL25 := eL25.trans e11
    have h_self := upO h_self e11
    have h_row := up h_row e11
    obtain rfl : w3 = (.int z2) := h13
    refine s_when ?_
    refine c_tb (c_dnotin (c_var rfl (c_fld (c_var rfl (f_ranks kl_t S12 h_self fun d26 kv27 hd28 hk29 cap30 => ?_)))))
    refine d_notin hd28 hk29 (c_bl (?_))
    refine c_if h (fun hc h => ?_) (fun hc h => ?_)
    ·
      refine s_raise ?_
      exact h A4 H5  _ _ e0 S12  ⟨rfl, rfl⟩
    ·
      exact hN15 _ _ _ _ () eL25 S12 ⟨_, rfl, rfl⟩ h
  ·
    obtain ⟨y_cell1, rfl, rfl⟩ := hR23
    have e0 := e0.trans e21
    have h_self := upO h_self e21
    have h_row := up h_row e21
    exact h (A17) (H18) e0 S22 
abbrev s_Body_known : Stmt := inClass (topS 21) 2
theorem sc_Body_known : FnScope ["self", "row", "cell"] ["self", "row"] (defScope s_Body_known) := ⟨rfl, rfl, rfl, by decide +kernel, rfl, by decide +kernel, by decide +kernel⟩
theorem ok_Body_known {P : Program} {w : World} {K : PySem.W.Frag} {mg : Str → Option Value} {base : Heap} {T : Cs} {t : Bool} {f : Addr} {fd : FuncData}  (F : Fun K "known" "Body.known" s_Body_known f fd) (bi : Bi mg)  (X_NoCell : ExC K mg "NoCell" (T.ex 1)) (kl_t : Kl K (T.cls t) t) : FnOk P w K mg base (L2.CX P w) 1 f fd ["self", "row"] (sp_Body_known t T K) := by
  refine F.okX sc_Body_known (fun vs H Q E h => ?_) (fun cdv A outer s H vs Q E hr h => ⟨rd_Body_known t T K E, ?_, wk_Body_known kl_t h⟩)
  · obtain ⟨_, _, _, _, _, _, _, rfl, _⟩ := h
    rfl
  · exact (pss_one (ps_for (passes_of rfl) rfl (pi_list (pv 1)) (pg_name (i := 2) sc_Body_known.nd rfl (Or.inl rfl)) (pss_one (ps_if (pt_cmp (pc_dnotin (hu_of hr) (pv 2) (pe_fld (pv 0) rfl)) rfl) (pss_one (ps_raise rfl (takes_of rfl rfl rfl rfl) (pmk_own PySem.F.excBase_ValueError X_NoCell.x X_NoCell.g X_NoCell.kp (raises_own X_NoCell.b X_NoCell.t) (by rfl)))) pss_nil))))
@[irreducible] def m_Body_asked {t : Bool} (x_self : (FS t)) (x_row : (List Int)) : Res Unit (List Int) := Res.bind (Res.lift (fun w => ()) (m_checked x_row)) fun y1 => Res.bind (Res.lift (fun w => ()) (m_Body_known x_self y1)) fun y14 => .ok y1
def sp_Body_asked (t : Bool) (T : Cs) (K : PySem.W.Frag) : Sp := fun vs H Q E => ∃ (A : Hp) (R : List Hp) (m_self : Hp) (v_self : V) (x_self : (FS t)) (v_row : V) (x_row : (List Int)), vs = [v_self, v_row] ∧ St H (A :: m_self :: R) ∧ Ob.isAt T A m_self v_self x_self ∧ Is A v_row x_row ∧ (m_Body_asked x_self x_row).wp (fun y => ∀ (A' H' : Hp) (p : Addr) (ws : List V), Same A A' → St H' (A' :: one p (.lst ws) :: m_self :: R) → OL A' ws y → Q (.ref p) H') (fun e w => ∀ (A' H' : Hp)  (cls : Value) (d : Option Addr), Same A A' → St H' (A' :: m_self :: R) → XA T e cls d A A' → E cls d H')
def rd_Body_asked (t : Bool) (T : Cs) (K : PySem.W.Frag) (E : XK) : TS := (tSeq (tAsg (tCall (sp_checked T K) [] E (tCons (tVar 1) tNil)) (gName 2)) (tSeq (tDrop (tMeth (T.cls t) "known" (sp_Body_known t T K) [] E (tVar 0) (tCons (tVar 2) tNil))) (tRet (tVar 2))))
theorem wk_Body_asked {t : Bool} {T : Cs} {K : PySem.W.Frag} {vs : List V} {H : Hp} {Q : VK} {E : XK} (kl_t : Kl K (T.cls t) t) (h : sp_Body_asked t T K vs H Q E) : rd_Body_asked t T K E { nx := fun _ H' => Q .non H', rt := Q } (L2.start ["self", "row", "kept"] vs) H := by
  obtain ⟨A, R, m_self, v_self, x_self, v_row, x_row, rfl, S, h_self, h_row, h⟩ := h
  unfold m_Body_asked at h
  unfold rd_Body_asked
  have e0 : Same A A := Same.refl _
  refine q_asg ?_
  refine c_call (c_cons (c_var rfl (c_nil (⟨A, (m_self :: R), v_row, x_row, rfl, S, h_row, ?_⟩))))
  refine Res.wp_mono (Res.wp_lift (Res.wp_bind h)) (fun y1 h A2 H3 p6 ws7 e4 S5 h8 => ?_) (fun e w he AX HX  cls d eX SX  hx => by
      exact he AX HX  cls d (e0.trans eX) SX  (xa_base e0 hx))
  have e0 := e0.trans e4
  have h_self := upO h_self e4
  have h_row := up h_row e4
  refine q_drop ?_
  have S9 : St H3 (A2 :: m_self :: (one p6 (.lst ws7)) :: R) := S5.pick 1 (Nat.le_of_ble_eq_true rfl)
  have S10 : St H3 (A2 :: (one p6 (.lst ws7)) :: m_self :: R) := S9.pick 1 (Nat.le_of_ble_eq_true rfl)
  have h13 := frz_is h8 S10
  have S11 := S10.frz
  have e12 := same_join_l (A := A2) (B := (one p6 (.lst ws7)))
  refine c_met (c_var rfl (f_met S9 h_self (by decide +kernel) (c_cons (c_var rfl (c_nil (⟨(join A2 (one p6 (.lst ws7))), (R), m_self, v_self, x_self, (.ref p6), y1, rfl, S11, (upO h_self e12), h13, ?_⟩))))))
  refine Res.wp_mono (Res.wp_lift (Res.wp_bind h)) (fun y14 h A15 H16 e17 S18 => ?_) (fun e w he AX HX  cls d eX SX  hx => by
      have SY1 := SX.back1 ((same_join_r S10.dj).trans eX)
      have eY1 := same_minus S10 eX
      have S19 : St HX ((minus AX (one p6 (.lst ws7))) :: m_self :: (one p6 (.lst ws7)) :: R) := SY1.pick 1 (Nat.le_of_ble_eq_true rfl)
      have S20 : St HX ((minus AX (one p6 (.lst ws7))) :: m_self :: R) := S19.drop 1 (Nat.le_of_ble_eq_true rfl)
      exact he (minus AX (one p6 (.lst ws7))) HX  cls d (e0.trans eY1) S20  (xa_base e0 (xa_back S10 hx)))
  have S21 := S18.back1 ((same_join_r S10.dj).trans e17)
  have e22 := same_minus S10 e17
  generalize minus A15 (one p6 (.lst ws7)) = A23 at S21 e22
  have e0 := e0.trans e22
  have h_self := upO h_self e22
  have h_row := up h_row e22
  have h8 := OL.up h8 e22
  refine s_ret ?_
  refine c_var rfl (?_)
  exact h (A23) (H16) (p6) (ws7) e0 S21 h8
abbrev s_Body_asked : Stmt := inClass (topS 21) 3
theorem sc_Body_asked : FnScope ["self", "row", "kept"] ["self", "row"] (defScope s_Body_asked) := ⟨rfl, rfl, rfl, by decide +kernel, rfl, by decide +kernel, by decide +kernel⟩
theorem ok_Body_asked {P : Program} {w : World} {K : PySem.W.Frag} {mg : Str → Option Value} {base : Heap} {T : Cs} {t : Bool} {f : Addr} {fd : FuncData} {f_checked : Addr} {fd_checked : FuncData} {f_Body_known_t : Addr} {fd_Body_known_t : FuncData} (F : Fun K "asked" "Body.asked" s_Body_asked f fd) (bi : Bi mg) (G_checked : Glob P w K mg base (L2.CX P w) 2 "checked" ["row"] (sp_checked T K) f_checked fd_checked) (G_Body_known_t : MGlob P w K mg base (L2.CX P w) 1 (T.cls t) "known" ["self", "row"] (sp_Body_known t T K) f_Body_known_t fd_Body_known_t)  (kl_t : Kl K (T.cls t) t) : FnOk P w K mg base (L2.CX P w) 3 f fd ["self", "row"] (sp_Body_asked t T K) := by
  refine F.okX sc_Body_asked (fun vs H Q E h => ?_) (fun cdv A outer s H vs Q E hr h => ⟨rd_Body_asked t T K E, ?_, wk_Body_asked kl_t h⟩)
  · obtain ⟨_, _, _, _, _, _, _, rfl, _⟩ := h
    rfl
  · exact (pss_cons (ps_set (i := 2) sc_Body_asked.nd rfl (Or.inl rfl) (pe_call G_checked.ok (hr.mono (Nat.le_of_ble_eq_true rfl)) (by rfl) G_checked.g G_checked.kp G_checked.b .nil (passes_call (takes_of rfl rfl rfl rfl) (fun _ _ _ _ h => h)) (pa_cons (pv 1) pa_nil)))
      (pss_cons (ps_expr (pe_meth (pv 0) kl_t.cl G_Body_known_t.mt G_Body_known_t.ok (hr.mono (Nat.le_of_ble_eq_true rfl)) G_Body_known_t.b .nil (passes_call (takes_of rfl rfl rfl rfl) (fun _ _ _ _ h => h)) (pa_cons (pv 2) pa_nil)))
      (pss_one (ps_ret (pv 2)))))
@[irreducible] def m_Body_ranked {t : Bool} (x_self : (FS t)) (x_row : (List Int)) (x_rank : Int) : Res Unit Unit := Res.bind (forM (β := Unit) (fun z2 (s7 : Unit) => Res.bind (agR x_self.ranks z2) fun t31 => if (!(decide (t31 = x_rank))) = true then .ex (.plain 3) () else .ok (.next ())) x_row ()) fun r32 => (match r32 with | .next s20 => .ok () | .ret y33 => .ok y33)
def sp_Body_ranked (t : Bool) (T : Cs) (K : PySem.W.Frag) : Sp := fun vs H Q E => ∃ (A : Hp) (R : List Hp) (m_self : Hp) (v_self : V) (x_self : (FS t)) (v_row : V) (x_row : (List Int)) (x_rank : Int), vs = [v_self, v_row, (.int x_rank)] ∧ St H (A :: m_self :: R) ∧ Ob.isAt T A m_self v_self x_self ∧ Is A v_row x_row ∧ (m_Body_ranked x_self x_row x_rank).wp (fun y => ∀ (A' H' : Hp) , Same A A' → St H' (A' :: m_self :: R) → Q .non H') (fun e w => ∀ (A' H' : Hp)  (cls : Value) (d : Option Addr), Same A A' → St H' (A' :: m_self :: R) → XA T e cls d A A' → E cls d H')
def rd_Body_ranked (t : Bool) (T : Cs) (K : PySem.W.Frag) (E : XK) : TS := (tFor (iList K (tVar 1)) (gName 3) (tIfS (tTest (tOp rNe (tDGet (tFld K (tVar 0) "ranks") (tVar 3)) (tVar 2))) (tRaise0 E (T.ex 3)) tNext))
theorem wk_Body_ranked {t : Bool} {T : Cs} {K : PySem.W.Frag} {vs : List V} {H : Hp} {Q : VK} {E : XK} (kl_t : Kl K (T.cls t) t) (h : sp_Body_ranked t T K vs H Q E) : rd_Body_ranked t T K E { nx := fun _ H' => Q .non H', rt := Q } (L2.start ["self", "row", "rank", "cell"] vs) H := by
  obtain ⟨A, R, m_self, v_self, x_self, v_row, x_row, x_rank, rfl, S, h_self, h_row, h⟩ := h
  unfold m_Body_ranked at h
  unfold rd_Body_ranked
  have e0 : Same A A := Same.refl _
  refine s_forL ?_
  refine c_var rfl (?_)
  refine c_forL (A := A) (s0 := ()) (fun (A_ : Hp) (σ_ : L2.St) (R_ : List Hp) (s : Unit) => ∃ (y_cell1 : Option V), σ_ = [some v_self, some v_row, some (.int x_rank), y_cell1] ∧ m_self :: R = R_) S (fun Q' q => q) h_row ⟨_, rfl, rfl⟩ h (fun z2 w3 A4 H5 σ16 R6 s7 C8 N9 hz10 e11 S12 h13 hR14 hN15 h => ?_) (fun A17 H18 σ24 R19 s20 e21 S22 hR23 h => ?_)
  ·
    have eL25 : Same A A := Same.refl _
    obtain ⟨y_cell1, rfl, rfl⟩ := hR14
    have e0 := e0.trans e11
    have eL25 := eL25.trans e11
    have h_self := upO h_self e11
    have h_row := up h_row e11
    obtain rfl : w3 = (.int z2) := h13
    refine s_when ?_
    refine c_tst (c_op (c_dget (c_fld (c_var rfl (f_ranks kl_t S12 h_self fun d26 kv27 hd28 hk29 cap30 => ?_)))))
    refine c_var rfl (d_getI hd28 hk29 h fun t31 h => ?_)
    refine c_var rfl (c_neI (c_bl (?_)))
    refine c_if h (fun hc h => ?_) (fun hc h => ?_)
    ·
      refine s_raise ?_
      exact h A4 H5  _ _ e0 S12  ⟨rfl, rfl⟩
    ·
      exact hN15 _ _ _ _ () eL25 S12 ⟨_, rfl, rfl⟩ h
  ·
    obtain ⟨y_cell1, rfl, rfl⟩ := hR23
    have e0 := e0.trans e21
    have h_self := upO h_self e21
    have h_row := up h_row e21
    exact h (A17) (H18) e0 S22 
abbrev s_Body_ranked : Stmt := inClass (topS 21) 13
theorem sc_Body_ranked : FnScope ["self", "row", "rank", "cell"] ["self", "row", "rank"] (defScope s_Body_ranked) := ⟨rfl, rfl, rfl, by decide +kernel, rfl, by decide +kernel, by decide +kernel⟩
theorem ok_Body_ranked {P : Program} {w : World} {K : PySem.W.Frag} {mg : Str → Option Value} {base : Heap} {T : Cs} {t : Bool} {f : Addr} {fd : FuncData}  (F : Fun K "ranked" "Body.ranked" s_Body_ranked f fd) (bi : Bi mg)  (X_OtherRank : ExC K mg "OtherRank" (T.ex 3)) (kl_t : Kl K (T.cls t) t) : FnOk P w K mg base (L2.CX P w) 1 f fd ["self", "row", "rank"] (sp_Body_ranked t T K) := by
  refine F.okX sc_Body_ranked (fun vs H Q E h => ?_) (fun cdv A outer s H vs Q E hr h => ⟨rd_Body_ranked t T K E, ?_, wk_Body_ranked kl_t h⟩)
  · obtain ⟨_, _, _, _, _, _, _, _, rfl, _⟩ := h
    rfl
  · exact (pss_one (ps_for (passes_of rfl) rfl (pi_list (pv 1)) (pg_name (i := 3) sc_Body_ranked.nd rfl (Or.inl rfl)) (pss_one (ps_if (pt_cmpR op_ne (pe_dget (hu_of hr) (pe_fld (pv 0) rfl) (pv 3) (fun _ _ => rfl)) (pv 2) (nomark _)) (pss_one (ps_raise rfl (takes_of rfl rfl rfl rfl) (pmk_own PySem.F.excBase_ValueError X_OtherRank.x X_OtherRank.g X_OtherRank.kp (raises_own X_OtherRank.b X_OtherRank.t) (by rfl)))) pss_nil))))
@[irreducible] def m_joined (x_one : (List Int)) (x_other : (List Int)) : Res Unit (List Int) := Res.bind (.ok ((x_one.filter (fun z1 => (!(decide (z1 ∈ x_other))))).map (fun z1 => z1))) fun t31 => Res.bind (.ok ((x_other.filter (fun z43 => (!(decide (z43 ∈ x_one))))).map (fun z43 => z43))) fun t73 => Res.bind (catR t31 t73) fun t85 => Res.bind (.ok (sortI t85)) fun t91 => .ok t91
def sp_joined (T : Cs) (K : PySem.W.Frag) : Sp := fun vs H Q E => ∃ (A : Hp) (R : List Hp) (v_one : V) (x_one : (List Int)) (v_other : V) (x_other : (List Int)), vs = [v_one, v_other] ∧ St H (A :: R) ∧ Is A v_one x_one ∧ Is A v_other x_other ∧ (m_joined x_one x_other).wp (fun y => ∀ (A' H' : Hp) (p : Addr) (ws : List V), Same A A' → St H' (A' :: one p (.lst ws) :: R) → OL A' ws y → Q (.ref p) H') (fun _ _ => False)
def rd_joined (T : Cs) (K : PySem.W.Frag) (E : XK) : TS := (tSeq (tAsg (tLc (iList K (tVar 0)) (gName 4) (tTest (tOp (rIn K true) (tVar 4) (tVar 1))) (tVar 4) [4]) (gName 2)) (tSeq (tAsg (tLc (iList K (tVar 1)) (gName 4) (tTest (tOp (rIn K true) (tVar 4) (tVar 0))) (tVar 4) [4]) (gName 3)) (tRet (tCB (rSortedI K) (tCons (tOp rCat (tVar 2) (tVar 3)) tNil)))))
theorem wk_joined {T : Cs} {K : PySem.W.Frag} {vs : List V} {H : Hp} {Q : VK} {E : XK}  (h : sp_joined T K vs H Q E) : rd_joined T K E { nx := fun _ H' => Q .non H', rt := Q } (L2.start ["one", "other", "left", "right", "x"] vs) H := by
  obtain ⟨A, R, v_one, x_one, v_other, x_other, rfl, S, h_one, h_other, h⟩ := h
  unfold m_joined at h
  unfold rd_joined
  have e0 : Same A A := Same.refl _
  refine q_asg ?_
  refine c_lcE ?_
  refine c_var rfl (?_)
  refine c_lcL (A := A) (R := R) (tt := (tTest (tOp (rIn K true) (tVar 4) (tVar 1)))) (te := (tVar 4)) (vs := [4]) (j := 4) (xs := x_one) (fun z1 => (!(decide (z1 ∈ x_other)))) (fun z1 => z1) S (fun Q' q => q) h_one h (fun _ => rfl) ?_ ?_ (fun p32 A33 H34 ws35 t31 h e36 S37 h38 => ?_)
  ·
    intro z1 w2 A3 n4 hm14 e7 h12 A5 H6 e8 S9 Q10 hk11
    have e0 := e0.trans (e7.trans e8)
    have e15 := e7.trans e8
    have h_one := up h_one e15
    have h_other := up h_other e15
    have eC16 : Same A5 A5 := Same.refl _
    have h12 := up h12 e8
    obtain rfl : w2 = (.int z1) := h12
    refine c_tst (c_op (c_var rfl (c_var rfl (c_notin (la_of S9 h_other) (c_bl (?_))))))
    exact hk11 _ _ eC16 S9
  ·
    intro z1 w2 A17 n18 hm28 e21 h26 hf27 A19 H20 e22 S23 Q24 hk25
    have e0 := e0.trans (e21.trans e22)
    have e29 := e21.trans e22
    have h_one := up h_one e29
    have h_other := up h_other e29
    have eC30 : Same A19 A19 := Same.refl _
    have h26 := up h26 e22
    obtain rfl : w2 = (.int z1) := h26
    refine c_var rfl (?_)
    exact hk25 _ _ _ eC30 S23 rfl
  ·
    have e0 := e0.trans e36
    have h_one := up h_one e36
    have h_other := up h_other e36
    have h40 := frz_is h38 S37
    have S41 := S37.frz
    have e39 := same_join_l (A := A33) (B := (one p32 (.lst ws35)))
    generalize hjA42 : join A33 (one p32 (.lst ws35)) = A42 at h40 S41 e39
    clear hjA42
    have e0 := e0.trans e39
    have h_one := up h_one e39
    have h_other := up h_other e39
    refine q_asg ?_
    refine c_lcE ?_
    refine c_var rfl (?_)
    refine c_lcL (A := A42) (R := R) (tt := (tTest (tOp (rIn K true) (tVar 4) (tVar 0)))) (te := (tVar 4)) (vs := [4]) (j := 4) (xs := x_other) (fun z43 => (!(decide (z43 ∈ x_one)))) (fun z43 => z43) S41 (fun Q' q => q) h_other h (fun _ => rfl) ?_ ?_ (fun p74 A75 H76 ws77 t73 h e78 S79 h80 => ?_)
    ·
      intro z43 w44 A45 n46 hm56 e49 h54 A47 H48 e50 S51 Q52 hk53
      have e0 := e0.trans (e49.trans e50)
      have e57 := e49.trans e50
      have h_one := up h_one e57
      have h_other := up h_other e57
      have h40 := up h40 e57
      have eC58 : Same A47 A47 := Same.refl _
      have h54 := up h54 e50
      obtain rfl : w44 = (.int z43) := h54
      refine c_tst (c_op (c_var rfl (c_var rfl (c_notin (la_of S51 h_one) (c_bl (?_))))))
      exact hk53 _ _ eC58 S51
    ·
      intro z43 w44 A59 n60 hm70 e63 h68 hf69 A61 H62 e64 S65 Q66 hk67
      have e0 := e0.trans (e63.trans e64)
      have e71 := e63.trans e64
      have h_one := up h_one e71
      have h_other := up h_other e71
      have h40 := up h40 e71
      have eC72 : Same A61 A61 := Same.refl _
      have h68 := up h68 e64
      obtain rfl : w44 = (.int z43) := h68
      refine c_var rfl (?_)
      exact hk67 _ _ _ eC72 S65 rfl
    ·
      have e0 := e0.trans e78
      have h_one := up h_one e78
      have h_other := up h_other e78
      have h40 := up h40 e78
      have h82 := frz_is h80 S79
      have S83 := S79.frz
      have e81 := same_join_l (A := A75) (B := (one p74 (.lst ws77)))
      generalize hjA84 : join A75 (one p74 (.lst ws77)) = A84 at h82 S83 e81
      clear hjA84
      have e0 := e0.trans e81
      have h_one := up h_one e81
      have h_other := up h_other e81
      have h40 := up h40 e81
      refine s_ret ?_
      refine c_cb (c_cons (c_op (c_var rfl (c_var rfl (c_cat (la_of S83 h40) (la_of S83 h82) h fun t85 h => (ow S83 fun p86 ws87 H88 S89 h90 => ?_))))))
      refine c_nil (c_sorted ⟨_, _, rfl, (S89.mem _ (List.mem_of_getElem? (i := 1) rfl)) _ _ one_same, h90⟩ h fun t91 h => (ow S89 fun p92 ws93 H94 S95 h96 => ?_))
      have S97 : St H94 (A84 :: (one p92 (.lst ws93)) :: R) := S95.drop 1 (Nat.le_of_ble_eq_true rfl)
      exact h (A84) (H94) (p92) (ws93) e0 S97 h96
abbrev s_joined : Stmt := topS 17
theorem sc_joined : FnScope ["one", "other", "left", "right", "x"] ["one", "other"] (defScope s_joined) := ⟨rfl, rfl, rfl, by decide +kernel, rfl, by decide +kernel, by decide +kernel⟩
theorem ok_joined {P : Program} {w : World} {K : PySem.W.Frag} {mg : Str → Option Value} {base : Heap} {T : Cs} {f : Addr} {fd : FuncData}  (F : Fun K "joined" "joined" s_joined f fd) (bi : Bi mg)    : FnOk P w K mg base CX0 1 f fd ["one", "other"] (sp_joined T K) := by
  refine F.ok sc_joined (fun vs H Q E h => ?_) (fun cdv A outer s H vs Q E hr h => ⟨rd_joined T K E, ?_, wk_joined  h⟩)
  · obtain ⟨_, _, _, _, _, _, rfl, _⟩ := h
    rfl
  · exact (pss_cons (ps_setLc (i := 2) (own := [("x", 4)]) (g := gName 4) (tt := (tTest (tOp (rIn K true) (tVar 4) (tVar 1)))) (te := (tVar 4)) rfl sc_joined.nd rfl rfl (sw_true rfl rfl rfl (by decide +kernel)) (pi_list (pv 0)) (blkOk_by (own := [("x", 4)]) (N := ["one", "other", "left", "right", "x"]) (sc := defScope s_joined) (by decide +kernel)) (fun _ _ _ _ _ => pg_name (i := 4) sc_joined.nd rfl (Or.inl rfl)) (fun _ _ _ _ _ => pts_one (pt_cmpR op_notIn_seq (pv 4) (pv 1) rfl)) (fun _ _ _ _ _ => (pv 4)))
      (pss_cons (ps_setLc (i := 3) (own := [("x", 4)]) (g := gName 4) (tt := (tTest (tOp (rIn K true) (tVar 4) (tVar 0)))) (te := (tVar 4)) rfl sc_joined.nd rfl rfl (sw_true rfl rfl rfl (by decide +kernel)) (pi_list (pv 1)) (blkOk_by (own := [("x", 4)]) (N := ["one", "other", "left", "right", "x"]) (sc := defScope s_joined) (by decide +kernel)) (fun _ _ _ _ _ => pg_name (i := 4) sc_joined.nd rfl (Or.inl rfl)) (fun _ _ _ _ _ => pts_one (pt_cmpR op_notIn_seq (pv 4) (pv 0) rfl)) (fun _ _ _ _ _ => (pv 4)))
      (pss_one (ps_ret (pe_callB cr_sortedI (by rfl) bi.sorted boot_sorted (pa_cons (pe_op op_cat (pv 2) (pv 3)) pa_nil))))))
@[irreducible] def m_Body_edge_of {t : Bool} (x_self : (FS t)) (x_row : (List Int)) : Res Unit (List Int) := Res.bind (forM (β := (List Int)) (fun z7 (s12 : (List Int)) => Res.bind (agR x_self.edges z7) fun t38 => Res.bind (Res.noex (m_joined s12 t38)) fun y45 => .ok (.next y45)) x_row ([] : List Int)) fun r58 => (match r58 with | .next s25 => .ok s25 | .ret y59 => .ok y59)
def sp_Body_edge_of (t : Bool) (T : Cs) (K : PySem.W.Frag) : Sp := fun vs H Q E => ∃ (A : Hp) (R : List Hp) (m_self : Hp) (v_self : V) (x_self : (FS t)) (v_row : V) (x_row : (List Int)), vs = [v_self, v_row] ∧ St H (A :: m_self :: R) ∧ Ob.isAt T A m_self v_self x_self ∧ Is A v_row x_row ∧ (m_Body_edge_of x_self x_row).wp (fun y => ∀ (A' H' : Hp) (p : Addr) (ws : List V), Same A A' → St H' (A' :: one p (.lst ws) :: m_self :: R) → OL A' ws y → Q (.ref p) H') (fun _ _ => False)
def rd_Body_edge_of (t : Bool) (T : Cs) (K : PySem.W.Frag) (E : XK) : TS := (tSeq (tAsg (tLst tNil) (gName 2)) (tSeq (tFor (iList K (tVar 1)) (gName 3) (tAsg (tCall (sp_joined T K) [] E0 (tCons (tVar 2) (tCons (tDGet (tFld K (tVar 0) "edges") (tVar 3)) tNil))) (gName 2))) (tRet (tVar 2))))
theorem wk_Body_edge_of {t : Bool} {T : Cs} {K : PySem.W.Frag} {vs : List V} {H : Hp} {Q : VK} {E : XK} (kl_t : Kl K (T.cls t) t) (h : sp_Body_edge_of t T K vs H Q E) : rd_Body_edge_of t T K E { nx := fun _ H' => Q .non H', rt := Q } (L2.start ["self", "row", "found", "cell"] vs) H := by
  obtain ⟨A, R, m_self, v_self, x_self, v_row, x_row, rfl, S, h_self, h_row, h⟩ := h
  unfold m_Body_edge_of at h
  unfold rd_Body_edge_of
  have e0 : Same A A := Same.refl _
  refine q_asg ?_
  refine c_tlst (c_nil (c_lst (α := Int) (vs := []) (xs := []) (Nat.le_of_ble_eq_true rfl) trivial (ow S fun p1 ws2 H3 S4 h5 => ?_)))
  refine q_forL ?_
  refine c_var rfl (?_)
  refine c_forL (A := A) (s0 := ([] : List Int)) (fun (A_ : Hp) (σ_ : L2.St) (R_ : List Hp) (s : (List Int)) => ∃ (p_found6 : Addr) (ws_found6 : List V) (y_cell6 : Option V), σ_ = [some v_self, some v_row, some (.ref p_found6), y_cell6] ∧ (one p_found6 (.lst ws_found6)) :: m_self :: R = R_ ∧ OL A_ ws_found6 (s : (List Int))) S4 (fun Q' q => q) h_row ⟨p1, ws2, _, rfl, rfl, h5⟩ h (fun z7 w8 A9 H10 σ21 R11 s12 C13 N14 hz15 e16 S17 h18 hR19 hN20 h => ?_) (fun A22 H23 σ29 R24 s25 e26 S27 hR28 h => ?_)
  ·
    have eL30 : Same A A := Same.refl _
    obtain ⟨p_found6, ws_found6, y_cell6, rfl, rfl, h31⟩ := hR19
    have e0 := e0.trans e16
    have eL30 := eL30.trans e16
    have h_self := upO h_self e16
    have h_row := up h_row e16
    obtain rfl : w8 = (.int z7) := h18
    refine s_asg ?_
    have S32 : St H10 (A9 :: m_self :: (one p_found6 (.lst ws_found6)) :: R) := S17.pick 1 (Nat.le_of_ble_eq_true rfl)
    refine c_call (c_cons (c_var rfl (c_cons (c_dget (c_fld (c_var rfl (f_edges kl_t S32 h_self fun d33 kv34 hd35 hk36 cap37 => ?_)))))))
    refine c_var rfl (d_get hd35 hk36 h fun t38 w39 h40 h => ?_)
    have S41 : St H10 (A9 :: (one p_found6 (.lst ws_found6)) :: m_self :: R) := S32.pick 1 (Nat.le_of_ble_eq_true rfl)
    have h44 := frz_is h31 S41
    have S42 := S41.frz
    have e43 := same_join_l (A := A9) (B := (one p_found6 (.lst ws_found6)))
    refine c_nil (⟨(join A9 (one p_found6 (.lst ws_found6))), (m_self :: R), (.ref p_found6), s12, w39, t38, rfl, S42, h44, (up h40 e43), ?_⟩)
    refine Res.wp_mono (Res.wp_noex (Res.wp_bind h)) (fun y45 h A46 H47 p50 ws51 e48 S49 h52 => ?_) (fun _ _ h => h.elim)
    have S53 := S49.back1 ((same_join_r S41.dj).trans e48)
    have e54 := same_minus S41 e48
    generalize minus A46 (one p_found6 (.lst ws_found6)) = A55 at S53 e54
    have e0 := e0.trans e54
    have eL30 := eL30.trans e54
    have h_self := upO h_self e54
    have h_row := up h_row e54
    have h31 := OL.up h31 e54
    have h52 : OL A55 _ _ := OL.any h52
    have S56 : St H47 (A55 :: (one p50 (.lst ws51)) :: m_self :: R) := S53.drop 0 (Nat.le_of_ble_eq_true rfl)
    exact hN20 _ _ _ _ y45 eL30 S56 ⟨p50, ws51, _, rfl, rfl, h52⟩ h
  ·
    refine nx_mk ?_
    obtain ⟨p_found6, ws_found6, y_cell6, rfl, rfl, h57⟩ := hR28
    have e0 := e0.trans e26
    have h_self := upO h_self e26
    have h_row := up h_row e26
    refine s_ret ?_
    refine c_var rfl (?_)
    exact h (A22) (H23) (p_found6) (ws_found6) e0 S27 h57
abbrev s_Body_edge_of : Stmt := inClass (topS 21) 9
theorem sc_Body_edge_of : FnScope ["self", "row", "found", "cell"] ["self", "row"] (defScope s_Body_edge_of) := ⟨rfl, rfl, rfl, by decide +kernel, rfl, by decide +kernel, by decide +kernel⟩
theorem ok_Body_edge_of {P : Program} {w : World} {K : PySem.W.Frag} {mg : Str → Option Value} {base : Heap} {T : Cs} {t : Bool} {f : Addr} {fd : FuncData} {f_joined : Addr} {fd_joined : FuncData} (F : Fun K "edge_of" "Body.edge_of" s_Body_edge_of f fd) (bi : Bi mg) (G_joined : Glob P w K mg base CX0 1 "joined" ["one", "other"] (sp_joined T K) f_joined fd_joined)  (kl_t : Kl K (T.cls t) t) : FnOk P w K mg base CX0 2 f fd ["self", "row"] (sp_Body_edge_of t T K) := by
  refine F.ok sc_Body_edge_of (fun vs H Q E h => ?_) (fun cdv A outer s H vs Q E hr h => ⟨rd_Body_edge_of t T K E, ?_, wk_Body_edge_of kl_t h⟩)
  · obtain ⟨_, _, _, _, _, _, _, rfl, _⟩ := h
    rfl
  · exact (pss_cons (ps_set (i := 2) sc_Body_edge_of.nd rfl (Or.inl rfl) (pe_lst pa_nil))
      (pss_cons (ps_for PassesOwn.never rfl (pi_list (pv 1)) (pg_name (i := 3) sc_Body_edge_of.nd rfl (Or.inl rfl)) (pss_one (ps_set (i := 2) sc_Body_edge_of.nd rfl (Or.inl rfl) (pe_call G_joined.ok (hr.mono (Nat.le_of_ble_eq_true rfl)) (by rfl) G_joined.g G_joined.kp G_joined.b .nil pass0 (pa_cons (pv 2) (pa_cons (pe_dget (hu_of hr) (pe_fld (pv 0) rfl) (pv 3) (fun _ _ => rfl)) pa_nil))))))
      (pss_one (ps_ret (pv 2)))))
@[irreducible] def m_Body_put {t : Bool} (x_self : (FS t)) (x_rank : Int) (x_border : (List Int)) : Res (FS t) (Int × (FS t)) := Res.bind (orR (decide (x_rank < (0 : Int))) (.ok (decide ((12 : Int) < x_rank)))) fun b1 => if b1 = true then .ex (.plain 2) x_self else Res.bind (Res.lift (fun w => x_self) (m_Body_asked x_self x_border)) fun y9 => Res.bind (Res.lift (fun w => x_self) (m_Body_ranked x_self y9 (x_rank - (1 : Int)))) fun y21 => Res.bind (Res.noex (m_Body_edge_of x_self y9)) fun y26 => if (!(decide (y26 = ([] : List Int)))) = true then .ex (.plain 4) x_self else if (decide ((120 : Int) ≤ (x_self.ranks.length : Int))) = true then .ex (.plain 5) x_self else Res.bind (aputR x_self.ranks x_self.after x_rank) fun l55 => Res.bind (aputR x_self.edges x_self.after y9) fun l67 => .ok (x_self.after, (FS.mk l55 l67 (x_self.after + (1 : Int)) x_self.ahead x_self.behind : FS t))
def sp_Body_put (t : Bool) (T : Cs) (K : PySem.W.Frag) : Sp := fun vs H Q E => ∃ (A : Hp) (R : List Hp) (m_self : Hp) (v_self : V) (x_self : (FS t)) (x_rank : Int) (v_border : V) (x_border : (List Int)), vs = [v_self, (.int x_rank), v_border] ∧ St H (A :: m_self :: R) ∧ Ob.isAt T A m_self v_self x_self ∧ Is A v_border x_border ∧ (m_Body_put x_self x_rank x_border).wp (fun y => ∀ (A' H' : Hp) (m0 : Hp), Same A A' → St H' (A' :: m0 :: R) → Ob.isAt T A' m0 v_self y.2 → Q (.int y.1) H') (fun e w => ∀ (A' H' : Hp) (m0 : Hp) (cls : Value) (d : Option Addr), Same A A' → St H' (A' :: m0 :: R) → Ob.isAt T A' m0 v_self w → XA T e cls d A A' → E cls d H')
def rd_Body_put (t : Bool) (T : Cs) (K : PySem.W.Frag) (E : XK) : TS := (tSeq (tIfS (tOr (tTest (tOp (rI0 fun i j => .bl (decide (i < j))) (tVar 1) (tC (.int 0)))) (tTest (tOp (rI0 fun i j => .bl (decide (j < i))) (tVar 1) (tC (.int 12))))) (tRaise0 E (T.ex 2)) tNext) (tSeq (tAsg (tMeth (T.cls t) "asked" (sp_Body_asked t T K) [] E (tVar 0) (tCons (tVar 2) tNil)) (gName 3)) (tSeq (tDrop (tMeth (T.cls t) "ranked" (sp_Body_ranked t T K) [] E (tVar 0) (tCons (tVar 3) (tCons (tOp (rI0 fun i j => .int (i - j)) (tVar 1) (tC (.int 1))) tNil)))) (tSeq (tIfS (tTest (tOp (rNeD K) (tMeth (T.cls t) "edge_of" (sp_Body_edge_of t T K) [] E0 (tVar 0) (tCons (tVar 3) tNil)) (tLst tNil))) (tRaise0 E (T.ex 4)) tNext) (tSeq (tIfS (tTest (tOp (rI0 fun i j => .bl (decide (j ≤ i))) (tCB rLenD (tCons (tFld K (tVar 0) "ranks") tNil)) (tC (.int 120)))) (tRaise0 E (T.ex 5)) tNext) (tSeq (tAsg (tFld K (tVar 0) "after") (gName 4)) (tSeq (sDPut (tFld K (tVar 0) "ranks") (tVar 4) (tVar 1)) (tSeq (sDPut (tFld K (tVar 0) "edges") (tVar 4) (tVar 3)) (tSeq (sFld K (tVar 0) (tOp (rI0 fun i j => .int (i + j)) (tVar 4) (tC (.int 1))) "after") (tRet (tVar 4)))))))))))
theorem wk_Body_put {t : Bool} {T : Cs} {K : PySem.W.Frag} {vs : List V} {H : Hp} {Q : VK} {E : XK} (kl_t : Kl K (T.cls t) t) (h : sp_Body_put t T K vs H Q E) : rd_Body_put t T K E { nx := fun _ H' => Q .non H', rt := Q } (L2.start ["self", "rank", "border", "row", "number"] vs) H := by
  obtain ⟨A, R, m_self, v_self, x_self, x_rank, v_border, x_border, rfl, S, h_self, h_border, h⟩ := h
  unfold m_Body_put at h
  unfold rd_Body_put
  have e0 : Same A A := Same.refl _
  refine q_when ?_
  refine q_test (A := A) (R := m_self :: R) h (fun Qb3 hk2 h => ?_) (fun b1 A4 H5 e6 S7 h => ?_)
  ·
    have eT8 : Same A A := Same.refl _
    refine c_or ?_
    refine c_tst (c_op (c_var rfl (c_c (c_I0 (c_bl (?_))))))
    refine c_orR h (fun hc h => ?_) (fun hc h => ?_)
    ·
      exact hk2 _ _ _ eT8 S h
    ·
      refine c_tst (c_op (c_var rfl (c_c (c_I0 (c_bl (?_))))))
      exact hk2 _ _ _ eT8 S h
  ·
    have e0 := e0.trans e6
    have h_self := upO h_self e6
    have h_border := up h_border e6
    refine c_if h (fun hc h => ?_) (fun hc h => ?_)
    ·
      refine s_raise ?_
      exact h A4 H5 m_self _ _ e0 S7 h_self ⟨rfl, rfl⟩
    ·
      refine q_asg ?_
      refine c_met (c_var rfl (f_met S7 h_self (by decide +kernel) (c_cons (c_var rfl (c_nil (⟨A4, (R), m_self, v_self, x_self, v_border, x_border, rfl, S7, h_self, h_border, ?_⟩))))))
      refine Res.wp_mono (Res.wp_lift (Res.wp_bind h)) (fun y9 h A10 H11 p14 ws15 e12 S13 h16 => ?_) (fun e w he AX HX  cls d eX SX  hx => by
          exact he AX HX m_self cls d (e0.trans eX) SX (upO h_self eX) (xa_base e0 hx))
      have e0 := e0.trans e12
      have h_self := upO h_self e12
      have h_border := up h_border e12
      have h18 := frz_is h16 S13
      have S19 := S13.frz
      have e17 := same_join_l (A := A10) (B := (one p14 (.lst ws15)))
      generalize hjA20 : join A10 (one p14 (.lst ws15)) = A20 at h18 S19 e17
      clear hjA20
      have e0 := e0.trans e17
      have h_self := upO h_self e17
      have h_border := up h_border e17
      refine q_drop ?_
      refine c_met (c_var rfl (f_met S19 h_self (by decide +kernel) (c_cons (c_var rfl (c_cons (c_op (c_var rfl (c_c (c_I0 (c_nil (⟨A20, (R), m_self, v_self, x_self, (.ref p14), y9, (x_rank - (1 : Int)), rfl, S19, h_self, h18, ?_⟩)))))))))))
      refine Res.wp_mono (Res.wp_lift (Res.wp_bind h)) (fun y21 h A22 H23 e24 S25 => ?_) (fun e w he AX HX  cls d eX SX  hx => by
          exact he AX HX m_self cls d (e0.trans eX) SX (upO h_self eX) (xa_base e0 hx))
      have e0 := e0.trans e24
      have h_self := upO h_self e24
      have h_border := up h_border e24
      have h18 := up h18 e24
      refine q_when ?_
      refine c_tst (c_op (c_met (c_var rfl (f_met S25 h_self (by decide +kernel) (c_cons (c_var rfl (c_nil (⟨A22, (R), m_self, v_self, x_self, (.ref p14), y9, rfl, S25, h_self, h18, ?_⟩))))))))
      refine Res.wp_mono (Res.wp_noex (Res.wp_bind h)) (fun y26 h A27 H28 p31 ws32 e29 S30 h33 => ?_) (fun _ _ h => h.elim)
      have e0 := e0.trans e29
      have h_self := upO h_self e29
      have h_border := up h_border e29
      have h18 := up h18 e29
      refine c_tlst (c_nil (c_lst (α := Int) (vs := []) (xs := []) (Nat.le_of_ble_eq_true rfl) trivial (ow S30 fun p34 ws35 H36 S37 h38 => ?_)))
      refine c_neD (α := (List Int)) (x := y26) (y := ([] : List Int)) (dp_la S37 ⟨_, _, rfl, (S37.mem _ (List.mem_of_getElem? (i := 2) rfl)) _ _ one_same, h33⟩) (dp_la S37 ⟨_, _, rfl, (S37.mem _ (List.mem_of_getElem? (i := 1) rfl)) _ _ one_same, h38⟩) (Nat.le_of_ble_eq_true rfl) (c_bl (?_))
      refine c_if h (fun hc h => ?_) (fun hc h => ?_)
      ·
        refine s_raise ?_
        have S39 : St H36 (A27 :: m_self :: (one p34 (.lst ws35)) :: (one p31 (.lst ws32)) :: R) := S37.pick 2 (Nat.le_of_ble_eq_true rfl)
        have S40 : St H36 (A27 :: m_self :: (one p31 (.lst ws32)) :: R) := S39.drop 1 (Nat.le_of_ble_eq_true rfl)
        have S41 : St H36 (A27 :: m_self :: R) := S40.drop 1 (Nat.le_of_ble_eq_true rfl)
        exact h A27 H36 m_self _ _ e0 S41 h_self ⟨rfl, rfl⟩
      ·
        refine q_when ?_
        have S42 : St H36 (A27 :: m_self :: (one p34 (.lst ws35)) :: (one p31 (.lst ws32)) :: R) := S37.pick 2 (Nat.le_of_ble_eq_true rfl)
        refine c_tst (c_op (c_cb (c_cons (c_fld (c_var rfl (f_ranks kl_t S42 h_self fun d43 kv44 hd45 hk46 cap47 => ?_))))))
        refine c_nil (d_len (K := K) hd45 hk46 (c_c (c_I0 (c_bl (?_)))))
        refine c_if h (fun hc h => ?_) (fun hc h => ?_)
        ·
          refine s_raise ?_
          have S48 : St H36 (A27 :: m_self :: (one p31 (.lst ws32)) :: R) := S42.drop 1 (Nat.le_of_ble_eq_true rfl)
          have S49 : St H36 (A27 :: m_self :: R) := S48.drop 1 (Nat.le_of_ble_eq_true rfl)
          exact h A27 H36 m_self _ _ e0 S49 h_self ⟨rfl, rfl⟩
        ·
          refine q_asg ?_
          refine c_fld (c_var rfl (f_after kl_t S42 h_self (?_)))
          refine q_dput (c_var rfl (c_fld (c_var rfl (f_ranks kl_t S42 h_self fun d50 kv51 hd52 hk53 cap54 => ?_))))
          refine c_var rfl (d_put (x := x_rank) hd52 hk53 rfl h fun kv56 l55 h hk57 => ?_)
          obtain ⟨m58, S59, h60⟩ := cap54 _ _ hk57
          generalize L2.upd H36 _ _ = H61 at S59 ⊢
          refine q_dput (c_var rfl (c_fld (c_var rfl (f_edges kl_t S59 h60 fun d62 kv63 hd64 hk65 cap66 => ?_))))
          refine c_var rfl (d_put (x := y9) hd64 hk65 h18 h fun kv68 l67 h hk69 => ?_)
          obtain ⟨m70, S71, h72⟩ := cap66 _ _ hk69
          generalize L2.upd H61 _ _ = H73 at S71 ⊢
          refine q_fld (c_op (c_var rfl (c_c (c_I0 (c_var rfl (f_setAfter (n := (x_self.after + (1 : Int))) kl_t S71 h72 fun m74 H75 S76 h77 => ?_))))))
          refine s_ret ?_
          refine c_var rfl (?_)
          have S78 : St H75 (A27 :: m74 :: (one p31 (.lst ws32)) :: R) := S76.drop 1 (Nat.le_of_ble_eq_true rfl)
          have S79 : St H75 (A27 :: m74 :: R) := S78.drop 1 (Nat.le_of_ble_eq_true rfl)
          exact h (A27) (H75) (m74) e0 S79 h77
abbrev s_Body_put : Stmt := inClass (topS 21) 14
theorem sc_Body_put : FnScope ["self", "rank", "border", "row", "number"] ["self", "rank", "border"] (defScope s_Body_put) := ⟨rfl, rfl, rfl, by decide +kernel, rfl, by decide +kernel, by decide +kernel⟩
theorem ok_Body_put {P : Program} {w : World} {K : PySem.W.Frag} {mg : Str → Option Value} {base : Heap} {T : Cs} {t : Bool} {f : Addr} {fd : FuncData} {f_Body_asked_t : Addr} {fd_Body_asked_t : FuncData} {f_Body_ranked_t : Addr} {fd_Body_ranked_t : FuncData} {f_Body_edge_of_t : Addr} {fd_Body_edge_of_t : FuncData} (F : Fun K "put" "Body.put" s_Body_put f fd) (bi : Bi mg) (G_Body_asked_t : MGlob P w K mg base (L2.CX P w) 3 (T.cls t) "asked" ["self", "row"] (sp_Body_asked t T K) f_Body_asked_t fd_Body_asked_t) (G_Body_ranked_t : MGlob P w K mg base (L2.CX P w) 1 (T.cls t) "ranked" ["self", "row", "rank"] (sp_Body_ranked t T K) f_Body_ranked_t fd_Body_ranked_t) (G_Body_edge_of_t : MGlob P w K mg base CX0 2 (T.cls t) "edge_of" ["self", "row"] (sp_Body_edge_of t T K) f_Body_edge_of_t fd_Body_edge_of_t) (X_BadRank : ExC K mg "BadRank" (T.ex 2)) (X_Full : ExC K mg "Full" (T.ex 5)) (X_OpenBorder : ExC K mg "OpenBorder" (T.ex 4)) (kl_t : Kl K (T.cls t) t) : FnOk P w K mg base (L2.CX P w) 4 f fd ["self", "rank", "border"] (sp_Body_put t T K) := by
  refine F.okX sc_Body_put (fun vs H Q E h => ?_) (fun cdv A outer s H vs Q E hr h => ⟨rd_Body_put t T K E, ?_, wk_Body_put kl_t h⟩)
  · obtain ⟨_, _, _, _, _, _, _, _, rfl, _⟩ := h
    rfl
  · exact (pss_cons (ps_if (PW.pt (pw_or (pt_cmpR op_lt (pv 1) pe_int (nomark _)) (pw_or1 (pt_cmpR op_gt (pv 1) (pe_kc rfl bi.K_HIGHEST) (nomark _))))) (pss_one (ps_raise rfl (takes_of rfl rfl rfl rfl) (pmk_own PySem.F.excBase_ValueError X_BadRank.x X_BadRank.g X_BadRank.kp (raises_own X_BadRank.b X_BadRank.t) (by rfl)))) pss_nil)
      (pss_cons (ps_set (i := 3) sc_Body_put.nd rfl (Or.inl rfl) (pe_meth (pv 0) kl_t.cl G_Body_asked_t.mt G_Body_asked_t.ok (hr.mono (Nat.le_of_ble_eq_true rfl)) G_Body_asked_t.b .nil (passes_call (takes_of rfl rfl rfl rfl) (fun _ _ _ _ h => h)) (pa_cons (pv 2) pa_nil)))
      (pss_cons (ps_expr (pe_meth (pv 0) kl_t.cl G_Body_ranked_t.mt G_Body_ranked_t.ok (hr.mono (Nat.le_of_ble_eq_true rfl)) G_Body_ranked_t.b .nil (passes_call (takes_of rfl rfl rfl rfl) (fun _ _ _ _ h => h)) (pa_cons (pv 3) (pa_cons (pe_op op_sub (pv 1) pe_int) pa_nil))))
      (pss_cons (ps_if (pt_cmpR (op_neD hr.units) (pe_meth (pv 0) kl_t.cl G_Body_edge_of_t.mt G_Body_edge_of_t.ok (hr.mono (Nat.le_of_ble_eq_true rfl)) G_Body_edge_of_t.b .nil pass0 (pa_cons (pv 3) pa_nil)) (pe_lst pa_nil) (nomark _)) (pss_one (ps_raise rfl (takes_of rfl rfl rfl rfl) (pmk_own PySem.F.excBase_ValueError X_OpenBorder.x X_OpenBorder.g X_OpenBorder.kp (raises_own X_OpenBorder.b X_OpenBorder.t) (by rfl)))) pss_nil)
      (pss_cons (ps_if (pt_cmpR op_ge (pe_callB call_lenD (by rfl) bi.len PySem.boot_len (pa_cons (pe_fld (pv 0) rfl) pa_nil)) (pe_kc rfl bi.K_MOST) (nomark _)) (pss_one (ps_raise rfl (takes_of rfl rfl rfl rfl) (pmk_own PySem.F.excBase_ValueError X_Full.x X_Full.g X_Full.kp (raises_own X_Full.b X_Full.t) (by rfl)))) pss_nil)
      (pss_cons (ps_set (i := 4) sc_Body_put.nd rfl (Or.inl rfl) (pe_fld (pv 0) rfl))
      (pss_cons (ps_dput (hu_of hr) (pe_fld (pv 0) rfl) (pv 4) (pv 1) rfl)
      (pss_cons (ps_dput (hu_of hr) (pe_fld (pv 0) rfl) (pv 4) (pv 3) rfl)
      (pss_cons (ps_fld (pv 0) (pe_op op_add (pv 4) pe_int) rfl)
      (pss_one (ps_ret (pv 4))))))))))))
@[irreducible] def m_Body_loose {t : Bool} (x_self : (FS t)) (x_cell : Int) : Res Unit Unit := Res.bind (Res.lift (fun w => ()) (m_Body_known x_self [x_cell])) fun y10 => .ok ()
def sp_Body_loose (t : Bool) (T : Cs) (K : PySem.W.Frag) : Sp := fun vs H Q E => ∃ (A : Hp) (R : List Hp) (m_self : Hp) (v_self : V) (x_self : (FS t)) (x_cell : Int), vs = [v_self, (.int x_cell)] ∧ St H (A :: m_self :: R) ∧ Ob.isAt T A m_self v_self x_self ∧ (m_Body_loose x_self x_cell).wp (fun y => ∀ (A' H' : Hp) , Same A A' → St H' (A' :: m_self :: R) → Q .non H') (fun e w => ∀ (A' H' : Hp)  (cls : Value) (d : Option Addr), Same A A' → St H' (A' :: m_self :: R) → XA T e cls d A A' → E cls d H')
def rd_Body_loose (t : Bool) (T : Cs) (K : PySem.W.Frag) (E : XK) : TS := (tDrop (tMeth (T.cls t) "known" (sp_Body_known t T K) [] E (tVar 0) (tCons (tLst (tCons (tVar 1) tNil)) tNil)))
theorem wk_Body_loose {t : Bool} {T : Cs} {K : PySem.W.Frag} {vs : List V} {H : Hp} {Q : VK} {E : XK} (kl_t : Kl K (T.cls t) t) (h : sp_Body_loose t T K vs H Q E) : rd_Body_loose t T K E { nx := fun _ H' => Q .non H', rt := Q } (L2.start ["self", "cell"] vs) H := by
  obtain ⟨A, R, m_self, v_self, x_self, x_cell, rfl, S, h_self, h⟩ := h
  unfold m_Body_loose at h
  unfold rd_Body_loose
  have e0 : Same A A := Same.refl _
  refine s_drop ?_
  refine c_met (c_var rfl (f_met S h_self (by decide +kernel) (c_cons (c_tlst (c_cons (c_var rfl (c_nil (c_lst (α := Int) (vs := [(.int x_cell)]) (xs := [x_cell]) (Nat.le_of_ble_eq_true rfl) ⟨rfl, trivial⟩ (ow S fun p1 ws2 H3 S4 h5 => ?_)))))))))
  have h7 := frz_is h5 S4
  have S8 := S4.frz
  have e6 := same_join_l (A := A) (B := (one p1 (.lst ws2)))
  generalize hjA9 : join A (one p1 (.lst ws2)) = A9 at h7 S8 e6
  clear hjA9
  have e0 := e0.trans e6
  have h_self := upO h_self e6
  refine c_nil (⟨A9, (R), m_self, v_self, x_self, (.ref p1), [x_cell], rfl, S8, h_self, h7, ?_⟩)
  refine Res.wp_mono (Res.wp_lift (Res.wp_bind h)) (fun y10 h A11 H12 e13 S14 => ?_) (fun e w he AX HX  cls d eX SX  hx => by
      exact he AX HX  cls d (e0.trans eX) SX  (xa_base e0 hx))
  have e0 := e0.trans e13
  have h_self := upO h_self e13
  exact h (A11) (H12) e0 S14 
abbrev s_Body_loose : Stmt := inClass (topS 21) 16
theorem sc_Body_loose : FnScope ["self", "cell"] ["self", "cell"] (defScope s_Body_loose) := ⟨rfl, rfl, rfl, by decide +kernel, rfl, by decide +kernel, by decide +kernel⟩
theorem ok_Body_loose {P : Program} {w : World} {K : PySem.W.Frag} {mg : Str → Option Value} {base : Heap} {T : Cs} {t : Bool} {f : Addr} {fd : FuncData} {f_Body_known_t : Addr} {fd_Body_known_t : FuncData} (F : Fun K "loose" "Body.loose" s_Body_loose f fd) (bi : Bi mg) (G_Body_known_t : MGlob P w K mg base (L2.CX P w) 1 (T.cls t) "known" ["self", "row"] (sp_Body_known t T K) f_Body_known_t fd_Body_known_t)  (kl_t : Kl K (T.cls t) t) : FnOk P w K mg base (L2.CX P w) 2 f fd ["self", "cell"] (sp_Body_loose t T K) := by
  refine F.okX sc_Body_loose (fun vs H Q E h => ?_) (fun cdv A outer s H vs Q E hr h => ⟨rd_Body_loose t T K E, ?_, wk_Body_loose kl_t h⟩)
  · obtain ⟨_, _, _, _, _, _, rfl, _⟩ := h
    rfl
  · exact (pss_one (ps_expr (pe_meth (pv 0) kl_t.cl G_Body_known_t.mt G_Body_known_t.ok (hr.mono (Nat.le_of_ble_eq_true rfl)) G_Body_known_t.b .nil (passes_call (takes_of rfl rfl rfl rfl) (fun _ _ _ _ h => h)) (pa_cons (pe_lst (pa_cons (pv 1) pa_nil)) pa_nil))))
@[irreducible] def m_Field_in_arrow (x_self : (FS true)) (x_cell : Int) : Res Unit Bool := if (agt x_self.ahead x_cell).isSome = true then .ok true else .ok (agt x_self.behind x_cell).isSome
def sp_Field_in_arrow (T : Cs) (K : PySem.W.Frag) : Sp := fun vs H Q E => ∃ (A : Hp) (R : List Hp) (m_self : Hp) (v_self : V) (x_self : (FS true)) (x_cell : Int), vs = [v_self, (.int x_cell)] ∧ St H (A :: m_self :: R) ∧ Ob.isAt T A m_self v_self x_self ∧ (m_Field_in_arrow x_self x_cell).wp (fun y => ∀ (A' H' : Hp) , Same A A' → St H' (A' :: m_self :: R) → Q (.bl y) H') (fun _ _ => False)
def rd_Field_in_arrow (T : Cs) (K : PySem.W.Frag) (E : XK) : TS := (tRet (tOrV (tDIn (tVar 1) (tFld K (tVar 0) "ahead")) (tDIn (tVar 1) (tFld K (tVar 0) "behind"))))
theorem wk_Field_in_arrow {T : Cs} {K : PySem.W.Frag} {vs : List V} {H : Hp} {Q : VK} {E : XK} (kl_true : Kl K (T.cls true) true) (h : sp_Field_in_arrow T K vs H Q E) : rd_Field_in_arrow T K E { nx := fun _ H' => Q .non H', rt := Q } (L2.start ["self", "cell"] vs) H := by
  obtain ⟨A, R, m_self, v_self, x_self, x_cell, rfl, S, h_self, h⟩ := h
  unfold m_Field_in_arrow at h
  unfold rd_Field_in_arrow
  have e0 : Same A A := Same.refl _
  refine s_ret ?_
  refine c_orV (c_din (c_var rfl (c_fld (c_var rfl (f_ahead kl_true S h_self fun d1 kv2 hd3 hk4 cap5 => ?_)))))
  refine d_in hd3 hk4 (c_bl (?_))
  refine c_if h (fun hc h => ?_) (fun hc h => ?_)
  ·
    exact h (A) (H) e0 S 
  ·
    refine c_din (c_var rfl (c_fld (c_var rfl (f_behind kl_true S h_self fun d6 kv7 hd8 hk9 cap10 => ?_))))
    refine d_in hd8 hk9 (?_)
    exact h (A) (H) e0 S 
abbrev s_Field_in_arrow : Stmt := inClass (topS 23) 1
theorem sc_Field_in_arrow : FnScope ["self", "cell"] ["self", "cell"] (defScope s_Field_in_arrow) := ⟨rfl, rfl, rfl, by decide +kernel, rfl, by decide +kernel, by decide +kernel⟩
theorem ok_Field_in_arrow {P : Program} {w : World} {K : PySem.W.Frag} {mg : Str → Option Value} {base : Heap} {T : Cs} {f : Addr} {fd : FuncData}  (F : Fun K "in_arrow" "Field.in_arrow" s_Field_in_arrow f fd) (bi : Bi mg)   (kl_true : Kl K (T.cls true) true) : FnOk P w K mg base CX0 1 f fd ["self", "cell"] (sp_Field_in_arrow T K) := by
  refine F.ok sc_Field_in_arrow (fun vs H Q E h => ?_) (fun cdv A outer s H vs Q E hr h => ⟨rd_Field_in_arrow T K E, ?_, wk_Field_in_arrow kl_true h⟩)
  · obtain ⟨_, _, _, _, _, _, rfl, _⟩ := h
    rfl
  · exact (pss_one (ps_ret (pe_or (pe_cmp (pc_din (hu_of hr) (pv 1) (pe_fld (pv 0) rfl)) rfl) (pe_one (pe_cmp (pc_din (hu_of hr) (pv 1) (pe_fld (pv 0) rfl)) rfl)))))
@[irreducible] def m_Field_loose (x_self : (FS true)) (x_cell : Int) : Res Unit Unit := Res.bind (Res.lift (fun w => ()) (m_Body_known x_self [x_cell])) fun y10 => Res.bind (Res.noex (m_Field_in_arrow x_self x_cell)) fun y15 => if y15 = true then .ex (.plain 8) () else .ok ()
def sp_Field_loose (T : Cs) (K : PySem.W.Frag) : Sp := fun vs H Q E => ∃ (A : Hp) (R : List Hp) (m_self : Hp) (v_self : V) (x_self : (FS true)) (x_cell : Int), vs = [v_self, (.int x_cell)] ∧ St H (A :: m_self :: R) ∧ Ob.isAt T A m_self v_self x_self ∧ (m_Field_loose x_self x_cell).wp (fun y => ∀ (A' H' : Hp) , Same A A' → St H' (A' :: m_self :: R) → Q .non H') (fun e w => ∀ (A' H' : Hp)  (cls : Value) (d : Option Addr), Same A A' → St H' (A' :: m_self :: R) → XA T e cls d A A' → E cls d H')
def rd_Field_loose (T : Cs) (K : PySem.W.Frag) (E : XK) : TS := (tSeq (tDrop (tMeth (T.cls true) "known" (sp_Body_known true T K) [] E (tVar 0) (tCons (tLst (tCons (tVar 1) tNil)) tNil))) (tIfS (tB (tMeth (T.cls true) "in_arrow" (sp_Field_in_arrow T K) [] E0 (tVar 0) (tCons (tVar 1) tNil))) (tRaise0 E (T.ex 8)) tNext))
theorem wk_Field_loose {T : Cs} {K : PySem.W.Frag} {vs : List V} {H : Hp} {Q : VK} {E : XK} (kl_true : Kl K (T.cls true) true) (h : sp_Field_loose T K vs H Q E) : rd_Field_loose T K E { nx := fun _ H' => Q .non H', rt := Q } (L2.start ["self", "cell"] vs) H := by
  obtain ⟨A, R, m_self, v_self, x_self, x_cell, rfl, S, h_self, h⟩ := h
  unfold m_Field_loose at h
  unfold rd_Field_loose
  have e0 : Same A A := Same.refl _
  refine q_drop ?_
  refine c_met (c_var rfl (f_met S h_self (by decide +kernel) (c_cons (c_tlst (c_cons (c_var rfl (c_nil (c_lst (α := Int) (vs := [(.int x_cell)]) (xs := [x_cell]) (Nat.le_of_ble_eq_true rfl) ⟨rfl, trivial⟩ (ow S fun p1 ws2 H3 S4 h5 => ?_)))))))))
  have h7 := frz_is h5 S4
  have S8 := S4.frz
  have e6 := same_join_l (A := A) (B := (one p1 (.lst ws2)))
  generalize hjA9 : join A (one p1 (.lst ws2)) = A9 at h7 S8 e6
  clear hjA9
  have e0 := e0.trans e6
  have h_self := upO h_self e6
  refine c_nil (⟨A9, (R), m_self, v_self, x_self, (.ref p1), [x_cell], rfl, S8, h_self, h7, ?_⟩)
  refine Res.wp_mono (Res.wp_lift (Res.wp_bind h)) (fun y10 h A11 H12 e13 S14 => ?_) (fun e w he AX HX  cls d eX SX  hx => by
      exact he AX HX  cls d (e0.trans eX) SX  (xa_base e0 hx))
  have e0 := e0.trans e13
  have h_self := upO h_self e13
  refine s_when ?_
  refine c_tb (c_met (c_var rfl (f_met S14 h_self (by decide +kernel) (c_cons (c_var rfl (c_nil (⟨A11, (R), m_self, v_self, x_self, x_cell, rfl, S14, h_self, ?_⟩)))))))
  refine Res.wp_mono (Res.wp_noex (Res.wp_bind h)) (fun y15 h A16 H17 e18 S19 => ?_) (fun _ _ h => h.elim)
  have e0 := e0.trans e18
  have h_self := upO h_self e18
  refine c_bl (?_)
  refine c_if h (fun hc h => ?_) (fun hc h => ?_)
  ·
    refine s_raise ?_
    exact h A16 H17  _ _ e0 S19  ⟨rfl, rfl⟩
  ·
    exact h (A16) (H17) e0 S19 
abbrev s_Field_loose : Stmt := inClass (topS 23) 3
theorem sc_Field_loose : FnScope ["self", "cell"] ["self", "cell"] (defScope s_Field_loose) := ⟨rfl, rfl, rfl, by decide +kernel, rfl, by decide +kernel, by decide +kernel⟩
theorem ok_Field_loose {P : Program} {w : World} {K : PySem.W.Frag} {mg : Str → Option Value} {base : Heap} {T : Cs} {f : Addr} {fd : FuncData} {f_Body_known_true : Addr} {fd_Body_known_true : FuncData} {f_Field_in_arrow : Addr} {fd_Field_in_arrow : FuncData} (F : Fun K "loose" "Field.loose" s_Field_loose f fd) (bi : Bi mg) (G_Body_known_true : MGlob P w K mg base (L2.CX P w) 1 (T.cls true) "known" ["self", "row"] (sp_Body_known true T K) f_Body_known_true fd_Body_known_true) (G_Field_in_arrow : MGlob P w K mg base CX0 1 (T.cls true) "in_arrow" ["self", "cell"] (sp_Field_in_arrow T K) f_Field_in_arrow fd_Field_in_arrow) (X_Tied : ExC K mg "Tied" (T.ex 8)) (kl_true : Kl K (T.cls true) true) : FnOk P w K mg base (L2.CX P w) 2 f fd ["self", "cell"] (sp_Field_loose T K) := by
  refine F.okX sc_Field_loose (fun vs H Q E h => ?_) (fun cdv A outer s H vs Q E hr h => ⟨rd_Field_loose T K E, ?_, wk_Field_loose kl_true h⟩)
  · obtain ⟨_, _, _, _, _, _, rfl, _⟩ := h
    rfl
  · exact (pss_cons (ps_expr (pe_meth (pv 0) kl_true.cl G_Body_known_true.mt G_Body_known_true.ok (hr.mono (Nat.le_of_ble_eq_true rfl)) G_Body_known_true.b .nil (passes_call (takes_of rfl rfl rfl rfl) (fun _ _ _ _ h => h)) (pa_cons (pe_lst (pa_cons (pv 1) pa_nil)) pa_nil)))
      (pss_one (ps_if (pt_val (pe_meth (pv 0) kl_true.cl G_Field_in_arrow.mt G_Field_in_arrow.ok (hr.mono (Nat.le_of_ble_eq_true rfl)) G_Field_in_arrow.b .nil pass0 (pa_cons (pv 1) pa_nil))) (pss_one (ps_raise rfl (takes_of rfl rfl rfl rfl) (pmk_own PySem.F.excBase_ValueError X_Tied.x X_Tied.g X_Tied.kp (raises_own X_Tied.b X_Tied.t) (by rfl)))) pss_nil)))
def m_V_loose {t : Bool} (x_self : FS t) (x_cell : Int) : Res Unit Unit := match t, x_self with
  | false, z => m_Body_loose z x_cell
  | true, z => m_Field_loose z x_cell
def sp_V_loose (t : Bool) (T : Cs) (K : PySem.W.Frag) : Sp := fun vs H Q E => ∃ (A : Hp) (R : List Hp) (m_self : Hp) (v_self : V) (x_self : (FS t)) (x_cell : Int), vs = [v_self, (.int x_cell)] ∧ St H (A :: m_self :: R) ∧ Ob.isAt T A m_self v_self x_self ∧ (m_V_loose x_self x_cell).wp (fun y => ∀ (A' H' : Hp) , Same A A' → St H' (A' :: m_self :: R) → Q .non H') (fun e w => ∀ (A' H' : Hp)  (cls : Value) (d : Option Addr), Same A A' → St H' (A' :: m_self :: R) → XA T e cls d A A' → E cls d H')
@[irreducible] def m_Body_cells {t : Bool} (x_self : (FS t)) : Res Unit (List Int) := Res.bind (keysR x_self.ranks) fun t6 => Res.bind (.ok (sortI t6)) fun t12 => .ok t12
def sp_Body_cells (t : Bool) (T : Cs) (K : PySem.W.Frag) : Sp := fun vs H Q E => ∃ (A : Hp) (R : List Hp) (m_self : Hp) (v_self : V) (x_self : (FS t)), vs = [v_self] ∧ St H (A :: m_self :: R) ∧ Ob.isAt T A m_self v_self x_self ∧ (m_Body_cells x_self).wp (fun y => ∀ (A' H' : Hp) (p : Addr) (ws : List V), Same A A' → St H' (A' :: one p (.lst ws) :: m_self :: R) → OL A' ws y → Q (.ref p) H') (fun _ _ => False)
def rd_Body_cells (t : Bool) (T : Cs) (K : PySem.W.Frag) (E : XK) : TS := (tRet (tCB (rSortedI K) (tCons (tCB rListD (tCons (tFld K (tVar 0) "ranks") tNil)) tNil)))
theorem wk_Body_cells {t : Bool} {T : Cs} {K : PySem.W.Frag} {vs : List V} {H : Hp} {Q : VK} {E : XK} (kl_t : Kl K (T.cls t) t) (h : sp_Body_cells t T K vs H Q E) : rd_Body_cells t T K E { nx := fun _ H' => Q .non H', rt := Q } (L2.start ["self"] vs) H := by
  obtain ⟨A, R, m_self, v_self, x_self, rfl, S, h_self, h⟩ := h
  unfold m_Body_cells at h
  unfold rd_Body_cells
  have e0 : Same A A := Same.refl _
  refine s_ret ?_
  refine c_cb (c_cons (c_cb (c_cons (c_fld (c_var rfl (f_ranks kl_t S h_self fun d1 kv2 hd3 hk4 cap5 => ?_))))))
  refine c_nil (d_list hd3 hk4 h fun t6 h => (ow S fun p7 ws8 H9 S10 h11 => ?_))
  refine c_nil (c_sorted ⟨_, _, rfl, (S10.mem _ (List.mem_of_getElem? (i := 1) rfl)) _ _ one_same, h11⟩ h fun t12 h => (ow S10 fun p13 ws14 H15 S16 h17 => ?_))
  have S18 : St H15 (A :: m_self :: (one p13 (.lst ws14)) :: (one p7 (.lst ws8)) :: R) := S16.pick 2 (Nat.le_of_ble_eq_true rfl)
  have S19 : St H15 (A :: (one p13 (.lst ws14)) :: m_self :: (one p7 (.lst ws8)) :: R) := S18.pick 1 (Nat.le_of_ble_eq_true rfl)
  have S20 : St H15 (A :: (one p13 (.lst ws14)) :: m_self :: R) := S19.drop 2 (Nat.le_of_ble_eq_true rfl)
  exact h (A) (H15) (p13) (ws14) e0 S20 h17
abbrev s_Body_cells : Stmt := inClass (topS 21) 4
theorem sc_Body_cells : FnScope ["self"] ["self"] (defScope s_Body_cells) := ⟨rfl, rfl, rfl, by decide +kernel, rfl, by decide +kernel, by decide +kernel⟩
theorem ok_Body_cells {P : Program} {w : World} {K : PySem.W.Frag} {mg : Str → Option Value} {base : Heap} {T : Cs} {t : Bool} {f : Addr} {fd : FuncData}  (F : Fun K "cells" "Body.cells" s_Body_cells f fd) (bi : Bi mg)   (kl_t : Kl K (T.cls t) t) : FnOk P w K mg base CX0 1 f fd ["self"] (sp_Body_cells t T K) := by
  refine F.ok sc_Body_cells (fun vs H Q E h => ?_) (fun cdv A outer s H vs Q E hr h => ⟨rd_Body_cells t T K E, ?_, wk_Body_cells kl_t h⟩)
  · obtain ⟨_, _, _, _, _, rfl, _⟩ := h
    rfl
  · exact (pss_one (ps_ret (pe_callB cr_sortedI (by rfl) bi.sorted boot_sorted (pa_cons (pe_callTy (call_list_dK rfl) (by rfl) bi.list boot_list (pa_cons (pe_fld (pv 0) rfl) pa_nil)) pa_nil))))
@[irreducible] def m_Body_over {t : Bool} (x_self : (FS t)) (x_cell : Int) : Res Unit (List Int) := Res.bind (Res.lift (fun w => ()) (m_Body_known x_self [x_cell])) fun y10 => Res.bind (Res.noex (m_Body_cells x_self)) fun y15 => Res.bind (compG (β := Int) (fun z28 (s34 : Unit) => Res.bind (agR x_self.edges z28) fun t54 => if (decide (x_cell ∈ t54)) = true then .ok (some z28, ()) else .ok (none, ())) y15 ()) fun y59 => .ok y59.1
def sp_Body_over (t : Bool) (T : Cs) (K : PySem.W.Frag) : Sp := fun vs H Q E => ∃ (A : Hp) (R : List Hp) (m_self : Hp) (v_self : V) (x_self : (FS t)) (x_cell : Int), vs = [v_self, (.int x_cell)] ∧ St H (A :: m_self :: R) ∧ Ob.isAt T A m_self v_self x_self ∧ (m_Body_over x_self x_cell).wp (fun y => ∀ (A' H' : Hp) (p : Addr) (ws : List V), Same A A' → St H' (A' :: one p (.lst ws) :: m_self :: R) → OL A' ws y → Q (.ref p) H') (fun e w => ∀ (A' H' : Hp)  (cls : Value) (d : Option Addr), Same A A' → St H' (A' :: m_self :: R) → XA T e cls d A A' → E cls d H')
def rd_Body_over (t : Bool) (T : Cs) (K : PySem.W.Frag) (E : XK) : TS := (tSeq (tDrop (tMeth (T.cls t) "known" (sp_Body_known t T K) [] E (tVar 0) (tCons (tLst (tCons (tVar 1) tNil)) tNil))) (tRet (tLc (iList K (tMeth (T.cls t) "cells" (sp_Body_cells t T K) [] E0 (tVar 0) tNil)) (gName 2) (tTest (tOp (rIn K false) (tVar 1) (tDGet (tFld K (tVar 0) "edges") (tVar 2)))) (tVar 2) [2])))
theorem wk_Body_over {t : Bool} {T : Cs} {K : PySem.W.Frag} {vs : List V} {H : Hp} {Q : VK} {E : XK} (kl_t : Kl K (T.cls t) t) (h : sp_Body_over t T K vs H Q E) : rd_Body_over t T K E { nx := fun _ H' => Q .non H', rt := Q } (L2.start ["self", "cell", "x"] vs) H := by
  obtain ⟨A, R, m_self, v_self, x_self, x_cell, rfl, S, h_self, h⟩ := h
  unfold m_Body_over at h
  unfold rd_Body_over
  have e0 : Same A A := Same.refl _
  refine q_drop ?_
  refine c_met (c_var rfl (f_met S h_self (by decide +kernel) (c_cons (c_tlst (c_cons (c_var rfl (c_nil (c_lst (α := Int) (vs := [(.int x_cell)]) (xs := [x_cell]) (Nat.le_of_ble_eq_true rfl) ⟨rfl, trivial⟩ (ow S fun p1 ws2 H3 S4 h5 => ?_)))))))))
  have h7 := frz_is h5 S4
  have S8 := S4.frz
  have e6 := same_join_l (A := A) (B := (one p1 (.lst ws2)))
  generalize hjA9 : join A (one p1 (.lst ws2)) = A9 at h7 S8 e6
  clear hjA9
  have e0 := e0.trans e6
  have h_self := upO h_self e6
  refine c_nil (⟨A9, (R), m_self, v_self, x_self, (.ref p1), [x_cell], rfl, S8, h_self, h7, ?_⟩)
  refine Res.wp_mono (Res.wp_lift (Res.wp_bind h)) (fun y10 h A11 H12 e13 S14 => ?_) (fun e w he AX HX  cls d eX SX  hx => by
      exact he AX HX  cls d (e0.trans eX) SX  (xa_base e0 hx))
  have e0 := e0.trans e13
  have h_self := upO h_self e13
  refine s_ret ?_
  refine c_lcE ?_
  refine c_met (c_var rfl (f_met S14 h_self (by decide +kernel) (c_nil (⟨A11, (R), m_self, v_self, x_self, rfl, S14, h_self, ?_⟩))))
  refine Res.wp_mono (Res.wp_noex (Res.wp_bind h)) (fun y15 h A16 H17 p20 ws21 e18 S19 h22 => ?_) (fun _ _ h => h.elim)
  have e0 := e0.trans e18
  have h_self := upO h_self e18
  have h24 := frz_is h22 S19
  have S25 := S19.frz
  have e23 := same_join_l (A := A16) (B := (one p20 (.lst ws21)))
  generalize hjA26 : join A16 (one p20 (.lst ws21)) = A26 at h24 S25 e23
  clear hjA26
  have e0 := e0.trans e23
  have h_self := upO h_self e23
  refine c_lcGL (A := A26) (R := m_self :: R) (tt := (tTest (tOp (rIn K false) (tVar 1) (tDGet (tFld K (tVar 0) "edges") (tVar 2))))) (te := (tVar 2)) (vs := [2]) (j := 2) (fun (A_ : Hp) (R_ : List Hp) (s : Unit) => m_self :: R = R_) S25 (fun Q' q => q) h24 rfl h (fun _ => rfl) (fun z28 w29 A31 H32 R33 s34 n35 C36 K1_37 K0_38 hz39 e40 S41 hR42 hK43 hK44 h => ?_) (fun p60 A61 H62 R63 ws64 y59 h e65 S66 hR67 h68 => ?_)
  ·
    obtain ⟨hz39, h45⟩ := hz39
    have eC47 : Same A31 A31 := Same.refl _
    obtain rfl := hR42
    have e0 := e0.trans e40
    have h_self := upO h_self e40
    obtain rfl : w29 = (.int z28) := h45
    have S48 : St H32 (A31 :: m_self :: n35 :: R) := S41.pick 1 (Nat.le_of_ble_eq_true rfl)
    refine c_tst (c_op (c_var rfl (c_dget (c_fld (c_var rfl (f_edges kl_t S48 h_self fun d49 kv50 hd51 hk52 cap53 => ?_))))))
    refine c_var rfl (d_get hd51 hk52 h fun t54 w55 h56 h => ?_)
    refine c_in (la_of S48 h56) (c_bl (?_))
    refine c_if h (fun hc h => ?_) (fun hc h => ?_)
    ·
      refine c_var rfl (?_)
      have S57 : St H32 (A31 :: n35 :: m_self :: R) := S48.pick 1 (Nat.le_of_ble_eq_true rfl)
      exact hK43 _ _ _ z28 _ () eC47 S57 rfl rfl h
    ·
      have S58 : St H32 (A31 :: n35 :: m_self :: R) := S48.pick 1 (Nat.le_of_ble_eq_true rfl)
      exact hK44 _ _ _ () eC47 S58 rfl h
  ·
    obtain rfl := hR67
    have e0 := e0.trans e65
    have h_self := upO h_self e65
    exact h (A61) (H62) (p60) (ws64) e0 S66 h68
abbrev s_Body_over : Stmt := inClass (topS 21) 8
theorem sc_Body_over : FnScope ["self", "cell", "x"] ["self", "cell"] (defScope s_Body_over) := ⟨rfl, rfl, rfl, by decide +kernel, rfl, by decide +kernel, by decide +kernel⟩
theorem ok_Body_over {P : Program} {w : World} {K : PySem.W.Frag} {mg : Str → Option Value} {base : Heap} {T : Cs} {t : Bool} {f : Addr} {fd : FuncData} {f_Body_known_t : Addr} {fd_Body_known_t : FuncData} {f_Body_cells_t : Addr} {fd_Body_cells_t : FuncData} (F : Fun K "over" "Body.over" s_Body_over f fd) (bi : Bi mg) (G_Body_known_t : MGlob P w K mg base (L2.CX P w) 1 (T.cls t) "known" ["self", "row"] (sp_Body_known t T K) f_Body_known_t fd_Body_known_t) (G_Body_cells_t : MGlob P w K mg base CX0 1 (T.cls t) "cells" ["self"] (sp_Body_cells t T K) f_Body_cells_t fd_Body_cells_t)  (kl_t : Kl K (T.cls t) t) : FnOk P w K mg base (L2.CX P w) 2 f fd ["self", "cell"] (sp_Body_over t T K) := by
  refine F.okX sc_Body_over (fun vs H Q E h => ?_) (fun cdv A outer s H vs Q E hr h => ⟨rd_Body_over t T K E, ?_, wk_Body_over kl_t h⟩)
  · obtain ⟨_, _, _, _, _, _, rfl, _⟩ := h
    rfl
  · exact (pss_cons (ps_expr (pe_meth (pv 0) kl_t.cl G_Body_known_t.mt G_Body_known_t.ok (hr.mono (Nat.le_of_ble_eq_true rfl)) G_Body_known_t.b .nil (passes_call (takes_of rfl rfl rfl rfl) (fun _ _ _ _ h => h)) (pa_cons (pe_lst (pa_cons (pv 1) pa_nil)) pa_nil)))
      (pss_one (ps_ret (pe_lc (own := [("x", 2)]) (g := (gName 2)) (tt := (tTest (tOp (rIn K false) (tVar 1) (tDGet (tFld K (tVar 0) "edges") (tVar 2))))) (te := (tVar 2)) rfl sc_Body_over.nd (pi_list (pe_meth0 (pv 0) kl_t.cl G_Body_cells_t.mt G_Body_cells_t.ok (hr.mono (Nat.le_of_ble_eq_true rfl)) G_Body_cells_t.b .nil pass0 )) (blkOk_by (own := [("x", 2)]) (N := ["self", "cell", "x"]) (sc := defScope s_Body_over) (by decide +kernel)) (fun _ _ _ _ _ => pg_name (i := 2) sc_Body_over.nd rfl (Or.inl rfl)) (fun _ _ _ _ _ => pts_one (pt_cmpR op_in_seq (pv 1) (pe_dget (hu_of hr) (pe_fld (pv 0) rfl) (pv 2) (fun _ _ => rfl)) rfl)) (fun _ _ _ _ _ => (pv 2))))))
@[irreducible] def m_Body_drop {t : Bool} (x_self : (FS t)) (x_cell : Int) : Res (FS t) (Unit × (FS t)) := Res.bind (apopR x_self.ranks x_cell) fun y6 => Res.bind (apopR x_self.edges x_cell) fun y20 => .ok ((), (FS.mk y6.2 y20.2 x_self.after x_self.ahead x_self.behind : FS t))
def sp_Body_drop (t : Bool) (T : Cs) (K : PySem.W.Frag) : Sp := fun vs H Q E => ∃ (A : Hp) (R : List Hp) (m_self : Hp) (v_self : V) (x_self : (FS t)) (x_cell : Int), vs = [v_self, (.int x_cell)] ∧ St H (A :: m_self :: R) ∧ Ob.isAt T A m_self v_self x_self ∧ (m_Body_drop x_self x_cell).wp (fun y => ∀ (A' H' : Hp) (m0 : Hp), Same A A' → St H' (A' :: m0 :: R) → Ob.isAt T A' m0 v_self y.2 → Q .non H') (fun _ _ => False)
def rd_Body_drop (t : Bool) (T : Cs) (K : PySem.W.Frag) (E : XK) : TS := (tSeq (tDrop (tDPop1 (tFld K (tVar 0) "ranks") (tVar 1))) (tDrop (tDPop1 (tFld K (tVar 0) "edges") (tVar 1))))
theorem wk_Body_drop {t : Bool} {T : Cs} {K : PySem.W.Frag} {vs : List V} {H : Hp} {Q : VK} {E : XK} (kl_t : Kl K (T.cls t) t) (h : sp_Body_drop t T K vs H Q E) : rd_Body_drop t T K E { nx := fun _ H' => Q .non H', rt := Q } (L2.start ["self", "cell"] vs) H := by
  obtain ⟨A, R, m_self, v_self, x_self, x_cell, rfl, S, h_self, h⟩ := h
  unfold m_Body_drop at h
  unfold rd_Body_drop
  have e0 : Same A A := Same.refl _
  refine q_drop ?_
  refine c_dpop (c_fld (c_var rfl (f_ranks kl_t S h_self fun d1 kv2 hd3 hk4 cap5 => ?_)))
  refine d_isd hd3 (c_var rfl (d_pop hd3 hk4 h fun y6 w7 kv8 h9 h hk10 => ?_))
  obtain ⟨m11, S12, h13⟩ := cap5 _ _ hk10
  generalize L2.upd H _ _ = H14 at S12 ⊢
  obtain rfl : w7 = (.int y6.1) := h9
  refine s_drop ?_
  refine c_dpop (c_fld (c_var rfl (f_edges kl_t S12 h13 fun d15 kv16 hd17 hk18 cap19 => ?_)))
  refine d_isd hd17 (c_var rfl (d_pop hd17 hk18 h fun y20 w21 kv22 h23 h hk24 => ?_))
  obtain ⟨m25, S26, h27⟩ := cap19 _ _ hk24
  generalize L2.upd H14 _ _ = H28 at S26 ⊢
  exact h (A) (H28) (m25) e0 S26 h27
abbrev s_Body_drop : Stmt := inClass (topS 21) 18
theorem sc_Body_drop : FnScope ["self", "cell"] ["self", "cell"] (defScope s_Body_drop) := ⟨rfl, rfl, rfl, by decide +kernel, rfl, by decide +kernel, by decide +kernel⟩
theorem ok_Body_drop {P : Program} {w : World} {K : PySem.W.Frag} {mg : Str → Option Value} {base : Heap} {T : Cs} {t : Bool} {f : Addr} {fd : FuncData}  (F : Fun K "drop" "Body.drop" s_Body_drop f fd) (bi : Bi mg)   (kl_t : Kl K (T.cls t) t) : FnOk P w K mg base CX0 1 f fd ["self", "cell"] (sp_Body_drop t T K) := by
  refine F.ok sc_Body_drop (fun vs H Q E h => ?_) (fun cdv A outer s H vs Q E hr h => ⟨rd_Body_drop t T K E, ?_, wk_Body_drop kl_t h⟩)
  · obtain ⟨_, _, _, _, _, _, rfl, _⟩ := h
    rfl
  · exact (pss_cons (ps_expr (pe_dpop1 (pe_fld (pv 0) rfl) (pv 1) ⟨rfl, rfl, rfl, rfl⟩))
      (pss_one (ps_expr (pe_dpop1 (pe_fld (pv 0) rfl) (pv 1) ⟨rfl, rfl, rfl, rfl⟩))))
@[irreducible] def m_Body_take {t : Bool} (x_self : (FS t)) (x_cell : Int) : Res (FS t) (Unit × (FS t)) := Res.bind (Res.lift (fun w => x_self) (m_Body_known x_self [x_cell])) fun y10 => Res.bind (Res.lift (fun w => x_self) (m_V_loose x_self x_cell)) fun y15 => Res.bind (Res.lift (fun w => x_self) (m_Body_over x_self x_cell)) fun y20 => if (!(decide (y20 = ([] : List Int)))) = true then .ex (.plain 6) x_self else Res.bind (Res.noex (m_Body_drop x_self x_cell)) fun y37 => .ok ((), y37.2)
def sp_Body_take (t : Bool) (T : Cs) (K : PySem.W.Frag) : Sp := fun vs H Q E => ∃ (A : Hp) (R : List Hp) (m_self : Hp) (v_self : V) (x_self : (FS t)) (x_cell : Int), vs = [v_self, (.int x_cell)] ∧ St H (A :: m_self :: R) ∧ Ob.isAt T A m_self v_self x_self ∧ (m_Body_take x_self x_cell).wp (fun y => ∀ (A' H' : Hp) (m0 : Hp), Same A A' → St H' (A' :: m0 :: R) → Ob.isAt T A' m0 v_self y.2 → Q .non H') (fun e w => ∀ (A' H' : Hp) (m0 : Hp) (cls : Value) (d : Option Addr), Same A A' → St H' (A' :: m0 :: R) → Ob.isAt T A' m0 v_self w → XA T e cls d A A' → E cls d H')
def rd_Body_take (t : Bool) (T : Cs) (K : PySem.W.Frag) (E : XK) : TS := (tSeq (tDrop (tMeth (T.cls t) "known" (sp_Body_known t T K) [] E (tVar 0) (tCons (tLst (tCons (tVar 1) tNil)) tNil))) (tSeq (tDrop (tMeth (T.cls t) "loose" (sp_V_loose t T K) [] E (tVar 0) (tCons (tVar 1) tNil))) (tSeq (tIfS (tTest (tOp (rNeD K) (tMeth (T.cls t) "over" (sp_Body_over t T K) [] E (tVar 0) (tCons (tVar 1) tNil)) (tLst tNil))) (tRaise0 E (T.ex 6)) tNext) (tDrop (tMeth (T.cls t) "drop" (sp_Body_drop t T K) [] E0 (tVar 0) (tCons (tVar 1) tNil))))))
theorem wk_Body_take {t : Bool} {T : Cs} {K : PySem.W.Frag} {vs : List V} {H : Hp} {Q : VK} {E : XK} (kl_t : Kl K (T.cls t) t) (h : sp_Body_take t T K vs H Q E) : rd_Body_take t T K E { nx := fun _ H' => Q .non H', rt := Q } (L2.start ["self", "cell"] vs) H := by
  obtain ⟨A, R, m_self, v_self, x_self, x_cell, rfl, S, h_self, h⟩ := h
  unfold m_Body_take at h
  unfold rd_Body_take
  have e0 : Same A A := Same.refl _
  refine q_drop ?_
  refine c_met (c_var rfl (f_met S h_self (by decide +kernel) (c_cons (c_tlst (c_cons (c_var rfl (c_nil (c_lst (α := Int) (vs := [(.int x_cell)]) (xs := [x_cell]) (Nat.le_of_ble_eq_true rfl) ⟨rfl, trivial⟩ (ow S fun p1 ws2 H3 S4 h5 => ?_)))))))))
  have h7 := frz_is h5 S4
  have S8 := S4.frz
  have e6 := same_join_l (A := A) (B := (one p1 (.lst ws2)))
  generalize hjA9 : join A (one p1 (.lst ws2)) = A9 at h7 S8 e6
  clear hjA9
  have e0 := e0.trans e6
  have h_self := upO h_self e6
  refine c_nil (⟨A9, (R), m_self, v_self, x_self, (.ref p1), [x_cell], rfl, S8, h_self, h7, ?_⟩)
  refine Res.wp_mono (Res.wp_lift (Res.wp_bind h)) (fun y10 h A11 H12 e13 S14 => ?_) (fun e w he AX HX  cls d eX SX  hx => by
      exact he AX HX m_self cls d (e0.trans eX) SX (upO h_self eX) (xa_base e0 hx))
  have e0 := e0.trans e13
  have h_self := upO h_self e13
  refine q_drop ?_
  refine c_met (c_var rfl (f_met S14 h_self (by decide +kernel) (c_cons (c_var rfl (c_nil (⟨A11, (R), m_self, v_self, x_self, x_cell, rfl, S14, h_self, ?_⟩))))))
  refine Res.wp_mono (Res.wp_lift (Res.wp_bind h)) (fun y15 h A16 H17 e18 S19 => ?_) (fun e w he AX HX  cls d eX SX  hx => by
      exact he AX HX m_self cls d (e0.trans eX) SX (upO h_self eX) (xa_base e0 hx))
  have e0 := e0.trans e18
  have h_self := upO h_self e18
  refine q_when ?_
  refine c_tst (c_op (c_met (c_var rfl (f_met S19 h_self (by decide +kernel) (c_cons (c_var rfl (c_nil (⟨A16, (R), m_self, v_self, x_self, x_cell, rfl, S19, h_self, ?_⟩))))))))
  refine Res.wp_mono (Res.wp_lift (Res.wp_bind h)) (fun y20 h A21 H22 p25 ws26 e23 S24 h27 => ?_) (fun e w he AX HX  cls d eX SX  hx => by
      exact he AX HX m_self cls d (e0.trans eX) SX (upO h_self eX) (xa_base e0 hx))
  have e0 := e0.trans e23
  have h_self := upO h_self e23
  refine c_tlst (c_nil (c_lst (α := Int) (vs := []) (xs := []) (Nat.le_of_ble_eq_true rfl) trivial (ow S24 fun p28 ws29 H30 S31 h32 => ?_)))
  refine c_neD (α := (List Int)) (x := y20) (y := ([] : List Int)) (dp_la S31 ⟨_, _, rfl, (S31.mem _ (List.mem_of_getElem? (i := 2) rfl)) _ _ one_same, h27⟩) (dp_la S31 ⟨_, _, rfl, (S31.mem _ (List.mem_of_getElem? (i := 1) rfl)) _ _ one_same, h32⟩) (Nat.le_of_ble_eq_true rfl) (c_bl (?_))
  refine c_if h (fun hc h => ?_) (fun hc h => ?_)
  ·
    refine s_raise ?_
    have S33 : St H30 (A21 :: m_self :: (one p28 (.lst ws29)) :: (one p25 (.lst ws26)) :: R) := S31.pick 2 (Nat.le_of_ble_eq_true rfl)
    have S34 : St H30 (A21 :: m_self :: (one p25 (.lst ws26)) :: R) := S33.drop 1 (Nat.le_of_ble_eq_true rfl)
    have S35 : St H30 (A21 :: m_self :: R) := S34.drop 1 (Nat.le_of_ble_eq_true rfl)
    exact h A21 H30 m_self _ _ e0 S35 h_self ⟨rfl, rfl⟩
  ·
    refine s_drop ?_
    have S36 : St H30 (A21 :: m_self :: (one p28 (.lst ws29)) :: (one p25 (.lst ws26)) :: R) := S31.pick 2 (Nat.le_of_ble_eq_true rfl)
    refine c_met (c_var rfl (f_met S36 h_self (by decide +kernel) (c_cons (c_var rfl (c_nil (⟨A21, ((one p28 (.lst ws29)) :: (one p25 (.lst ws26)) :: R), m_self, v_self, x_self, x_cell, rfl, S36, h_self, ?_⟩))))))
    refine Res.wp_mono (Res.wp_noex (Res.wp_bind h)) (fun y37 h A38 H39 m43 e40 S41 h42 => ?_) (fun _ _ h => h.elim)
    have e0 := e0.trans e40
    have S44 : St H39 (A38 :: m43 :: (one p25 (.lst ws26)) :: R) := S41.drop 1 (Nat.le_of_ble_eq_true rfl)
    have S45 : St H39 (A38 :: m43 :: R) := S44.drop 1 (Nat.le_of_ble_eq_true rfl)
    exact h (A38) (H39) (m43) e0 S45 h42
abbrev s_Body_take : Stmt := inClass (topS 21) 17
theorem sc_Body_take : FnScope ["self", "cell"] ["self", "cell"] (defScope s_Body_take) := ⟨rfl, rfl, rfl, by decide +kernel, rfl, by decide +kernel, by decide +kernel⟩
theorem ok_Body_take {P : Program} {w : World} {K : PySem.W.Frag} {mg : Str → Option Value} {base : Heap} {T : Cs} {t : Bool} {f : Addr} {fd : FuncData} {f_Body_known_t : Addr} {fd_Body_known_t : FuncData} {f_V_loose_t : Addr} {fd_V_loose_t : FuncData} {f_Body_over_t : Addr} {fd_Body_over_t : FuncData} {f_Body_drop_t : Addr} {fd_Body_drop_t : FuncData} (F : Fun K "take" "Body.take" s_Body_take f fd) (bi : Bi mg) (G_Body_known_t : MGlob P w K mg base (L2.CX P w) 1 (T.cls t) "known" ["self", "row"] (sp_Body_known t T K) f_Body_known_t fd_Body_known_t) (G_V_loose_t : MGlob P w K mg base (L2.CX P w) 2 (T.cls t) "loose" ["self", "cell"] (sp_V_loose t T K) f_V_loose_t fd_V_loose_t) (G_Body_over_t : MGlob P w K mg base (L2.CX P w) 2 (T.cls t) "over" ["self", "cell"] (sp_Body_over t T K) f_Body_over_t fd_Body_over_t) (G_Body_drop_t : MGlob P w K mg base CX0 1 (T.cls t) "drop" ["self", "cell"] (sp_Body_drop t T K) f_Body_drop_t fd_Body_drop_t) (X_Covered : ExC K mg "Covered" (T.ex 6)) (kl_t : Kl K (T.cls t) t) : FnOk P w K mg base (L2.CX P w) 3 f fd ["self", "cell"] (sp_Body_take t T K) := by
  refine F.okX sc_Body_take (fun vs H Q E h => ?_) (fun cdv A outer s H vs Q E hr h => ⟨rd_Body_take t T K E, ?_, wk_Body_take kl_t h⟩)
  · obtain ⟨_, _, _, _, _, _, rfl, _⟩ := h
    rfl
  · exact (pss_cons (ps_expr (pe_meth (pv 0) kl_t.cl G_Body_known_t.mt G_Body_known_t.ok (hr.mono (Nat.le_of_ble_eq_true rfl)) G_Body_known_t.b .nil (passes_call (takes_of rfl rfl rfl rfl) (fun _ _ _ _ h => h)) (pa_cons (pe_lst (pa_cons (pv 1) pa_nil)) pa_nil)))
      (pss_cons (ps_expr (pe_meth (pv 0) kl_t.cl G_V_loose_t.mt G_V_loose_t.ok (hr.mono (Nat.le_of_ble_eq_true rfl)) G_V_loose_t.b .nil (passes_call (takes_of rfl rfl rfl rfl) (fun _ _ _ _ h => h)) (pa_cons (pv 1) pa_nil)))
      (pss_cons (ps_if (pt_cmpR (op_neD hr.units) (pe_meth (pv 0) kl_t.cl G_Body_over_t.mt G_Body_over_t.ok (hr.mono (Nat.le_of_ble_eq_true rfl)) G_Body_over_t.b .nil (passes_call (takes_of rfl rfl rfl rfl) (fun _ _ _ _ h => h)) (pa_cons (pv 1) pa_nil)) (pe_lst pa_nil) (nomark _)) (pss_one (ps_raise rfl (takes_of rfl rfl rfl rfl) (pmk_own PySem.F.excBase_ValueError X_Covered.x X_Covered.g X_Covered.kp (raises_own X_Covered.b X_Covered.t) (by rfl)))) pss_nil)
      (pss_one (ps_expr (pe_meth (pv 0) kl_t.cl G_Body_drop_t.mt G_Body_drop_t.ok (hr.mono (Nat.le_of_ble_eq_true rfl)) G_Body_drop_t.b .nil pass0 (pa_cons (pv 1) pa_nil)))))))
@[irreducible] def m_law_fill {t : Bool} (x_body : (FS t)) (x_rows_here : (List (Option (Int × (List Int))))) : Res (FS t) (Unit × (FS t)) := Res.bind (forM (β := (Unit × (FS t))) (fun z1 (s10 : (FS t)) => if (z1.2).isNone = true then Res.bind (Res.noex (m_Body_put s10 (0 : Int) ([] : List Int))) fun y38 => Res.bind (Res.noex (m_Body_take y38.2 z1.1)) fun y45 => .ok (.next y45.2) else Res.bind (getR z1.2) fun t52 => Res.bind (getR z1.2) fun t55 => Res.bind (Res.noex (m_Body_put s10 t52.1 t55.2)) fun y67 => .ok (.next y67.2)) (enumL x_rows_here) x_body) fun r75 => (match r75 with | .next s22 => .ok ((), s22) | .ret y76 => .ok y76)
def sp_law_fill (t : Bool) (T : Cs) (K : PySem.W.Frag) : Sp := fun vs H Q E => ∃ (A : Hp) (R : List Hp) (m_body : Hp) (v_body : V) (x_body : (FS t)) (v_rows_here : V) (x_rows_here : (List (Option (Int × (List Int))))), vs = [v_body, v_rows_here] ∧ St H (A :: m_body :: R) ∧ Ob.isAt T A m_body v_body x_body ∧ Is A v_rows_here x_rows_here ∧ (m_law_fill x_body x_rows_here).wp (fun y => ∀ (A' H' : Hp) (m0 : Hp), Same A A' → St H' (A' :: m0 :: R) → Ob.isAt T A' m0 v_body y.2 → Q v_body H') (fun _ _ => False)
def rd_law_fill (t : Bool) (T : Cs) (K : PySem.W.Frag) (E : XK) : TS := (tSeq (tFor (iEnum K (tCons (tVar 1) tNil)) (gTup K 2 (gCons (gName 2) (gCons (gName 3) gNil))) (tIfS (tTest (tOp rIsN (tVar 3) (tC .non))) (tSeq (tDrop (tMeth (T.cls t) "put" (sp_Body_put t T K) [] E0 (tVar 0) (tCons (tC (.int 0)) (tCons (tLst tNil) tNil)))) (tDrop (tMeth (T.cls t) "take" (sp_Body_take t T K) [] E0 (tVar 0) (tCons (tVar 2) tNil)))) (tDrop (tMeth (T.cls t) "put" (sp_Body_put t T K) [] E0 (tVar 0) (tCons (tOp (rIxT K) (tVar 3) (tC (.int 0))) (tCons (tCB (Evl.rListS K) (tCons (tOp (rIxT K) (tVar 3) (tC (.int 1))) tNil)) tNil)))))) (tRet (tVar 0)))
theorem wk_law_fill {t : Bool} {T : Cs} {K : PySem.W.Frag} {vs : List V} {H : Hp} {Q : VK} {E : XK} (kl_t : Kl K (T.cls t) t) (h : sp_law_fill t T K vs H Q E) : rd_law_fill t T K E { nx := fun _ H' => Q .non H', rt := Q } (L2.start ["_law_body", "_law_rows_here", "_law_number", "_law_row_here"] vs) H := by
  obtain ⟨A, R, m_body, v_body, x_body, v_rows_here, x_rows_here, rfl, S, h_body, h_rows_here, h⟩ := h
  unfold m_law_fill at h
  unfold rd_law_fill
  have e0 : Same A A := Same.refl _
  refine q_forE (c_cons (c_var rfl (c_nil (?_))))
  refine c_forE (A := A) (s0 := x_body) (fun (A_ : Hp) (σ_ : L2.St) (R_ : List Hp) (s : (FS t)) => ∃ (m_body6 : Hp) (y_number6 : Option V) (y_row_here6 : Option V), σ_ = [some v_body, some v_rows_here, y_number6, y_row_here6] ∧ m_body6 :: R = R_ ∧ Ob.isAt T A_ m_body6 v_body (s : (FS t))) S (fun Q' q => q) h_rows_here ⟨m_body, _, _, rfl, rfl, h_body⟩ h (fun z1 w3 A7 H8 σ18 R9 s10 C11 N12 hz13 e14 S15 h5 hR16 hN17 h => ?_) (fun A19 H20 σ26 R21 s22 e23 S24 hR25 h => ?_)
  ·
    have eL27 : Same A A := Same.refl _
    obtain ⟨m_body6, y_number6, y_row_here6, rfl, rfl, h28⟩ := hR16
    have e0 := e0.trans e14
    have eL27 := eL27.trans e14
    have h_rows_here := up h_rows_here e14
    refine s_if ?_
    refine c_tst (c_op (c_var rfl (c_c (c_isN h5 (c_bl (?_))))))
    refine c_if h (fun hc h => ?_) (fun hc h => ?_)
    ·
      refine q_drop ?_
      refine c_met (c_var rfl (f_met S15 h28 (by decide +kernel) (c_cons (c_c (c_cons (c_tlst (c_nil (c_lst (α := Int) (vs := []) (xs := []) (Nat.le_of_ble_eq_true rfl) trivial (ow S15 fun p29 ws30 H31 S32 h33 => ?_)))))))))
      have h35 := frz_is h33 S32
      have S36 := S32.frz
      have e34 := same_join_l (A := A7) (B := (one p29 (.lst ws30)))
      generalize hjA37 : join A7 (one p29 (.lst ws30)) = A37 at h35 S36 e34
      clear hjA37
      have e0 := e0.trans e34
      have eL27 := eL27.trans e34
      have h28 := upO h28 e34
      have h_rows_here := up h_rows_here e34
      have h5 := up h5 e34
      refine c_nil (⟨A37, (R), m_body6, v_body, s10, (0 : Int), (.ref p29), ([] : List Int), rfl, S36, h28, h35, ?_⟩)
      refine Res.wp_mono (Res.wp_noex (Res.wp_bind h)) (fun y38 h A39 H40 m44 e41 S42 h43 => ?_) (fun _ _ h => h.elim)
      have e0 := e0.trans e41
      have eL27 := eL27.trans e41
      have h_rows_here := up h_rows_here e41
      have h5 := up h5 e41
      refine s_drop ?_
      refine c_met (c_var rfl (f_met S42 h43 (by decide +kernel) (c_cons (c_var rfl (c_nil (⟨A39, (R), m44, v_body, y38.2, z1.1, rfl, S42, h43, ?_⟩))))))
      refine Res.wp_mono (Res.wp_noex (Res.wp_bind h)) (fun y45 h A46 H47 m51 e48 S49 h50 => ?_) (fun _ _ h => h.elim)
      have e0 := e0.trans e48
      have eL27 := eL27.trans e48
      have h_rows_here := up h_rows_here e48
      have h5 := up h5 e48
      exact hN17 _ _ _ _ y45.2 eL27 S49 ⟨m51, _, _, rfl, rfl, h50⟩ h
    ·
      refine s_drop ?_
      refine c_met (c_var rfl (f_met S15 h28 (by decide +kernel) (c_cons (c_op (c_var rfl (c_c (c_ixO0 S15 h5 h fun t52 w53 h54 h => ?_)))))))
      obtain rfl : w53 = (.int t52.1) := h54
      refine c_cons (c_cb (c_cons (c_op (c_var rfl (c_c (c_ixO1 S15 h5 h fun t55 w56 h57 h => ?_))))))
      refine c_nil (c_list (la_of S15 h57) (ow S15 fun p58 ws59 H60 S61 h62 => ?_))
      have h64 := frz_is h62 S61
      have S65 := S61.frz
      have e63 := same_join_l (A := A7) (B := (one p58 (.lst ws59)))
      generalize hjA66 : join A7 (one p58 (.lst ws59)) = A66 at h64 S65 e63
      clear hjA66
      have e0 := e0.trans e63
      have eL27 := eL27.trans e63
      have h28 := upO h28 e63
      have h_rows_here := up h_rows_here e63
      have h5 := up h5 e63
      refine c_nil (⟨A66, (R), m_body6, v_body, s10, t52.1, (.ref p58), t55.2, rfl, S65, h28, h64, ?_⟩)
      refine Res.wp_mono (Res.wp_noex (Res.wp_bind h)) (fun y67 h A68 H69 m73 e70 S71 h72 => ?_) (fun _ _ h => h.elim)
      have e0 := e0.trans e70
      have eL27 := eL27.trans e70
      have h_rows_here := up h_rows_here e70
      have h5 := up h5 e70
      exact hN17 _ _ _ _ y67.2 eL27 S71 ⟨m73, _, _, rfl, rfl, h72⟩ h
  ·
    refine nx_mk ?_
    obtain ⟨m_body6, y_number6, y_row_here6, rfl, rfl, h74⟩ := hR25
    have e0 := e0.trans e23
    have h_rows_here := up h_rows_here e23
    refine s_ret ?_
    refine c_var rfl (?_)
    exact h (A19) (H20) (m_body6) e0 S24 h74
abbrev s_law_fill : Stmt := topS 36
theorem sc_law_fill : FnScope ["_law_body", "_law_rows_here", "_law_number", "_law_row_here"] ["_law_body", "_law_rows_here"] (defScope s_law_fill) := ⟨rfl, rfl, rfl, by decide +kernel, rfl, by decide +kernel, by decide +kernel⟩
theorem ok_law_fill {P : Program} {w : World} {K : PySem.W.Frag} {mg : Str → Option Value} {base : Heap} {T : Cs} {t : Bool} {f : Addr} {fd : FuncData} {f_Body_put_t : Addr} {fd_Body_put_t : FuncData} {f_Body_take_t : Addr} {fd_Body_take_t : FuncData} (F : Fun K "_law_fill" "_law_fill" s_law_fill f fd) (bi : Bi mg) (G_Body_put_t : MGlob P w K mg base (L2.CX P w) 4 (T.cls t) "put" ["self", "rank", "border"] (sp_Body_put t T K) f_Body_put_t fd_Body_put_t) (G_Body_take_t : MGlob P w K mg base (L2.CX P w) 3 (T.cls t) "take" ["self", "cell"] (sp_Body_take t T K) f_Body_take_t fd_Body_take_t)  (kl_t : Kl K (T.cls t) t) : FnOk P w K mg base CX0 5 f fd ["_law_body", "_law_rows_here"] (sp_law_fill t T K) := by
  refine F.ok sc_law_fill (fun vs H Q E h => ?_) (fun cdv A outer s H vs Q E hr h => ⟨rd_law_fill t T K E, ?_, wk_law_fill kl_t h⟩)
  · obtain ⟨_, _, _, _, _, _, _, rfl, _⟩ := h
    rfl
  · exact (pss_cons (ps_for PassesOwn.never rfl (pi_enum (by rfl) bi.enumerate (pa_cons (pv 1) pa_nil)) (pg_tup rfl (pgs_cons (pg_name (i := 2) sc_law_fill.nd rfl (Or.inl rfl)) (pgs_cons (pg_name (i := 3) sc_law_fill.nd rfl (Or.inl rfl)) pgs_nil))) (pss_one (ps_if (pt_cmpR op_isN1 (pv 3) pe_non (nomark _)) (pss_cons (ps_expr (pe_meth (pv 0) kl_t.cl G_Body_put_t.mt G_Body_put_t.ok (hr.mono (Nat.le_of_ble_eq_true rfl)) G_Body_put_t.b .nil passL (pa_cons pe_int (pa_cons (pe_lst pa_nil) pa_nil))))
      (pss_one (ps_expr (pe_meth (pv 0) kl_t.cl G_Body_take_t.mt G_Body_take_t.ok (hr.mono (Nat.le_of_ble_eq_true rfl)) G_Body_take_t.b .nil passL (pa_cons (pv 2) pa_nil))))) (pss_one (ps_expr (pe_meth (pv 0) kl_t.cl G_Body_put_t.mt G_Body_put_t.ok (hr.mono (Nat.le_of_ble_eq_true rfl)) G_Body_put_t.b .nil passL (pa_cons (pe_ix ix_tup (pv 3) pe_int (fun _ _ => rfl)) (pa_cons (pe_callTy call_list_of (by rfl) bi.list boot_list (pa_cons (pe_ix ix_tup (pv 3) pe_int (fun _ _ => rfl)) pa_nil)) pa_nil))))))))
      (pss_one (ps_ret (pv 0))))
@[irreducible] def m_law_tails (x_arrows : (List (Int × Int))) : Res Unit (List Int) := Res.bind (compG (β := Int) (fun z2 (s8 : Unit) => .ok (some z2.1, ())) x_arrows ()) fun y22 => .ok y22.1
def sp_law_tails (T : Cs) (K : PySem.W.Frag) : Sp := fun vs H Q E => ∃ (A : Hp) (R : List Hp) (v_arrows : V) (x_arrows : (List (Int × Int))), vs = [v_arrows] ∧ St H (A :: R) ∧ Is A v_arrows x_arrows ∧ (m_law_tails x_arrows).wp (fun y => ∀ (A' H' : Hp) (p : Addr) (ws : List V), Same A A' → St H' (A' :: one p (.lst ws) :: R) → OL A' ws y → Q (.ref p) H') (fun _ _ => False)
def rd_law_tails (T : Cs) (K : PySem.W.Frag) (E : XK) : TS := (tRet (tLc (iList K (tVar 0)) (gTup K 2 (gCons (gName 1) (gCons (gName 2) gNil))) tYes (tVar 1) [1, 2]))
theorem wk_law_tails {T : Cs} {K : PySem.W.Frag} {vs : List V} {H : Hp} {Q : VK} {E : XK}  (h : sp_law_tails T K vs H Q E) : rd_law_tails T K E { nx := fun _ H' => Q .non H', rt := Q } (L2.start ["_law_arrows", "_law_low", "_law_high"] vs) H := by
  obtain ⟨A, R, v_arrows, x_arrows, rfl, S, h_arrows, h⟩ := h
  unfold m_law_tails at h
  unfold rd_law_tails
  have e0 : Same A A := Same.refl _
  refine s_ret ?_
  refine c_lcE ?_
  refine c_var rfl (?_)
  refine c_lcPF (A := A) (R := R) (tt := tYes) (te := (tVar 1)) (vs := [1, 2]) (j1 := 1) (j2 := 2) (fun (A_ : Hp) (R_ : List Hp) (s : Unit) => R = R_) S (fun Q' q => q) h_arrows rfl h (fun _ _ => rfl) (fun z2 w3 w4 A5 H6 R7 s8 n9 C10 K1_11 K0_12 hz13 h19 h20 e14 S15 hR16 hK17 hK18 h => ?_) (fun p23 A24 H25 R26 ws27 y22 h e28 S29 hR30 h31 => ?_)
  ·
    have eC21 : Same A5 A5 := Same.refl _
    obtain rfl := hR16
    have e0 := e0.trans e14
    have h_arrows := up h_arrows e14
    obtain rfl : w3 = (.int z2.1) := h19
    obtain rfl : w4 = (.int z2.2) := h20
    refine c_yes ?_
    refine c_var rfl (?_)
    exact hK17 _ _ _ z2.1 _ () eC21 S15 rfl rfl h
  ·
    obtain rfl := hR30
    have e0 := e0.trans e28
    have h_arrows := up h_arrows e28
    exact h (A24) (H25) (p23) (ws27) e0 S29 h31
abbrev s_law_tails : Stmt := topS 37
theorem sc_law_tails : FnScope ["_law_arrows", "_law_low", "_law_high"] ["_law_arrows"] (defScope s_law_tails) := ⟨rfl, rfl, rfl, by decide +kernel, rfl, by decide +kernel, by decide +kernel⟩
theorem ok_law_tails {P : Program} {w : World} {K : PySem.W.Frag} {mg : Str → Option Value} {base : Heap} {T : Cs} {f : Addr} {fd : FuncData}  (F : Fun K "_law_tails" "_law_tails" s_law_tails f fd) (bi : Bi mg)    : FnOk P w K mg base CX0 1 f fd ["_law_arrows"] (sp_law_tails T K) := by
  refine F.ok sc_law_tails (fun vs H Q E h => ?_) (fun cdv A outer s H vs Q E hr h => ⟨rd_law_tails T K E, ?_, wk_law_tails  h⟩)
  · obtain ⟨_, _, _, _, rfl, _⟩ := h
    rfl
  · exact (pss_one (ps_ret (pe_lc (own := [("_law_low", 1), ("_law_high", 2)]) (g := (gTup K 2 (gCons (gName 1) (gCons (gName 2) gNil)))) (tt := tYes) (te := (tVar 1)) rfl sc_law_tails.nd (pi_list (pv 0)) (blkOk_by (own := [("_law_low", 1), ("_law_high", 2)]) (N := ["_law_arrows", "_law_low", "_law_high"]) (sc := defScope s_law_tails) (by decide +kernel)) (fun _ _ _ _ _ => pg_tup rfl (pgs_cons (pg_name (i := 1) sc_law_tails.nd rfl (Or.inl rfl)) (pgs_cons (pg_name (i := 2) sc_law_tails.nd rfl (Or.inl rfl)) pgs_nil))) (fun _ _ _ _ _ => pts_nil) (fun _ _ _ _ _ => (pv 1)))))
@[irreducible] def m_law_heads (x_arrows : (List (Int × Int))) : Res Unit (List Int) := Res.bind (compG (β := Int) (fun z2 (s8 : Unit) => .ok (some z2.2, ())) x_arrows ()) fun y22 => Res.bind (.ok (sortI y22.1)) fun t32 => .ok t32
def sp_law_heads (T : Cs) (K : PySem.W.Frag) : Sp := fun vs H Q E => ∃ (A : Hp) (R : List Hp) (v_arrows : V) (x_arrows : (List (Int × Int))), vs = [v_arrows] ∧ St H (A :: R) ∧ Is A v_arrows x_arrows ∧ (m_law_heads x_arrows).wp (fun y => ∀ (A' H' : Hp) (p : Addr) (ws : List V), Same A A' → St H' (A' :: one p (.lst ws) :: R) → OL A' ws y → Q (.ref p) H') (fun _ _ => False)
def rd_law_heads (T : Cs) (K : PySem.W.Frag) (E : XK) : TS := (tRet (tCB (rSortedI K) (tCons (tLc (iList K (tVar 0)) (gTup K 2 (gCons (gName 1) (gCons (gName 2) gNil))) tYes (tVar 2) [1, 2]) tNil)))
theorem wk_law_heads {T : Cs} {K : PySem.W.Frag} {vs : List V} {H : Hp} {Q : VK} {E : XK}  (h : sp_law_heads T K vs H Q E) : rd_law_heads T K E { nx := fun _ H' => Q .non H', rt := Q } (L2.start ["_law_arrows", "_law_low", "_law_high"] vs) H := by
  obtain ⟨A, R, v_arrows, x_arrows, rfl, S, h_arrows, h⟩ := h
  unfold m_law_heads at h
  unfold rd_law_heads
  have e0 : Same A A := Same.refl _
  refine s_ret ?_
  refine c_cb (c_cons (?_))
  refine c_lcE ?_
  refine c_var rfl (?_)
  refine c_lcPF (A := A) (R := R) (tt := tYes) (te := (tVar 2)) (vs := [1, 2]) (j1 := 1) (j2 := 2) (fun (A_ : Hp) (R_ : List Hp) (s : Unit) => R = R_) S (fun Q' q => q) h_arrows rfl h (fun _ _ => rfl) (fun z2 w3 w4 A5 H6 R7 s8 n9 C10 K1_11 K0_12 hz13 h19 h20 e14 S15 hR16 hK17 hK18 h => ?_) (fun p23 A24 H25 R26 ws27 y22 h e28 S29 hR30 h31 => ?_)
  ·
    have eC21 : Same A5 A5 := Same.refl _
    obtain rfl := hR16
    have e0 := e0.trans e14
    have h_arrows := up h_arrows e14
    obtain rfl : w3 = (.int z2.1) := h19
    obtain rfl : w4 = (.int z2.2) := h20
    refine c_yes ?_
    refine c_var rfl (?_)
    exact hK17 _ _ _ z2.2 _ () eC21 S15 rfl rfl h
  ·
    obtain rfl := hR30
    have e0 := e0.trans e28
    have h_arrows := up h_arrows e28
    refine c_nil (c_sorted ⟨_, _, rfl, (S29.mem _ (List.mem_of_getElem? (i := 1) rfl)) _ _ one_same, h31⟩ h fun t32 h => (ow S29 fun p33 ws34 H35 S36 h37 => ?_))
    have S38 : St H35 (A24 :: (one p33 (.lst ws34)) :: R) := S36.drop 1 (Nat.le_of_ble_eq_true rfl)
    exact h (A24) (H35) (p33) (ws34) e0 S38 h37
abbrev s_law_heads : Stmt := topS 38
theorem sc_law_heads : FnScope ["_law_arrows", "_law_low", "_law_high"] ["_law_arrows"] (defScope s_law_heads) := ⟨rfl, rfl, rfl, by decide +kernel, rfl, by decide +kernel, by decide +kernel⟩
theorem ok_law_heads {P : Program} {w : World} {K : PySem.W.Frag} {mg : Str → Option Value} {base : Heap} {T : Cs} {f : Addr} {fd : FuncData}  (F : Fun K "_law_heads" "_law_heads" s_law_heads f fd) (bi : Bi mg)    : FnOk P w K mg base CX0 1 f fd ["_law_arrows"] (sp_law_heads T K) := by
  refine F.ok sc_law_heads (fun vs H Q E h => ?_) (fun cdv A outer s H vs Q E hr h => ⟨rd_law_heads T K E, ?_, wk_law_heads  h⟩)
  · obtain ⟨_, _, _, _, rfl, _⟩ := h
    rfl
  · exact (pss_one (ps_ret (pe_callB cr_sortedI (by rfl) bi.sorted boot_sorted (pa_cons (pe_lc (own := [("_law_low", 1), ("_law_high", 2)]) (g := (gTup K 2 (gCons (gName 1) (gCons (gName 2) gNil)))) (tt := tYes) (te := (tVar 2)) rfl sc_law_heads.nd (pi_list (pv 0)) (blkOk_by (own := [("_law_low", 1), ("_law_high", 2)]) (N := ["_law_arrows", "_law_low", "_law_high"]) (sc := defScope s_law_heads) (by decide +kernel)) (fun _ _ _ _ _ => pg_tup rfl (pgs_cons (pg_name (i := 1) sc_law_heads.nd rfl (Or.inl rfl)) (pgs_cons (pg_name (i := 2) sc_law_heads.nd rfl (Or.inl rfl)) pgs_nil))) (fun _ _ _ _ _ => pts_nil) (fun _ _ _ _ _ => (pv 2))) pa_nil))))
@[irreducible] def m_law_parted (x_row_here : (List Int)) (x_keep : (List Int)) : Res Unit (List Int) := Res.bind (.ok ((x_row_here.filter (fun z1 => (decide (z1 ∈ x_keep)))).map (fun z1 => z1))) fun t31 => .ok t31
def sp_law_parted (T : Cs) (K : PySem.W.Frag) : Sp := fun vs H Q E => ∃ (A : Hp) (R : List Hp) (v_row_here : V) (x_row_here : (List Int)) (v_keep : V) (x_keep : (List Int)), vs = [v_row_here, v_keep] ∧ St H (A :: R) ∧ Is A v_row_here x_row_here ∧ Is A v_keep x_keep ∧ (m_law_parted x_row_here x_keep).wp (fun y => ∀ (A' H' : Hp) (p : Addr) (ws : List V), Same A A' → St H' (A' :: one p (.lst ws) :: R) → OL A' ws y → Q (.ref p) H') (fun _ _ => False)
def rd_law_parted (T : Cs) (K : PySem.W.Frag) (E : XK) : TS := (tRet (tLc (iList K (tVar 0)) (gName 2) (tTest (tOp (rIn K false) (tVar 2) (tVar 1))) (tVar 2) [2]))
theorem wk_law_parted {T : Cs} {K : PySem.W.Frag} {vs : List V} {H : Hp} {Q : VK} {E : XK}  (h : sp_law_parted T K vs H Q E) : rd_law_parted T K E { nx := fun _ H' => Q .non H', rt := Q } (L2.start ["_law_row_here", "_law_keep", "_law_x"] vs) H := by
  obtain ⟨A, R, v_row_here, x_row_here, v_keep, x_keep, rfl, S, h_row_here, h_keep, h⟩ := h
  unfold m_law_parted at h
  unfold rd_law_parted
  have e0 : Same A A := Same.refl _
  refine s_ret ?_
  refine c_lcE ?_
  refine c_var rfl (?_)
  refine c_lcL (A := A) (R := R) (tt := (tTest (tOp (rIn K false) (tVar 2) (tVar 1)))) (te := (tVar 2)) (vs := [2]) (j := 2) (xs := x_row_here) (fun z1 => (decide (z1 ∈ x_keep))) (fun z1 => z1) S (fun Q' q => q) h_row_here h (fun _ => rfl) ?_ ?_ (fun p32 A33 H34 ws35 t31 h e36 S37 h38 => ?_)
  ·
    intro z1 w2 A3 n4 hm14 e7 h12 A5 H6 e8 S9 Q10 hk11
    have e0 := e0.trans (e7.trans e8)
    have e15 := e7.trans e8
    have h_row_here := up h_row_here e15
    have h_keep := up h_keep e15
    have eC16 : Same A5 A5 := Same.refl _
    have h12 := up h12 e8
    obtain rfl : w2 = (.int z1) := h12
    refine c_tst (c_op (c_var rfl (c_var rfl (c_in (la_of S9 h_keep) (c_bl (?_))))))
    exact hk11 _ _ eC16 S9
  ·
    intro z1 w2 A17 n18 hm28 e21 h26 hf27 A19 H20 e22 S23 Q24 hk25
    have e0 := e0.trans (e21.trans e22)
    have e29 := e21.trans e22
    have h_row_here := up h_row_here e29
    have h_keep := up h_keep e29
    have eC30 : Same A19 A19 := Same.refl _
    have h26 := up h26 e22
    obtain rfl : w2 = (.int z1) := h26
    refine c_var rfl (?_)
    exact hk25 _ _ _ eC30 S23 rfl
  ·
    have e0 := e0.trans e36
    have h_row_here := up h_row_here e36
    have h_keep := up h_keep e36
    exact h (A33) (H34) (p32) (ws35) e0 S37 h38
abbrev s_law_parted : Stmt := topS 39
theorem sc_law_parted : FnScope ["_law_row_here", "_law_keep", "_law_x"] ["_law_row_here", "_law_keep"] (defScope s_law_parted) := ⟨rfl, rfl, rfl, by decide +kernel, rfl, by decide +kernel, by decide +kernel⟩
theorem ok_law_parted {P : Program} {w : World} {K : PySem.W.Frag} {mg : Str → Option Value} {base : Heap} {T : Cs} {f : Addr} {fd : FuncData}  (F : Fun K "_law_parted" "_law_parted" s_law_parted f fd) (bi : Bi mg)    : FnOk P w K mg base CX0 1 f fd ["_law_row_here", "_law_keep"] (sp_law_parted T K) := by
  refine F.ok sc_law_parted (fun vs H Q E h => ?_) (fun cdv A outer s H vs Q E hr h => ⟨rd_law_parted T K E, ?_, wk_law_parted  h⟩)
  · obtain ⟨_, _, _, _, _, _, rfl, _⟩ := h
    rfl
  · exact (pss_one (ps_ret (pe_lc (own := [("_law_x", 2)]) (g := gName 2) (tt := (tTest (tOp (rIn K false) (tVar 2) (tVar 1)))) (te := (tVar 2)) rfl sc_law_parted.nd (pi_list (pv 0)) (blkOk_by (own := [("_law_x", 2)]) (N := ["_law_row_here", "_law_keep", "_law_x"]) (sc := defScope s_law_parted) (by decide +kernel)) (fun _ _ _ _ _ => pg_name (i := 2) sc_law_parted.nd rfl (Or.inl rfl)) (fun _ _ _ _ _ => pts_one (pt_cmpR op_in_seq (pv 2) (pv 1) rfl)) (fun _ _ _ _ _ => (pv 2)))))
@[irreducible] def m_Field_untie (x_self : (FS true)) (x_low : Int) : Res (FS true) (Int × (FS true)) := Res.bind (Res.lift (fun w => x_self) (m_Body_known x_self [x_low])) fun y10 => if (!(agt x_self.ahead x_low).isSome) = true then .ex (.plain 9) x_self else Res.bind (apopR x_self.ahead x_low) fun y25 => Res.bind (apopR x_self.behind y25.1) fun y39 => .ok (y25.1, (FS.mk x_self.ranks x_self.edges x_self.after y25.2 y39.2 : FS true))
def sp_Field_untie (T : Cs) (K : PySem.W.Frag) : Sp := fun vs H Q E => ∃ (A : Hp) (R : List Hp) (m_self : Hp) (v_self : V) (x_self : (FS true)) (x_low : Int), vs = [v_self, (.int x_low)] ∧ St H (A :: m_self :: R) ∧ Ob.isAt T A m_self v_self x_self ∧ (m_Field_untie x_self x_low).wp (fun y => ∀ (A' H' : Hp) (m0 : Hp), Same A A' → St H' (A' :: m0 :: R) → Ob.isAt T A' m0 v_self y.2 → Q (.int y.1) H') (fun e w => ∀ (A' H' : Hp) (m0 : Hp) (cls : Value) (d : Option Addr), Same A A' → St H' (A' :: m0 :: R) → Ob.isAt T A' m0 v_self w → XA T e cls d A A' → E cls d H')
def rd_Field_untie (T : Cs) (K : PySem.W.Frag) (E : XK) : TS := (tSeq (tDrop (tMeth (T.cls true) "known" (sp_Body_known true T K) [] E (tVar 0) (tCons (tLst (tCons (tVar 1) tNil)) tNil))) (tSeq (tIfS (tB (tDNotIn (tVar 1) (tFld K (tVar 0) "ahead"))) (tRaise0 E (T.ex 9)) tNext) (tSeq (tAsg (tDPop1 (tFld K (tVar 0) "ahead") (tVar 1)) (gName 2)) (tSeq (tDrop (tDPop1 (tFld K (tVar 0) "behind") (tVar 2))) (tRet (tVar 2))))))
theorem wk_Field_untie {T : Cs} {K : PySem.W.Frag} {vs : List V} {H : Hp} {Q : VK} {E : XK} (kl_true : Kl K (T.cls true) true) (h : sp_Field_untie T K vs H Q E) : rd_Field_untie T K E { nx := fun _ H' => Q .non H', rt := Q } (L2.start ["self", "low", "high"] vs) H := by
  obtain ⟨A, R, m_self, v_self, x_self, x_low, rfl, S, h_self, h⟩ := h
  unfold m_Field_untie at h
  unfold rd_Field_untie
  have e0 : Same A A := Same.refl _
  refine q_drop ?_
  refine c_met (c_var rfl (f_met S h_self (by decide +kernel) (c_cons (c_tlst (c_cons (c_var rfl (c_nil (c_lst (α := Int) (vs := [(.int x_low)]) (xs := [x_low]) (Nat.le_of_ble_eq_true rfl) ⟨rfl, trivial⟩ (ow S fun p1 ws2 H3 S4 h5 => ?_)))))))))
  have h7 := frz_is h5 S4
  have S8 := S4.frz
  have e6 := same_join_l (A := A) (B := (one p1 (.lst ws2)))
  generalize hjA9 : join A (one p1 (.lst ws2)) = A9 at h7 S8 e6
  clear hjA9
  have e0 := e0.trans e6
  have h_self := upO h_self e6
  refine c_nil (⟨A9, (R), m_self, v_self, x_self, (.ref p1), [x_low], rfl, S8, h_self, h7, ?_⟩)
  refine Res.wp_mono (Res.wp_lift (Res.wp_bind h)) (fun y10 h A11 H12 e13 S14 => ?_) (fun e w he AX HX  cls d eX SX  hx => by
      exact he AX HX m_self cls d (e0.trans eX) SX (upO h_self eX) (xa_base e0 hx))
  have e0 := e0.trans e13
  have h_self := upO h_self e13
  refine q_when ?_
  refine c_tb (c_dnotin (c_var rfl (c_fld (c_var rfl (f_ahead kl_true S14 h_self fun d15 kv16 hd17 hk18 cap19 => ?_)))))
  refine d_notin hd17 hk18 (c_bl (?_))
  refine c_if h (fun hc h => ?_) (fun hc h => ?_)
  ·
    refine s_raise ?_
    exact h A11 H12 m_self _ _ e0 S14 h_self ⟨rfl, rfl⟩
  ·
    refine q_asg ?_
    refine c_dpop (c_fld (c_var rfl (f_ahead kl_true S14 h_self fun d20 kv21 hd22 hk23 cap24 => ?_)))
    refine d_isd hd22 (c_var rfl (d_pop hd22 hk23 h fun y25 w26 kv27 h28 h hk29 => ?_))
    obtain ⟨m30, S31, h32⟩ := cap24 _ _ hk29
    generalize L2.upd H12 _ _ = H33 at S31 ⊢
    obtain rfl : w26 = (.int y25.1) := h28
    refine q_drop ?_
    refine c_dpop (c_fld (c_var rfl (f_behind kl_true S31 h32 fun d34 kv35 hd36 hk37 cap38 => ?_)))
    refine d_isd hd36 (c_var rfl (d_pop hd36 hk37 h fun y39 w40 kv41 h42 h hk43 => ?_))
    obtain ⟨m44, S45, h46⟩ := cap38 _ _ hk43
    generalize L2.upd H33 _ _ = H47 at S45 ⊢
    obtain rfl : w40 = (.int y39.1) := h42
    refine s_ret ?_
    refine c_var rfl (?_)
    exact h (A11) (H47) (m44) e0 S45 h46
abbrev s_Field_untie : Stmt := inClass (topS 23) 14
theorem sc_Field_untie : FnScope ["self", "low", "high"] ["self", "low"] (defScope s_Field_untie) := ⟨rfl, rfl, rfl, by decide +kernel, rfl, by decide +kernel, by decide +kernel⟩
theorem ok_Field_untie {P : Program} {w : World} {K : PySem.W.Frag} {mg : Str → Option Value} {base : Heap} {T : Cs} {f : Addr} {fd : FuncData} {f_Body_known_true : Addr} {fd_Body_known_true : FuncData} (F : Fun K "untie" "Field.untie" s_Field_untie f fd) (bi : Bi mg) (G_Body_known_true : MGlob P w K mg base (L2.CX P w) 1 (T.cls true) "known" ["self", "row"] (sp_Body_known true T K) f_Body_known_true fd_Body_known_true) (X_NotTied : ExC K mg "NotTied" (T.ex 9)) (kl_true : Kl K (T.cls true) true) : FnOk P w K mg base (L2.CX P w) 2 f fd ["self", "low"] (sp_Field_untie T K) := by
  refine F.okX sc_Field_untie (fun vs H Q E h => ?_) (fun cdv A outer s H vs Q E hr h => ⟨rd_Field_untie T K E, ?_, wk_Field_untie kl_true h⟩)
  · obtain ⟨_, _, _, _, _, _, rfl, _⟩ := h
    rfl
  · exact (pss_cons (ps_expr (pe_meth (pv 0) kl_true.cl G_Body_known_true.mt G_Body_known_true.ok (hr.mono (Nat.le_of_ble_eq_true rfl)) G_Body_known_true.b .nil (passes_call (takes_of rfl rfl rfl rfl) (fun _ _ _ _ h => h)) (pa_cons (pe_lst (pa_cons (pv 1) pa_nil)) pa_nil)))
      (pss_cons (ps_if (pt_cmp (pc_dnotin (hu_of hr) (pv 1) (pe_fld (pv 0) rfl)) rfl) (pss_one (ps_raise rfl (takes_of rfl rfl rfl rfl) (pmk_own PySem.F.excBase_ValueError X_NotTied.x X_NotTied.g X_NotTied.kp (raises_own X_NotTied.b X_NotTied.t) (by rfl)))) pss_nil)
      (pss_cons (ps_set (i := 2) sc_Field_untie.nd rfl (Or.inl rfl) (pe_dpop1 (pe_fld (pv 0) rfl) (pv 1) ⟨rfl, rfl, rfl, rfl⟩))
      (pss_cons (ps_expr (pe_dpop1 (pe_fld (pv 0) rfl) (pv 2) ⟨rfl, rfl, rfl, rfl⟩))
      (pss_one (ps_ret (pv 2)))))))
@[irreducible] def m_law_head (x_arrows : (List (Int × Int))) (x_tail : Int) : Res Unit Int := Res.bind (forM (β := Int) (fun z1 (s10 : Unit) => if (decide (z1.1 = x_tail)) = true then .ok (.ret (z1.2)) else .ok (.next ())) x_arrows ()) fun r28 => (match r28 with | .next s22 => .ok (-(1 : Int)) | .ret y29 => .ok y29)
def sp_law_head (T : Cs) (K : PySem.W.Frag) : Sp := fun vs H Q E => ∃ (A : Hp) (R : List Hp) (v_arrows : V) (x_arrows : (List (Int × Int))) (x_tail : Int), vs = [v_arrows, (.int x_tail)] ∧ St H (A :: R) ∧ Is A v_arrows x_arrows ∧ (m_law_head x_arrows x_tail).wp (fun y => ∀ (A' H' : Hp) , Same A A' → St H' (A' :: R) → Q (.int y) H') (fun _ _ => False)
def rd_law_head (T : Cs) (K : PySem.W.Frag) (E : XK) : TS := (tSeq (tFor (iList K (tVar 0)) (gTup K 2 (gCons (gName 2) (gCons (gName 3) gNil))) (tIfS (tTest (tOp rEq (tVar 2) (tVar 1))) (tRet (tVar 3)) tNext)) (tRet (tUn (rU fun i => .int (-i)) (tC (.int 1)))))
theorem wk_law_head {T : Cs} {K : PySem.W.Frag} {vs : List V} {H : Hp} {Q : VK} {E : XK}  (h : sp_law_head T K vs H Q E) : rd_law_head T K E { nx := fun _ H' => Q .non H', rt := Q } (L2.start ["_law_arrows", "_law_tail", "_law_low", "_law_high"] vs) H := by
  obtain ⟨A, R, v_arrows, x_arrows, x_tail, rfl, S, h_arrows, h⟩ := h
  unfold m_law_head at h
  unfold rd_law_head
  have e0 : Same A A := Same.refl _
  refine q_forL (c_var rfl (?_))
  refine c_forP (A := A) (s0 := ()) (fun (A_ : Hp) (σ_ : L2.St) (R_ : List Hp) (s : Unit) => ∃ (y_low6 : Option V) (y_high6 : Option V), σ_ = [some v_arrows, some (.int x_tail), y_low6, y_high6] ∧ R = R_) S (fun Q' q => q) h_arrows ⟨_, _, rfl, rfl⟩ h (fun z1 w2 w3 A7 H8 σ18 R9 s10 C11 N12 hz13 e14 S15 h4 h5 hR16 hN17 h => ?_) (fun A19 H20 σ26 R21 s22 e23 S24 hR25 h => ?_)
  ·
    have eL27 : Same A A := Same.refl _
    obtain ⟨y_low6, y_high6, rfl, rfl⟩ := hR16
    have e0 := e0.trans e14
    have eL27 := eL27.trans e14
    have h_arrows := up h_arrows e14
    obtain rfl : w2 = (.int z1.1) := h4
    obtain rfl : w3 = (.int z1.2) := h5
    refine s_when ?_
    refine c_tst (c_op (c_var rfl (c_var rfl (c_eqI (c_bl (?_))))))
    refine c_if h (fun hc h => ?_) (fun hc h => ?_)
    ·
      refine s_ret ?_
      refine c_var rfl (?_)
      exact h (A7) (H8) e0 S15 
    ·
      exact hN17 _ _ _ _ () eL27 S15 ⟨_, _, rfl, rfl⟩ h
  ·
    refine nx_mk ?_
    obtain ⟨y_low6, y_high6, rfl, rfl⟩ := hR25
    have e0 := e0.trans e23
    have h_arrows := up h_arrows e23
    refine s_ret ?_
    refine c_un (c_c (c_U (?_)))
    exact h (A19) (H20) e0 S24 
abbrev s_law_head : Stmt := topS 40
theorem sc_law_head : FnScope ["_law_arrows", "_law_tail", "_law_low", "_law_high"] ["_law_arrows", "_law_tail"] (defScope s_law_head) := ⟨rfl, rfl, rfl, by decide +kernel, rfl, by decide +kernel, by decide +kernel⟩
theorem ok_law_head {P : Program} {w : World} {K : PySem.W.Frag} {mg : Str → Option Value} {base : Heap} {T : Cs} {f : Addr} {fd : FuncData}  (F : Fun K "_law_head" "_law_head" s_law_head f fd) (bi : Bi mg)    : FnOk P w K mg base CX0 1 f fd ["_law_arrows", "_law_tail"] (sp_law_head T K) := by
  refine F.ok sc_law_head (fun vs H Q E h => ?_) (fun cdv A outer s H vs Q E hr h => ⟨rd_law_head T K E, ?_, wk_law_head  h⟩)
  · obtain ⟨_, _, _, _, _, rfl, _⟩ := h
    rfl
  · exact (pss_cons (ps_for PassesOwn.never rfl (pi_list (pv 0)) (pg_tup rfl (pgs_cons (pg_name (i := 2) sc_law_head.nd rfl (Or.inl rfl)) (pgs_cons (pg_name (i := 3) sc_law_head.nd rfl (Or.inl rfl)) pgs_nil))) (pss_one (ps_if (pt_cmpR op_eq (pv 2) (pv 1) (nomark _)) (pss_one (ps_ret (pv 3))) pss_nil)))
      (pss_one (ps_ret (pe_un un_neg pe_int))))
@[irreducible] def m_law_next (x_rows_here : (List (Option (Int × (List Int))))) (x_arrows : (List (Int × Int))) (x_tail : Int) : Res Unit (List Int) := Res.bind (Res.noex (m_law_head x_arrows x_tail)) fun y1 => if (decide (y1 < (0 : Int))) = true then .ok ([] : List Int) else Res.bind (Res.noex (m_law_tails x_arrows)) fun y11 => Res.bind (ixR x_rows_here y1) fun t23 => Res.bind (getR t23) fun t26 => Res.bind (compG (β := Int) (fun z30 (s36 : Unit) => Res.bind (andR (!(decide (z30 = x_tail))) (.ok (decide (z30 ∈ y11)))) fun b50 => if b50 = true then .ok (some z30, ()) else .ok (none, ())) t26.2 ()) fun y58 => .ok y58.1
def sp_law_next (T : Cs) (K : PySem.W.Frag) : Sp := fun vs H Q E => ∃ (A : Hp) (R : List Hp) (v_rows_here : V) (x_rows_here : (List (Option (Int × (List Int))))) (v_arrows : V) (x_arrows : (List (Int × Int))) (x_tail : Int), vs = [v_rows_here, v_arrows, (.int x_tail)] ∧ St H (A :: R) ∧ Is A v_rows_here x_rows_here ∧ Is A v_arrows x_arrows ∧ (m_law_next x_rows_here x_arrows x_tail).wp (fun y => ∀ (A' H' : Hp) (p : Addr) (ws : List V), Same A A' → St H' (A' :: one p (.lst ws) :: R) → OL A' ws y → Q (.ref p) H') (fun _ _ => False)
def rd_law_next (T : Cs) (K : PySem.W.Frag) (E : XK) : TS := (tSeq (tAsg (tCall (sp_law_head T K) [] E0 (tCons (tVar 1) (tCons (tVar 2) tNil))) (gName 3)) (tSeq (tIfS (tTest (tOp (rI0 fun i j => .bl (decide (i < j))) (tVar 3) (tC (.int 0)))) (tRet (tLst tNil)) tNext) (tSeq (tAsg (tCall (sp_law_tails T K) [] E0 (tCons (tVar 1) tNil)) (gName 4)) (tRet (tLc (iList K (tOp (rIxT K) (tOp (rIxL K) (tVar 0) (tVar 3)) (tC (.int 1)))) (gName 5) (tAnd (tTest (tOp rNe (tVar 5) (tVar 2))) (tTest (tOp (rIn K false) (tVar 5) (tVar 4)))) (tVar 5) [5])))))
theorem wk_law_next {T : Cs} {K : PySem.W.Frag} {vs : List V} {H : Hp} {Q : VK} {E : XK}  (h : sp_law_next T K vs H Q E) : rd_law_next T K E { nx := fun _ H' => Q .non H', rt := Q } (L2.start ["_law_rows_here", "_law_arrows", "_law_tail", "_law_head_here", "_law_tails_here", "_law_x"] vs) H := by
  obtain ⟨A, R, v_rows_here, x_rows_here, v_arrows, x_arrows, x_tail, rfl, S, h_rows_here, h_arrows, h⟩ := h
  unfold m_law_next at h
  unfold rd_law_next
  have e0 : Same A A := Same.refl _
  refine q_asg ?_
  refine c_call (c_cons (c_var rfl (c_cons (c_var rfl (c_nil (⟨A, (R), v_arrows, x_arrows, x_tail, rfl, S, h_arrows, ?_⟩))))))
  refine Res.wp_mono (Res.wp_noex (Res.wp_bind h)) (fun y1 h A2 H3 e4 S5 => ?_) (fun _ _ h => h.elim)
  have e0 := e0.trans e4
  have h_rows_here := up h_rows_here e4
  have h_arrows := up h_arrows e4
  refine q_when ?_
  refine c_tst (c_op (c_var rfl (c_c (c_I0 (c_bl (?_))))))
  refine c_if h (fun hc h => ?_) (fun hc h => ?_)
  ·
    refine s_ret ?_
    refine c_tlst (c_nil (c_lst (α := Int) (vs := []) (xs := []) (Nat.le_of_ble_eq_true rfl) trivial (ow S5 fun p6 ws7 H8 S9 h10 => ?_)))
    exact h (A2) (H8) (p6) (ws7) e0 S9 h10
  ·
    refine q_asg ?_
    refine c_call (c_cons (c_var rfl (c_nil (⟨A2, (R), v_arrows, x_arrows, rfl, S5, h_arrows, ?_⟩))))
    refine Res.wp_mono (Res.wp_noex (Res.wp_bind h)) (fun y11 h A12 H13 p16 ws17 e14 S15 h18 => ?_) (fun _ _ h => h.elim)
    have e0 := e0.trans e14
    have h_rows_here := up h_rows_here e14
    have h_arrows := up h_arrows e14
    have h20 := frz_is h18 S15
    have S21 := S15.frz
    have e19 := same_join_l (A := A12) (B := (one p16 (.lst ws17)))
    generalize hjA22 : join A12 (one p16 (.lst ws17)) = A22 at h20 S21 e19
    clear hjA22
    have e0 := e0.trans e19
    have h_rows_here := up h_rows_here e19
    have h_arrows := up h_arrows e19
    refine s_ret ?_
    refine c_lcE ?_
    refine c_op (c_op (c_var rfl (c_var rfl (c_ix (la_of S21 h_rows_here) h fun t23 w24 h25 h => ?_))))
    refine c_c (c_ixO1 S21 h25 h fun t26 w27 h28 h => ?_)
    refine c_lcGL (A := A22) (R := R) (tt := (tAnd (tTest (tOp rNe (tVar 5) (tVar 2))) (tTest (tOp (rIn K false) (tVar 5) (tVar 4))))) (te := (tVar 5)) (vs := [5]) (j := 5) (fun (A_ : Hp) (R_ : List Hp) (s : Unit) => R = R_) S21 (fun Q' q => q) h28 rfl h (fun _ => rfl) (fun z30 w31 A33 H34 R35 s36 n37 C38 K1_39 K0_40 hz41 e42 S43 hR44 hK45 hK46 h => ?_) (fun p59 A60 H61 R62 ws63 y58 h e64 S65 hR66 h67 => ?_)
    ·
      obtain ⟨hz41, h47⟩ := hz41
      have eC49 : Same A33 A33 := Same.refl _
      obtain rfl := hR44
      have e0 := e0.trans e42
      have h_rows_here := up h_rows_here e42
      have h_arrows := up h_arrows e42
      have h20 := up h20 e42
      obtain rfl : w31 = (.int z30) := h47
      refine q_test (A := A33) (R := n37 :: R) h (fun Qb52 hk51 h => ?_) (fun b50 A53 H54 e55 S56 h => ?_)
      ·
        have eT57 : Same A33 A33 := Same.refl _
        refine c_and ?_
        refine c_tst (c_op (c_var rfl (c_var rfl (c_neI (c_bl (?_))))))
        refine c_andR h (fun hc h => ?_) (fun hc h => ?_)
        ·
          refine c_tst (c_op (c_var rfl (c_var rfl (c_in (la_of S43 h20) (c_bl (?_))))))
          exact hk51 _ _ _ eT57 S43 h
        ·
          exact hk51 _ _ _ eT57 S43 h
      ·
        have e0 := e0.trans e55
        have eC49 := eC49.trans e55
        have h_rows_here := up h_rows_here e55
        have h_arrows := up h_arrows e55
        have h20 := up h20 e55
        refine c_if h (fun hc h => ?_) (fun hc h => ?_)
        ·
          refine c_var rfl (?_)
          exact hK45 _ _ _ z30 _ () eC49 S56 rfl rfl h
        ·
          exact hK46 _ _ _ () eC49 S56 rfl h
    ·
      obtain rfl := hR66
      have e0 := e0.trans e64
      have h_rows_here := up h_rows_here e64
      have h_arrows := up h_arrows e64
      have h20 := up h20 e64
      exact h (A60) (H61) (p59) (ws63) e0 S65 h67
abbrev s_law_next : Stmt := topS 41
theorem sc_law_next : FnScope ["_law_rows_here", "_law_arrows", "_law_tail", "_law_head_here", "_law_tails_here", "_law_x"] ["_law_rows_here", "_law_arrows", "_law_tail"] (defScope s_law_next) := ⟨rfl, rfl, rfl, by decide +kernel, rfl, by decide +kernel, by decide +kernel⟩
theorem ok_law_next {P : Program} {w : World} {K : PySem.W.Frag} {mg : Str → Option Value} {base : Heap} {T : Cs} {f : Addr} {fd : FuncData} {f_law_head : Addr} {fd_law_head : FuncData} {f_law_tails : Addr} {fd_law_tails : FuncData} (F : Fun K "_law_next" "_law_next" s_law_next f fd) (bi : Bi mg) (G_law_head : Glob P w K mg base CX0 1 "_law_head" ["_law_arrows", "_law_tail"] (sp_law_head T K) f_law_head fd_law_head) (G_law_tails : Glob P w K mg base CX0 1 "_law_tails" ["_law_arrows"] (sp_law_tails T K) f_law_tails fd_law_tails)   : FnOk P w K mg base CX0 2 f fd ["_law_rows_here", "_law_arrows", "_law_tail"] (sp_law_next T K) := by
  refine F.ok sc_law_next (fun vs H Q E h => ?_) (fun cdv A outer s H vs Q E hr h => ⟨rd_law_next T K E, ?_, wk_law_next  h⟩)
  · obtain ⟨_, _, _, _, _, _, _, rfl, _⟩ := h
    rfl
  · exact (pss_cons (ps_set (i := 3) sc_law_next.nd rfl (Or.inl rfl) (pe_call G_law_head.ok (hr.mono (Nat.le_of_ble_eq_true rfl)) (by rfl) G_law_head.g G_law_head.kp G_law_head.b .nil pass0 (pa_cons (pv 1) (pa_cons (pv 2) pa_nil))))
      (pss_cons (ps_if (pt_cmpR op_lt (pv 3) pe_int (nomark _)) (pss_one (ps_ret (pe_lst pa_nil))) pss_nil)
      (pss_cons (ps_set (i := 4) sc_law_next.nd rfl (Or.inr rfl) (pe_call G_law_tails.ok (hr.mono (Nat.le_of_ble_eq_true rfl)) (by rfl) G_law_tails.g G_law_tails.kp G_law_tails.b .nil pass0 (pa_cons (pv 1) pa_nil)))
      (pss_one (ps_ret (pe_lc (own := [("_law_x", 5)]) (g := (gName 5)) (tt := (tAnd (tTest (tOp rNe (tVar 5) (tVar 2))) (tTest (tOp (rIn K false) (tVar 5) (tVar 4))))) (te := (tVar 5)) rfl sc_law_next.nd (pi_list (pe_ix ix_tup (pe_ix ix_list (pv 0) (pv 3) (fun _ _ => rfl)) pe_int (fun _ _ => rfl))) (blkOk_by (own := [("_law_x", 5)]) (N := ["_law_rows_here", "_law_arrows", "_law_tail", "_law_head_here", "_law_tails_here", "_law_x"]) (sc := defScope s_law_next) (by decide +kernel)) (fun _ _ _ _ _ => pg_name (i := 5) sc_law_next.nd rfl (Or.inl rfl)) (fun _ _ _ _ _ => pts_one (PW.pt (pw_and (pt_cmpR op_ne (pv 5) (pv 2) (nomark _)) (pw_and1 (pt_cmpR op_in_seq (pv 5) (pv 4) rfl))))) (fun _ _ _ _ _ => (pv 5))))))))
@[irreducible] def m_law_ringed_s1 (x_arrows : (List (Int × Int))) (x_left : (List Int)) (x_steps : (List (Int × (List Int)))) : Res Unit Bool := Res.bind (Res.bind (rgR (0 : Int) (x_arrows.length : Int)) fun l => forM (β := Bool) (fun z62 (s67 : (List Int)) => Res.bind (compG (β := Int) (fun z88 (s94 : Unit) => Res.bind (agR x_steps z88) fun t108 => Res.bind (Res.noex (m_law_parted t108 s67)) fun y111 => if (!(decide (y111 = ([] : List Int)))) = true then .ok (some z88, ()) else .ok (none, ())) s67 ()) fun y132 => .ok (.next y132.1)) l x_left) fun r154 => (match r154 with | .next s80 => .ok (!(decide (s80 = ([] : List Int)))) | .ret y155 => .ok y155)
@[irreducible] def m_law_ringed (x_rows_here : (List (Option (Int × (List Int))))) (x_arrows : (List (Int × Int))) : Res Unit Bool := Res.bind (Res.noex (m_law_tails x_arrows)) fun y1 => Res.bind (forM (β := Bool) (fun z18 (s23 : (List (Int × (List Int)))) => Res.bind (Res.noex (m_law_next x_rows_here x_arrows z18)) fun y43 => Res.bind (aputR s23 z18 y43) fun l55 => .ok (.next l55)) y1 ([] : (List (Int × (List Int))))) fun r156 => (match r156 with | .next s36 => m_law_ringed_s1 x_arrows y1 s36 | .ret y157 => .ok y157)
def sp_law_ringed (T : Cs) (K : PySem.W.Frag) : Sp := fun vs H Q E => ∃ (A : Hp) (R : List Hp) (v_rows_here : V) (x_rows_here : (List (Option (Int × (List Int))))) (v_arrows : V) (x_arrows : (List (Int × Int))), vs = [v_rows_here, v_arrows] ∧ St H (A :: R) ∧ Is A v_rows_here x_rows_here ∧ Is A v_arrows x_arrows ∧ (m_law_ringed x_rows_here x_arrows).wp (fun y => ∀ (A' H' : Hp) , Same A A' → St H' (A' :: R) → Q (.bl y) H') (fun _ _ => False)
def rd_law_ringed_s1 (T : Cs) (K : PySem.W.Frag) (E : XK) : TS := (tSeq (tFor (iRng1 (tCons (tCB (Evl.rLenS K) (tCons (tVar 1) tNil)) tNil)) (gName 5) (tAsg (tLc (iList K (tVar 2)) (gName 6) (tTest (tOp (rNeD K) (tCall (sp_law_parted T K) [] E0 (tCons (tDGet (tVar 3) (tVar 6)) (tCons (tVar 2) tNil))) (tLst tNil))) (tVar 6) [6]) (gName 2))) (tRet (tOp (rNeD K) (tVar 2) (tLst tNil))))
def rd_law_ringed (T : Cs) (K : PySem.W.Frag) (E : XK) : TS := (tSeq (tAsg (tCall (sp_law_tails T K) [] E0 (tCons (tVar 1) tNil)) (gName 2)) (tSeq (tAsg tDNewK (gName 3)) (tSeq (tFor (iList K (tVar 2)) (gName 4) (sDPut (tVar 3) (tVar 4) (tCall (sp_law_next T K) [] E0 (tCons (tVar 0) (tCons (tVar 1) (tCons (tVar 4) tNil)))))) (rd_law_ringed_s1 T K E))))
theorem wk_law_ringed_s1 {T : Cs} {K : PySem.W.Frag} {A AS HS : Hp} {R : List Hp} {Q : VK} {E : XK} {x_arrows : (List (Int × Int))} {v_arrows : V} {x_left : (List Int)} {v_left : V} {x_steps : (List (Int × (List Int)))} {p_steps : Addr} {ws_steps : List (Key × V)} {o0 : Option V} {o4 : Option V} {o5 : Option V} {o6 : Option V}  (e0 : Same A AS) (S : St HS (AS :: (one p_steps (.dK ws_steps)) :: R)) (h_arrows : Is AS v_arrows x_arrows) (h_left : Is AS v_left x_left) (h_steps : DK AS ws_steps x_steps) (h : (m_law_ringed_s1 x_arrows x_left x_steps).wp (fun y => ∀ (A' H' : Hp) , Same A A' → St H' (A' :: R) → Q (.bl y) H') (fun _ _ => False)) : rd_law_ringed_s1 T K E { nx := fun _ H' => Q .non H', rt := Q } [o0, some v_arrows, some v_left, some (.ref p_steps), o4, o5, o6] HS := by
  unfold m_law_ringed_s1 at h
  unfold rd_law_ringed_s1
  refine q_forR1 ?_
  refine c_cons (c_cb (c_cons (c_var rfl (c_nil (c_len (la_of S h_arrows) (c_nil (?_)))))))
  refine c_forR1 (A := AS) (s0 := x_left) (fun (A_ : Hp) (σ_ : L2.St) (R_ : List Hp) (s : (List Int)) => ∃ (w_left61 : V) (y_k61 : Option V), σ_ = [o0, some v_arrows, some w_left61, some (.ref p_steps), o4, y_k61, o6] ∧ (one p_steps (.dK ws_steps)) :: R = R_ ∧ Is A_ w_left61 (s : (List Int))) S (fun Q' q => q) ⟨v_left, _, rfl, rfl, h_left⟩ h (fun z62 A64 H65 σ76 R66 s67 C68 N69 hz70a hz70b e71 S72 hR74 hN75 h => ?_) (fun A77 H78 σ84 R79 s80 e81 S82 hR83 h => ?_)
  ·
    have eL85 : Same AS AS := Same.refl _
    obtain ⟨w_left61, y_k61, rfl, rfl, h86⟩ := hR74
    have e0 := e0.trans e71
    have eL85 := eL85.trans e71
    have h_arrows := up h_arrows e71
    have h_steps := DK.up h_steps e71
    refine s_asg ?_
    refine c_lcE ?_
    refine c_var rfl (?_)
    refine c_lcGL (A := A64) (R := (one p_steps (.dK ws_steps)) :: R) (tt := (tTest (tOp (rNeD K) (tCall (sp_law_parted T K) [] E0 (tCons (tDGet (tVar 3) (tVar 6)) (tCons (tVar 2) tNil))) (tLst tNil)))) (te := (tVar 6)) (vs := [6]) (j := 6) (fun (A_ : Hp) (R_ : List Hp) (s : Unit) => (one p_steps (.dK ws_steps)) :: R = R_) S72 (fun Q' q => q) h86 rfl h (fun _ => rfl) (fun z88 w89 A91 H92 R93 s94 n95 C96 K1_97 K0_98 hz99 e100 S101 hR102 hK103 hK104 h => ?_) (fun p133 A134 H135 R136 ws137 y132 h e138 S139 hR140 h141 => ?_)
    ·
      obtain ⟨hz99, h105⟩ := hz99
      have eC107 : Same A91 A91 := Same.refl _
      obtain rfl := hR102
      have e0 := e0.trans e100
      have eL85 := eL85.trans e100
      have h_arrows := up h_arrows e100
      have h86 := up h86 e100
      have h_steps := DK.up h_steps e100
      obtain rfl : w89 = (.int z88) := h105
      refine c_tst (c_op (c_call (c_cons (c_dget (c_var rfl (c_var rfl (d_get (S101.mem _ (List.mem_of_getElem? (i := 2) rfl) _ _ one_same) h_steps h fun t108 w109 h110 h => ?_)))))))
      refine c_cons (c_var rfl (c_nil (⟨A91, (n95 :: (one p_steps (.dK ws_steps)) :: R), w109, t108, w_left61, s67, rfl, S101, h110, h86, ?_⟩)))
      refine Res.wp_mono (Res.wp_noex (Res.wp_bind h)) (fun y111 h A112 H113 p116 ws117 e114 S115 h118 => ?_) (fun _ _ h => h.elim)
      have e0 := e0.trans e114
      have eL85 := eL85.trans e114
      have eC107 := eC107.trans e114
      have h_arrows := up h_arrows e114
      have h86 := up h86 e114
      have h_steps := DK.up h_steps e114
      refine c_tlst (c_nil (c_lst (α := Int) (vs := []) (xs := []) (Nat.le_of_ble_eq_true rfl) trivial (ow S115 fun p119 ws120 H121 S122 h123 => ?_)))
      refine c_neD (α := (List Int)) (x := y111) (y := ([] : List Int)) (dp_la S122 ⟨_, _, rfl, (S122.mem _ (List.mem_of_getElem? (i := 2) rfl)) _ _ one_same, h118⟩) (dp_la S122 ⟨_, _, rfl, (S122.mem _ (List.mem_of_getElem? (i := 1) rfl)) _ _ one_same, h123⟩) (Nat.le_of_ble_eq_true rfl) (c_bl (?_))
      refine c_if h (fun hc h => ?_) (fun hc h => ?_)
      ·
        refine c_var rfl (?_)
        have S124 : St H121 (A112 :: (one p_steps (.dK ws_steps)) :: (one p119 (.lst ws120)) :: (one p116 (.lst ws117)) :: n95 :: R) := S122.pick 3 (Nat.le_of_ble_eq_true rfl)
        have S125 : St H121 (A112 :: n95 :: (one p_steps (.dK ws_steps)) :: (one p119 (.lst ws120)) :: (one p116 (.lst ws117)) :: R) := S124.pick 3 (Nat.le_of_ble_eq_true rfl)
        have S126 : St H121 (A112 :: n95 :: (one p_steps (.dK ws_steps)) :: (one p116 (.lst ws117)) :: R) := S125.drop 2 (Nat.le_of_ble_eq_true rfl)
        have S127 : St H121 (A112 :: n95 :: (one p_steps (.dK ws_steps)) :: R) := S126.drop 2 (Nat.le_of_ble_eq_true rfl)
        exact hK103 _ _ _ z88 _ () eC107 S127 rfl rfl h
      ·
        have S128 : St H121 (A112 :: (one p_steps (.dK ws_steps)) :: (one p119 (.lst ws120)) :: (one p116 (.lst ws117)) :: n95 :: R) := S122.pick 3 (Nat.le_of_ble_eq_true rfl)
        have S129 : St H121 (A112 :: n95 :: (one p_steps (.dK ws_steps)) :: (one p119 (.lst ws120)) :: (one p116 (.lst ws117)) :: R) := S128.pick 3 (Nat.le_of_ble_eq_true rfl)
        have S130 : St H121 (A112 :: n95 :: (one p_steps (.dK ws_steps)) :: (one p116 (.lst ws117)) :: R) := S129.drop 2 (Nat.le_of_ble_eq_true rfl)
        have S131 : St H121 (A112 :: n95 :: (one p_steps (.dK ws_steps)) :: R) := S130.drop 2 (Nat.le_of_ble_eq_true rfl)
        exact hK104 _ _ _ () eC107 S131 rfl h
    ·
      obtain rfl := hR140
      have e0 := e0.trans e138
      have eL85 := eL85.trans e138
      have h_arrows := up h_arrows e138
      have h86 := up h86 e138
      have h_steps := DK.up h_steps e138
      have h143 := frz_is h141 S139
      have S144 := S139.frz
      have e142 := same_join_l (A := A134) (B := (one p133 (.lst ws137)))
      generalize hjA145 : join A134 (one p133 (.lst ws137)) = A145 at h143 S144 e142
      clear hjA145
      have e0 := e0.trans e142
      have eL85 := eL85.trans e142
      have h_arrows := up h_arrows e142
      have h86 := up h86 e142
      have h_steps := DK.up h_steps e142
      exact hN75 _ _ _ _ y132.1 eL85 S144 ⟨(.ref p133), _, rfl, rfl, h143⟩ h
  ·
    refine nx_mk ?_
    obtain ⟨w_left61, y_k61, rfl, rfl, h146⟩ := hR83
    have e0 := e0.trans e81
    have h_arrows := up h_arrows e81
    have h_steps := DK.up h_steps e81
    refine s_ret ?_
    refine c_op (c_var rfl (c_tlst (c_nil (c_lst (α := Int) (vs := []) (xs := []) (Nat.le_of_ble_eq_true rfl) trivial (ow S82 fun p147 ws148 H149 S150 h151 => ?_)))))
    refine c_neD (α := (List Int)) (x := s80) (y := ([] : List Int)) (dp_of S150 h146) (dp_la S150 ⟨_, _, rfl, (S150.mem _ (List.mem_of_getElem? (i := 1) rfl)) _ _ one_same, h151⟩) (Nat.le_of_ble_eq_true rfl) (?_)
    have S152 : St H149 (A77 :: (one p_steps (.dK ws_steps)) :: R) := S150.drop 0 (Nat.le_of_ble_eq_true rfl)
    have S153 : St H149 (A77 :: R) := S152.drop 0 (Nat.le_of_ble_eq_true rfl)
    exact h (A77) (H149) e0 S153 
theorem wk_law_ringed {T : Cs} {K : PySem.W.Frag} {vs : List V} {H : Hp} {Q : VK} {E : XK}  (h : sp_law_ringed T K vs H Q E) : rd_law_ringed T K E { nx := fun _ H' => Q .non H', rt := Q } (L2.start ["_law_rows_here", "_law_arrows", "_law_left", "_law_steps", "_law_tail", "_law_k", "_law_x"] vs) H := by
  obtain ⟨A, R, v_rows_here, x_rows_here, v_arrows, x_arrows, rfl, S, h_rows_here, h_arrows, h⟩ := h
  unfold m_law_ringed at h
  unfold rd_law_ringed
  have e0 : Same A A := Same.refl _
  refine q_asg ?_
  refine c_call (c_cons (c_var rfl (c_nil (⟨A, (R), v_arrows, x_arrows, rfl, S, h_arrows, ?_⟩))))
  refine Res.wp_mono (Res.wp_noex (Res.wp_bind h)) (fun y1 h A2 H3 p6 ws7 e4 S5 h8 => ?_) (fun _ _ h => h.elim)
  have e0 := e0.trans e4
  have h_rows_here := up h_rows_here e4
  have h_arrows := up h_arrows e4
  have h10 := frz_is h8 S5
  have S11 := S5.frz
  have e9 := same_join_l (A := A2) (B := (one p6 (.lst ws7)))
  generalize hjA12 : join A2 (one p6 (.lst ws7)) = A12 at h10 S11 e9
  clear hjA12
  have e0 := e0.trans e9
  have h_rows_here := up h_rows_here e9
  have h_arrows := up h_arrows e9
  refine q_asg ?_
  refine c_dnew S11 fun p13 H14 S15 => ?_
  have h16 : DK A12 [] ([] : (List (Int × (List Int)))) := dk_nil
  refine q_forL ?_
  refine c_var rfl (?_)
  refine c_forL (A := A12) (s0 := ([] : (List (Int × (List Int))))) (fun (A_ : Hp) (σ_ : L2.St) (R_ : List Hp) (s : (List (Int × (List Int)))) => ∃ (ws_steps17 : List (Key × V)) (y_tail17 : Option V), σ_ = [some v_rows_here, some v_arrows, some (.ref p6), some (.ref p13), y_tail17, none, none] ∧ (one p13 (.dK ws_steps17)) :: R = R_ ∧ DK A_ ws_steps17 (s : (List (Int × (List Int))))) S15 (fun Q' q => q) h10 ⟨[], _, rfl, rfl, h16⟩ h (fun z18 w19 A20 H21 σ32 R22 s23 C24 N25 hz26 e27 S28 h29 hR30 hN31 h => ?_) (fun A33 H34 σ40 R35 s36 e37 S38 hR39 h => ?_)
  ·
    have eL41 : Same A12 A12 := Same.refl _
    obtain ⟨ws_steps17, y_tail17, rfl, rfl, h42⟩ := hR30
    have e0 := e0.trans e27
    have eL41 := eL41.trans e27
    have h_rows_here := up h_rows_here e27
    have h_arrows := up h_arrows e27
    have h10 := up h10 e27
    obtain rfl : w19 = (.int z18) := h29
    refine s_dput (c_call (c_cons (c_var rfl (c_cons (c_var rfl (c_cons (c_var rfl (c_nil (⟨A20, ((one p13 (.dK ws_steps17)) :: R), v_rows_here, x_rows_here, v_arrows, x_arrows, z18, rfl, S28, h_rows_here, h_arrows, ?_⟩)))))))))
    refine Res.wp_mono (Res.wp_noex (Res.wp_bind h)) (fun y43 h A44 H45 p48 ws49 e46 S47 h50 => ?_) (fun _ _ h => h.elim)
    have e0 := e0.trans e46
    have eL41 := eL41.trans e46
    have h_rows_here := up h_rows_here e46
    have h_arrows := up h_arrows e46
    have h10 := up h10 e46
    have h42 := DK.up h42 e46
    have h52 := frz_is h50 S47
    have S53 := S47.frz
    have e51 := same_join_l (A := A44) (B := (one p48 (.lst ws49)))
    generalize hjA54 : join A44 (one p48 (.lst ws49)) = A54 at h52 S53 e51
    clear hjA54
    have e0 := e0.trans e51
    have eL41 := eL41.trans e51
    have h_rows_here := up h_rows_here e51
    have h_arrows := up h_arrows e51
    have h10 := up h10 e51
    have h42 := DK.up h42 e51
    refine c_var rfl (c_var rfl (d_put (x := y43) (S53.mem _ (List.mem_of_getElem? (i := 1) rfl) _ _ one_same) h42 h52 h fun kv56 l55 h hk57 => ?_))
    have S58 := S53.wr1 (u := .dK kv56)
    generalize L2.upd H45 _ _ = H59 at S58 ⊢
    exact hN31 _ _ _ _ l55 eL41 S58 ⟨kv56, _, rfl, rfl, hk57⟩ h
  ·
    refine nx_mk ?_
    obtain ⟨ws_steps17, y_tail17, rfl, rfl, h60⟩ := hR39
    have e0 := e0.trans e37
    have h_rows_here := up h_rows_here e37
    have h_arrows := up h_arrows e37
    have h10 := up h10 e37
    exact wk_law_ringed_s1 (T := T) (K := K) (E := E)  e0 S38 h_arrows h10 h60 h
abbrev s_law_ringed : Stmt := topS 42
theorem sc_law_ringed : FnScope ["_law_rows_here", "_law_arrows", "_law_left", "_law_steps", "_law_tail", "_law_k", "_law_x"] ["_law_rows_here", "_law_arrows"] (defScope s_law_ringed) := ⟨rfl, rfl, rfl, by decide +kernel, rfl, by decide +kernel, by decide +kernel⟩
theorem ok_law_ringed {P : Program} {w : World} {K : PySem.W.Frag} {mg : Str → Option Value} {base : Heap} {T : Cs} {f : Addr} {fd : FuncData} {f_law_tails : Addr} {fd_law_tails : FuncData} {f_law_next : Addr} {fd_law_next : FuncData} {f_law_parted : Addr} {fd_law_parted : FuncData} (F : Fun K "_law_ringed" "_law_ringed" s_law_ringed f fd) (bi : Bi mg) (G_law_tails : Glob P w K mg base CX0 1 "_law_tails" ["_law_arrows"] (sp_law_tails T K) f_law_tails fd_law_tails) (G_law_next : Glob P w K mg base CX0 2 "_law_next" ["_law_rows_here", "_law_arrows", "_law_tail"] (sp_law_next T K) f_law_next fd_law_next) (G_law_parted : Glob P w K mg base CX0 1 "_law_parted" ["_law_row_here", "_law_keep"] (sp_law_parted T K) f_law_parted fd_law_parted)   : FnOk P w K mg base CX0 3 f fd ["_law_rows_here", "_law_arrows"] (sp_law_ringed T K) := by
  refine F.ok sc_law_ringed (fun vs H Q E h => ?_) (fun cdv A outer s H vs Q E hr h => ⟨rd_law_ringed T K E, ?_, wk_law_ringed  h⟩)
  · obtain ⟨_, _, _, _, _, _, rfl, _⟩ := h
    rfl
  · exact (pss_cons (ps_set (i := 2) sc_law_ringed.nd rfl (Or.inr rfl) (pe_call G_law_tails.ok (hr.mono (Nat.le_of_ble_eq_true rfl)) (by rfl) G_law_tails.g G_law_tails.kp G_law_tails.b .nil pass0 (pa_cons (pv 1) pa_nil)))
      (pss_cons (ps_set (i := 3) sc_law_ringed.nd rfl (Or.inr rfl) pe_dnewK)
      (pss_cons (ps_for PassesOwn.never rfl (pi_list (pv 2)) (pg_name (i := 4) sc_law_ringed.nd rfl (Or.inl rfl)) (pss_one (ps_dput (hu_of hr) (pv 3) (pv 4) (pe_call G_law_next.ok (hr.mono (Nat.le_of_ble_eq_true rfl)) (by rfl) G_law_next.g G_law_next.kp G_law_next.b .nil pass0 (pa_cons (pv 0) (pa_cons (pv 1) (pa_cons (pv 4) pa_nil)))) rfl)))
      (pss_cons (ps_for PassesOwn.never rfl (pi_range1 (by rfl) bi.range (pa_cons (pe_callB call_len_seq (by rfl) bi.len PySem.boot_len (pa_cons (pv 1) pa_nil)) pa_nil)) (pg_name (i := 5) sc_law_ringed.nd rfl (Or.inl rfl)) (pss_one (ps_set (i := 2) sc_law_ringed.nd rfl (Or.inr rfl) (pe_lc (own := [("_law_x", 6)]) (g := (gName 6)) (tt := (tTest (tOp (rNeD K) (tCall (sp_law_parted T K) [] E0 (tCons (tDGet (tVar 3) (tVar 6)) (tCons (tVar 2) tNil))) (tLst tNil)))) (te := (tVar 6)) rfl sc_law_ringed.nd (pi_list (pv 2)) (blkOk_by (own := [("_law_x", 6)]) (N := ["_law_rows_here", "_law_arrows", "_law_left", "_law_steps", "_law_tail", "_law_k", "_law_x"]) (sc := defScope s_law_ringed) (by decide +kernel)) (fun _ _ _ _ _ => pg_name (i := 6) sc_law_ringed.nd rfl (Or.inl rfl)) (fun _ _ _ _ _ => pts_one (pt_cmpR (op_neD hr.units) (pe_call G_law_parted.ok (hr.mono (Nat.le_of_ble_eq_true rfl)) (by rfl) G_law_parted.g G_law_parted.kp G_law_parted.b .nil pass0 (pa_cons (pe_dget (hu_of hr) (pv 3) (pv 6) (fun _ _ => rfl)) (pa_cons (pv 2) pa_nil))) (pe_lst pa_nil) (nomark _))) (fun _ _ _ _ _ => (pv 6))))))
      (pss_one (ps_ret (pe_cmpR (op_neD hr.units) (pv 2) (pe_lst pa_nil) (nomark _))))))))
@[irreducible] def m_led (x_came : (List (Int × Int))) (x_low : Int) (x_here : Int) : Res Unit (List Int) := Res.bind (whileM (β := (List Int)) (fun (s10 : (List Int)) => Res.bind (ixR s10 (-(1 : Int))) fun t39 => Res.bind (agR x_came t39) fun t40 => .ok (!(decide (t40 = x_low)))) (fun (s21 : (List Int)) => Res.bind (ixR s21 (-(1 : Int))) fun t43 => Res.bind (agR x_came t43) fun t44 => Res.bind (appR s21 t44) fun t45 => .ok (.next t45)) fuel [x_here]) fun r64 => (match r64 with | .next s32 => Res.bind (appR s32 x_low) fun t51 => .ok (t51.reverse) | .ret y65 => .ok y65)
def sp_led (T : Cs) (K : PySem.W.Frag) : Sp := fun vs H Q E => ∃ (A : Hp) (R : List Hp) (p_came : Addr) (ws_came : List (Key × V)) (x_came : (List (Int × Int))) (x_low : Int) (x_here : Int), vs = [.ref p_came, (.int x_low), (.int x_here)] ∧ St H (A :: (one p_came (.dK ws_came)) :: R) ∧ DK A ws_came x_came ∧ (m_led x_came x_low x_here).wp (fun y => ∀ (A' H' : Hp) (p : Addr) (ws : List V), Same A A' → St H' (A' :: one p (.lst ws) :: (one p_came (.dK ws_came)) :: R) → OL A' ws y → Q (.ref p) H') (fun _ _ => False)
def rd_led (T : Cs) (K : PySem.W.Frag) (E : XK) : TS := (tSeq (tAsg (tLst (tCons (tVar 2) tNil)) (gName 3)) (tSeq (tWhile (tTest (tOp rNe (tDGet (tVar 0) (tOp (rIxL K) (tVar 3) (tUn (rU fun i => .int (-i)) (tC (.int 1))))) (tVar 1))) (tDrop (tBM K "list" rAppend (tVar 3) (tCons (tDGet (tVar 0) (tOp (rIxL K) (tVar 3) (tUn (rU fun i => .int (-i)) (tC (.int 1))))) tNil)))) (tSeq (tDrop (tBM K "list" rAppend (tVar 3) (tCons (tVar 1) tNil))) (tRet (tRevL K (tVar 3))))))
theorem wk_led {T : Cs} {K : PySem.W.Frag} {vs : List V} {H : Hp} {Q : VK} {E : XK}  (h : sp_led T K vs H Q E) : rd_led T K E { nx := fun _ H' => Q .non H', rt := Q } (L2.start ["came", "low", "here", "row"] vs) H := by
  obtain ⟨A, R, p_came, ws_came, x_came, x_low, x_here, rfl, S, h_came, h⟩ := h
  unfold m_led at h
  unfold rd_led
  have e0 : Same A A := Same.refl _
  refine q_asg ?_
  refine c_tlst (c_cons (c_var rfl (c_nil (c_lst (α := Int) (vs := [(.int x_here)]) (xs := [x_here]) (Nat.le_of_ble_eq_true rfl) ⟨rfl, trivial⟩ (ow S fun p1 ws2 H3 S4 h5 => ?_)))))
  refine q_while ?_
  refine c_while (A := A) (s0 := [x_here]) (fun (A_ : Hp) (σ_ : L2.St) (R_ : List Hp) (s : (List Int)) => ∃ (ws_row6 : List V), σ_ = [some (.ref p_came), some (.int x_low), some (.int x_here), some (.ref p1)] ∧ (one p1 (.lst ws_row6)) :: (one p_came (.dK ws_came)) :: R = R_ ∧ OL A_ ws_row6 (s : (List Int))) S4 ⟨ws2, rfl, rfl, h5⟩ h (fun A7 H8 σ17 R9 s10 C11 P12 e13 S14 hR15 hP16 h => ?_) (fun A18 H19 σ28 R20 s21 C22 N23 e24 S25 hR26 hN27 h => ?_) (fun A29 H30 σ36 R31 s32 e33 S34 hR35 h => ?_)
  ·
    have eL37 : Same A A := Same.refl _
    obtain ⟨ws_row6, rfl, rfl, h38⟩ := hR15
    have e0 := e0.trans e13
    have eL37 := eL37.trans e13
    have h_came := DK.up h_came e13
    refine c_tst (c_op (c_dget (c_var rfl (c_op (c_var rfl (c_un (c_c (c_U (c_ixI ⟨_, _, rfl, (S14.mem _ (List.mem_of_getElem? (i := 1) rfl)) _ _ one_same, h38⟩ h fun t39 h => ?_)))))))))
    refine d_getI (S14.mem _ (List.mem_of_getElem? (i := 2) rfl) _ _ one_same) h_came h fun t40 h => ?_
    refine c_var rfl (c_neI (c_bl (?_)))
    exact hP16 _ _ _ _ eL37 S14 ⟨ws_row6, rfl, rfl, h38⟩ h
  ·
    have eL41 : Same A A := Same.refl _
    obtain ⟨ws_row6, rfl, rfl, h42⟩ := hR26
    have e0 := e0.trans e24
    have eL41 := eL41.trans e24
    have h_came := DK.up h_came e24
    refine s_drop (c_bm (c_var rfl (c_and2 (.inl ⟨rfl, _, SqL.of ((S25.mem _ (List.mem_of_getElem? (i := 1) rfl)) _ _ one_same)⟩) (c_cons (c_dget (c_var rfl (c_op (c_var rfl (c_un (c_c (c_U (c_ixI ⟨_, _, rfl, (S25.mem _ (List.mem_of_getElem? (i := 1) rfl)) _ _ one_same, h42⟩ h fun t43 h => ?_))))))))))))
    refine d_getI (S25.mem _ (List.mem_of_getElem? (i := 2) rfl) _ _ one_same) h_came h fun t44 h => ?_
    refine c_nil (?_)
    refine c_app (x := t44) S25 h42 rfl h fun t45 ws49 h H48 S47 h46 => ?_
    exact hN27 _ _ _ _ t45 eL41 S47 ⟨ws49, rfl, rfl, h46⟩ h
  ·
    refine nx_mk ?_
    obtain ⟨ws_row6, rfl, rfl, h50⟩ := hR35
    have e0 := e0.trans e33
    have h_came := DK.up h_came e33
    refine q_drop (c_bm (c_var rfl (c_and2 (.inl ⟨rfl, _, SqL.of ((S34.mem _ (List.mem_of_getElem? (i := 1) rfl)) _ _ one_same)⟩) (c_cons (c_var rfl (c_nil (?_)))))))
    refine c_app (x := x_low) S34 h50 rfl h fun t51 ws55 h H54 S53 h52 => ?_
    refine s_ret ?_
    refine c_trevL (c_var rfl (c_revL ⟨_, _, rfl, (S53.mem _ (List.mem_of_getElem? (i := 1) rfl)) _ _ one_same, h52⟩ (ow S53 fun p56 ws57 H58 S59 h60 => ?_)))
    have S61 : St H58 (A29 :: (one p_came (.dK ws_came)) :: (one p56 (.lst ws57)) :: (one p1 (.lst ws55)) :: R) := S59.pick 2 (Nat.le_of_ble_eq_true rfl)
    have S62 : St H58 (A29 :: (one p56 (.lst ws57)) :: (one p_came (.dK ws_came)) :: (one p1 (.lst ws55)) :: R) := S61.pick 1 (Nat.le_of_ble_eq_true rfl)
    have S63 : St H58 (A29 :: (one p56 (.lst ws57)) :: (one p_came (.dK ws_came)) :: R) := S62.drop 2 (Nat.le_of_ble_eq_true rfl)
    exact h (A29) (H58) (p56) (ws57) e0 S63 h60
abbrev s_led : Stmt := topS 24
theorem sc_led : FnScope ["came", "low", "here", "row"] ["came", "low", "here"] (defScope s_led) := ⟨rfl, rfl, rfl, by decide +kernel, rfl, by decide +kernel, by decide +kernel⟩
theorem ok_led {P : Program} {w : World} {K : PySem.W.Frag} {mg : Str → Option Value} {base : Heap} {T : Cs} {f : Addr} {fd : FuncData}  (F : Fun K "led" "led" s_led f fd) (bi : Bi mg)    : FnOk P w K mg base CX0 1 f fd ["came", "low", "here"] (sp_led T K) := by
  refine F.ok sc_led (fun vs H Q E h => ?_) (fun cdv A outer s H vs Q E hr h => ⟨rd_led T K E, ?_, wk_led  h⟩)
  · obtain ⟨_, _, _, _, _, _, _, rfl, _⟩ := h
    rfl
  · exact (pss_cons (ps_set (i := 3) sc_led.nd rfl (Or.inl rfl) (pe_lst (pa_cons (pv 2) pa_nil)))
      (pss_cons (ps_while PassesOwn.never (pt_cmpR op_ne (pe_dget (hu_of hr) (pv 0) (pe_ix ix_list (pv 3) (pe_un un_neg pe_int) (fun _ _ => rfl)) (fun _ _ => rfl)) (pv 1) (nomark _)) (pss_one (ps_expr (pe_bm PySem.F.plainAttrs_list PySem.F.slot_list_append PySem.F.type_list_append mt_append (pv 3) (pa_cons (pe_dget (hu_of hr) (pv 0) (pe_ix ix_list (pv 3) (pe_un un_neg pe_int) (fun _ _ => rfl)) (fun _ _ => rfl)) pa_nil)))))
      (pss_cons (ps_expr (pe_bm PySem.F.plainAttrs_list PySem.F.slot_list_append PySem.F.type_list_append mt_append (pv 3) (pa_cons (pv 1) pa_nil)))
      (pss_one (ps_ret (pe_revL (pv 3)))))))
@[irreducible] def m_Field_steps (x_self : (FS true)) (x_tail : Int) : Res Unit (List Int) := Res.bind (agR x_self.ahead x_tail) fun t11 => Res.bind (agR x_self.edges t11) fun t12 => Res.bind (compG (β := Int) (fun z16 (s22 : Unit) => Res.bind (andR (!(decide (z16 = x_tail))) (.ok (agt x_self.ahead z16).isSome)) fun b36 => if b36 = true then .ok (some z16, ()) else .ok (none, ())) t12 ()) fun y51 => .ok y51.1
def sp_Field_steps (T : Cs) (K : PySem.W.Frag) : Sp := fun vs H Q E => ∃ (A : Hp) (R : List Hp) (m_self : Hp) (v_self : V) (x_self : (FS true)) (x_tail : Int), vs = [v_self, (.int x_tail)] ∧ St H (A :: m_self :: R) ∧ Ob.isAt T A m_self v_self x_self ∧ (m_Field_steps x_self x_tail).wp (fun y => ∀ (A' H' : Hp) (p : Addr) (ws : List V), Same A A' → St H' (A' :: one p (.lst ws) :: m_self :: R) → OL A' ws y → Q (.ref p) H') (fun _ _ => False)
def rd_Field_steps (T : Cs) (K : PySem.W.Frag) (E : XK) : TS := (tSeq (tAsg (tDGet (tFld K (tVar 0) "edges") (tDGet (tFld K (tVar 0) "ahead") (tVar 1))) (gName 2)) (tRet (tLc (iList K (tVar 2)) (gName 3) (tAnd (tTest (tOp rNe (tVar 3) (tVar 1))) (tB (tDIn (tVar 3) (tFld K (tVar 0) "ahead")))) (tVar 3) [3])))
theorem wk_Field_steps {T : Cs} {K : PySem.W.Frag} {vs : List V} {H : Hp} {Q : VK} {E : XK} (kl_true : Kl K (T.cls true) true) (h : sp_Field_steps T K vs H Q E) : rd_Field_steps T K E { nx := fun _ H' => Q .non H', rt := Q } (L2.start ["self", "tail", "row", "x"] vs) H := by
  obtain ⟨A, R, m_self, v_self, x_self, x_tail, rfl, S, h_self, h⟩ := h
  unfold m_Field_steps at h
  unfold rd_Field_steps
  have e0 : Same A A := Same.refl _
  refine q_asg ?_
  refine c_dget (c_fld (c_var rfl (f_edges kl_true S h_self fun d1 kv2 hd3 hk4 cap5 => ?_)))
  refine c_dget (c_fld (c_var rfl (f_ahead kl_true S h_self fun d6 kv7 hd8 hk9 cap10 => ?_)))
  refine c_var rfl (d_getI hd8 hk9 h fun t11 h => ?_)
  refine d_get hd3 hk4 h fun t12 w13 h14 h => ?_
  refine s_ret ?_
  refine c_lcE ?_
  refine c_var rfl (?_)
  refine c_lcGL (A := A) (R := m_self :: R) (tt := (tAnd (tTest (tOp rNe (tVar 3) (tVar 1))) (tB (tDIn (tVar 3) (tFld K (tVar 0) "ahead"))))) (te := (tVar 3)) (vs := [3]) (j := 3) (fun (A_ : Hp) (R_ : List Hp) (s : Unit) => m_self :: R = R_) S (fun Q' q => q) h14 rfl h (fun _ => rfl) (fun z16 w17 A19 H20 R21 s22 n23 C24 K1_25 K0_26 hz27 e28 S29 hR30 hK31 hK32 h => ?_) (fun p52 A53 H54 R55 ws56 y51 h e57 S58 hR59 h60 => ?_)
  ·
    obtain ⟨hz27, h33⟩ := hz27
    have eC35 : Same A19 A19 := Same.refl _
    obtain rfl := hR30
    have e0 := e0.trans e28
    have h_self := upO h_self e28
    have h14 := up h14 e28
    obtain rfl : w17 = (.int z16) := h33
    refine q_test (A := A19) (R := n23 :: m_self :: R) h (fun Qb38 hk37 h => ?_) (fun b36 A39 H40 e41 S42 h => ?_)
    ·
      have eT43 : Same A19 A19 := Same.refl _
      refine c_and ?_
      refine c_tst (c_op (c_var rfl (c_var rfl (c_neI (c_bl (?_))))))
      refine c_andR h (fun hc h => ?_) (fun hc h => ?_)
      ·
        have S44 : St H20 (A19 :: m_self :: n23 :: R) := S29.pick 1 (Nat.le_of_ble_eq_true rfl)
        refine c_tb (c_din (c_var rfl (c_fld (c_var rfl (f_ahead kl_true S44 h_self fun d45 kv46 hd47 hk48 cap49 => ?_)))))
        refine d_in hd47 hk48 (c_bl (?_))
        have S50 : St H20 (A19 :: n23 :: m_self :: R) := S44.pick 1 (Nat.le_of_ble_eq_true rfl)
        exact hk37 _ _ _ eT43 S50 h
      ·
        exact hk37 _ _ _ eT43 S29 h
    ·
      have e0 := e0.trans e41
      have eC35 := eC35.trans e41
      have h_self := upO h_self e41
      have h14 := up h14 e41
      refine c_if h (fun hc h => ?_) (fun hc h => ?_)
      ·
        refine c_var rfl (?_)
        exact hK31 _ _ _ z16 _ () eC35 S42 rfl rfl h
      ·
        exact hK32 _ _ _ () eC35 S42 rfl h
  ·
    obtain rfl := hR59
    have e0 := e0.trans e57
    have h_self := upO h_self e57
    have h14 := up h14 e57
    exact h (A53) (H54) (p52) (ws56) e0 S58 h60
abbrev s_Field_steps : Stmt := inClass (topS 23) 10
theorem sc_Field_steps : FnScope ["self", "tail", "row", "x"] ["self", "tail"] (defScope s_Field_steps) := ⟨rfl, rfl, rfl, by decide +kernel, rfl, by decide +kernel, by decide +kernel⟩
theorem ok_Field_steps {P : Program} {w : World} {K : PySem.W.Frag} {mg : Str → Option Value} {base : Heap} {T : Cs} {f : Addr} {fd : FuncData}  (F : Fun K "steps" "Field.steps" s_Field_steps f fd) (bi : Bi mg)   (kl_true : Kl K (T.cls true) true) : FnOk P w K mg base CX0 1 f fd ["self", "tail"] (sp_Field_steps T K) := by
  refine F.ok sc_Field_steps (fun vs H Q E h => ?_) (fun cdv A outer s H vs Q E hr h => ⟨rd_Field_steps T K E, ?_, wk_Field_steps kl_true h⟩)
  · obtain ⟨_, _, _, _, _, _, rfl, _⟩ := h
    rfl
  · exact (pss_cons (ps_set (i := 2) sc_Field_steps.nd rfl (Or.inl rfl) (pe_dget (hu_of hr) (pe_fld (pv 0) rfl) (pe_dget (hu_of hr) (pe_fld (pv 0) rfl) (pv 1) (fun _ _ => rfl)) (fun _ _ => rfl)))
      (pss_one (ps_ret (pe_lc (own := [("x", 3)]) (g := (gName 3)) (tt := (tAnd (tTest (tOp rNe (tVar 3) (tVar 1))) (tB (tDIn (tVar 3) (tFld K (tVar 0) "ahead"))))) (te := (tVar 3)) rfl sc_Field_steps.nd (pi_list (pv 2)) (blkOk_by (own := [("x", 3)]) (N := ["self", "tail", "row", "x"]) (sc := defScope s_Field_steps) (by decide +kernel)) (fun _ _ _ _ _ => pg_name (i := 3) sc_Field_steps.nd rfl (Or.inl rfl)) (fun _ _ _ _ _ => pts_one (PW.pt (pw_and (pt_cmpR op_ne (pv 3) (pv 1) (nomark _)) (pw_and1 (pt_cmp (pc_din (hu_of hr) (pv 3) (pe_fld (pv 0) rfl)) rfl))))) (fun _ _ _ _ _ => (pv 3))))))
@[irreducible] def m_Field_ring_with_s2 (x_self : (FS true)) : Res Unit (Option (List Int)) := .ok (none : (Option (List Int)))
@[irreducible] def m_Field_ring_with_s1 (x_self : (FS true)) (x_low : Int) (x_row : (List Int)) (x_came : (List (Int × Int))) : Res Unit (Option (List Int)) := Res.bind (forM (β := (Option (List Int))) (fun z59 (s66 : (List (Int × Int))) => Res.bind (aputR s66 z59 x_low) fun l85 => .ok (.next l85)) x_row x_came) fun r226 => (match r226 with | .next s78 => Res.bind (whileM (β := (Option (List Int))) (fun (s95 : Int × (List (Int × Int)) × (List Int)) => .ok (decide (s95.1 < (s95.2.2.length : Int)))) (fun (s106 : Int × (List (Int × Int)) × (List Int)) => Res.bind (ixR s106.2.2 s106.1) fun t128 => Res.bind (agR x_self.ahead t128) fun t140 => Res.bind (agR x_self.edges t140) fun t141 => if (decide (x_low ∈ t141)) = true then Res.bind (Res.noex (m_led s106.2.1 x_low t128)) fun y145 => .ok (.ret ((some y145))) else Res.bind (Res.noex (m_Field_steps x_self t128)) fun y158 => Res.bind (forM (β := (Option (List Int))) (fun z171 (s176 : (List (Int × Int)) × (List Int)) => if (!(agt s176.1 z171).isSome) = true then Res.bind (aputR s176.1 z171 t128) fun l197 => Res.bind (appR s176.2 z171) fun t204 => .ok (.next (l197, t204)) else .ok (.next (s176.1, s176.2))) y158 (s106.2.1, s106.2.2)) fun r215 => (match r215 with | .next s189 => .ok (.next ((s106.1 + (1 : Int)), s189.1, s189.2)) | .ret y216 => .ok (.ret y216))) fuel ((0 : Int), s78, x_row)) fun r224 => (match r224 with | .next s117 => m_Field_ring_with_s2 x_self | .ret y225 => .ok y225) | .ret y227 => .ok y227)
@[irreducible] def m_Field_ring_with (x_self : (FS true)) (x_low : Int) (x_high : Int) : Res Unit (Option (List Int)) := Res.bind (agR x_self.edges x_high) fun t6 => Res.bind (compG (β := Int) (fun z10 (s16 : Unit) => Res.bind (andR (!(decide (z10 = x_low))) (.ok (agt x_self.ahead z10).isSome)) fun b30 => if b30 = true then .ok (some z10, ()) else .ok (none, ())) t6 ()) fun y45 => m_Field_ring_with_s1 x_self x_low y45.1 ([] : (List (Int × Int)))
def sp_Field_ring_with (T : Cs) (K : PySem.W.Frag) : Sp := fun vs H Q E => ∃ (A : Hp) (R : List Hp) (m_self : Hp) (v_self : V) (x_self : (FS true)) (x_low : Int) (x_high : Int), vs = [v_self, (.int x_low), (.int x_high)] ∧ St H (A :: m_self :: R) ∧ Ob.isAt T A m_self v_self x_self ∧ (m_Field_ring_with x_self x_low x_high).wp (fun y => ∀ (A' H' : Hp) (v : V) (m : Hp), Same A A' → St H' (A' :: m :: m_self :: R) → Ob.isAt T A' m v y → Q v H') (fun _ _ => False)
def rd_Field_ring_with_s2 (T : Cs) (K : PySem.W.Frag) (E : XK) : TS := (tRet (tC .non))
def rd_Field_ring_with_s1 (T : Cs) (K : PySem.W.Frag) (E : XK) : TS := (tSeq (tFor (iList K (tVar 3)) (gName 5) (sDPut (tVar 4) (tVar 5) (tVar 1))) (tSeq (tAsg (tC (.int 0)) (gName 6)) (tSeq (tWhile (tTest (tOp (rI0 fun i j => .bl (decide (i < j))) (tVar 6) (tCB (Evl.rLenS K) (tCons (tVar 3) tNil)))) (tSeq (tAsg (tOp (rIxL K) (tVar 3) (tVar 6)) (gName 7)) (tSeq (tIfS (tTest (tOp (rIn K false) (tVar 1) (tDGet (tFld K (tVar 0) "edges") (tDGet (tFld K (tVar 0) "ahead") (tVar 7))))) (tRet (tCall (sp_led T K) [] E0 (tCons (tVar 4) (tCons (tVar 1) (tCons (tVar 7) tNil))))) tNext) (tSeq (tFor (iList K (tMeth (T.cls true) "steps" (sp_Field_steps T K) [] E0 (tVar 0) (tCons (tVar 7) tNil))) (gName 8) (tIfS (tB (tDNotIn (tVar 8) (tVar 4))) (tSeq (sDPut (tVar 4) (tVar 8) (tVar 7)) (tDrop (tBM K "list" rAppend (tVar 3) (tCons (tVar 8) tNil)))) tNext)) (tAug 6 (tC (.int 1)) (ipI fun i j => i + j)))))) (rd_Field_ring_with_s2 T K E))))
def rd_Field_ring_with (T : Cs) (K : PySem.W.Frag) (E : XK) : TS := (tSeq (tAsg (tLc (iList K (tDGet (tFld K (tVar 0) "edges") (tVar 2))) (gName 9) (tAnd (tTest (tOp rNe (tVar 9) (tVar 1))) (tB (tDIn (tVar 9) (tFld K (tVar 0) "ahead")))) (tVar 9) [9]) (gName 3)) (tSeq (tAsg tDNewK (gName 4)) (rd_Field_ring_with_s1 T K E)))
theorem wk_Field_ring_with_s2 {T : Cs} {K : PySem.W.Frag} {A AS HS : Hp} {R : List Hp} {Q : VK} {E : XK} {x_self : (FS true)} {m_self : Hp} {v_self : V} {o1 : Option V} {o2 : Option V} {o3 : Option V} {o4 : Option V} {o5 : Option V} {o6 : Option V} {o7 : Option V} {o8 : Option V} {o9 : Option V}  (e0 : Same A AS) (S : St HS (AS :: m_self :: R)) (h_self : Ob.isAt T AS m_self v_self x_self) (h : (m_Field_ring_with_s2 x_self).wp (fun y => ∀ (A' H' : Hp) (v : V) (m : Hp), Same A A' → St H' (A' :: m :: m_self :: R) → Ob.isAt T A' m v y → Q v H') (fun _ _ => False)) : rd_Field_ring_with_s2 T K E { nx := fun _ H' => Q .non H', rt := Q } [some v_self, o1, o2, o3, o4, o5, o6, o7, o8, o9] HS := by
  unfold m_Field_ring_with_s2 at h
  unfold rd_Field_ring_with_s2
  refine s_ret ?_
  refine c_c (?_)
  have h222 : Ob.isAt T AS emp .non (none : (Option (List Int))) := oo_none
  have S223 := S.emp
  exact h (AS) (HS) (.non) (emp) e0 S223 h222
theorem wk_Field_ring_with_s1 {T : Cs} {K : PySem.W.Frag} {A AS HS : Hp} {R : List Hp} {Q : VK} {E : XK} {x_self : (FS true)} {m_self : Hp} {v_self : V} {x_low : Int} {x_row : (List Int)} {p_row : Addr} {ws_row : List V} {x_came : (List (Int × Int))} {p_came : Addr} {ws_came : List (Key × V)} {o2 : Option V} {o5 : Option V} {o6 : Option V} {o7 : Option V} {o8 : Option V} {o9 : Option V} (kl_true : Kl K (T.cls true) true) (e0 : Same A AS) (S : St HS (AS :: (one p_came (.dK ws_came)) :: (one p_row (.lst ws_row)) :: m_self :: R)) (h_self : Ob.isAt T AS m_self v_self x_self) (h_row : OL AS ws_row x_row) (h_came : DK AS ws_came x_came) (h : (m_Field_ring_with_s1 x_self x_low x_row x_came).wp (fun y => ∀ (A' H' : Hp) (v : V) (m : Hp), Same A A' → St H' (A' :: m :: m_self :: R) → Ob.isAt T A' m v y → Q v H') (fun _ _ => False)) : rd_Field_ring_with_s1 T K E { nx := fun _ H' => Q .non H', rt := Q } [some v_self, some (.int x_low), o2, some (.ref p_row), some (.ref p_came), o5, o6, o7, o8, o9] HS := by
  unfold m_Field_ring_with_s1 at h
  unfold rd_Field_ring_with_s1
  refine q_forL ?_
  refine c_var rfl (?_)
  refine c_forX (A := AS) (s0 := x_came) (fun (A_ : Hp) (σ_ : L2.St) (R_ : List Hp) (s : (List (Int × Int))) => ∃ (ws_came62 : List (Key × V)) (y_tail62 : Option V), σ_ = [some v_self, some (.int x_low), o2, some (.ref p_row), some (.ref p_came), y_tail62, o6, o7, o8, o9] ∧ (one p_came (.dK ws_came62)) :: (one p_row (.lst ws_row)) :: m_self :: R = R_ ∧ DK A_ ws_came62 (s : (List (Int × Int)))) S (fun Q' q => q) h_row (fun A' σ' R' s e hR => by obtain ⟨_, _, _, rfl, _⟩ := hR; exact ⟨_, List.mem_of_getElem? (i := 1) rfl, one_same⟩) ⟨ws_came, _, rfl, rfl, h_came⟩ h (fun z59 w60 A63 H64 σ74 R65 s66 C67 N68 hz69 e70 S71 h61 hR72 hN73 h => ?_) (fun A75 H76 σ82 R77 s78 e79 S80 hR81 h => ?_)
  ·
    have eL83 : Same AS AS := Same.refl _
    obtain ⟨ws_came62, y_tail62, rfl, rfl, h84⟩ := hR72
    have e0 := e0.trans e70
    have eL83 := eL83.trans e70
    have h_self := upO h_self e70
    have h_row := OL.up h_row e70
    obtain rfl : w60 = (.int z59) := h61
    refine s_dput (c_var rfl (c_var rfl (c_var rfl (d_put (x := x_low) (S71.mem _ (List.mem_of_getElem? (i := 1) rfl) _ _ one_same) h84 rfl h fun kv86 l85 h hk87 => ?_))))
    have S88 := S71.wr1 (u := .dK kv86)
    generalize L2.upd H64 _ _ = H89 at S88 ⊢
    exact hN73 _ _ _ _ l85 eL83 S88 ⟨kv86, _, rfl, rfl, hk87⟩ h
  ·
    refine nx_mk ?_
    obtain ⟨ws_came62, y_tail62, rfl, rfl, h90⟩ := hR81
    have e0 := e0.trans e79
    have h_self := upO h_self e79
    have h_row := OL.up h_row e79
    refine q_asg ?_
    refine c_c (?_)
    refine q_while ?_
    refine c_while (A := A75) (s0 := ((0 : Int), s78, x_row)) (fun (A_ : Hp) (σ_ : L2.St) (R_ : List Hp) (s : Int × (List (Int × Int)) × (List Int)) => ∃ (ws_came91 : List (Key × V)) (ws_row91 : List V) (y_here91 : Option V) (y_there91 : Option V), σ_ = [some v_self, some (.int x_low), o2, some (.ref p_row), some (.ref p_came), y_tail62, some (.int s.1), y_here91, y_there91, o9] ∧ (one p_came (.dK ws_came91)) :: (one p_row (.lst ws_row91)) :: m_self :: R = R_ ∧ DK A_ ws_came91 (s.2.1 : (List (Int × Int))) ∧ OL A_ ws_row91 (s.2.2 : (List Int))) S80 ⟨ws_came62, ws_row, _, _, rfl, rfl, h90, h_row⟩ h (fun A92 H93 σ102 R94 s95 C96 P97 e98 S99 hR100 hP101 h => ?_) (fun A103 H104 σ113 R105 s106 C107 N108 e109 S110 hR111 hN112 h => ?_) (fun A114 H115 σ121 R116 s117 e118 S119 hR120 h => ?_)
    ·
      have eL122 : Same A75 A75 := Same.refl _
      obtain ⟨ws_came91, ws_row91, y_here91, y_there91, rfl, rfl, h123, h124⟩ := hR100
      have e0 := e0.trans e98
      have eL122 := eL122.trans e98
      have h_self := upO h_self e98
      refine c_tst (c_op (c_var rfl (c_cb (c_cons (c_var rfl (c_nil (c_len ⟨_, _, rfl, (S99.mem _ (List.mem_of_getElem? (i := 2) rfl)) _ _ one_same, h124⟩ (c_I0 (c_bl (?_))))))))))
      exact hP101 _ _ _ _ eL122 S99 ⟨ws_came91, ws_row91, _, _, rfl, rfl, h123, h124⟩ h
    ·
      have eL125 : Same A75 A75 := Same.refl _
      obtain ⟨ws_came91, ws_row91, y_here91, y_there91, rfl, rfl, h126, h127⟩ := hR111
      have e0 := e0.trans e109
      have eL125 := eL125.trans e109
      have h_self := upO h_self e109
      refine q_asg ?_
      refine c_op (c_var rfl (c_var rfl (c_ixI ⟨_, _, rfl, (S110.mem _ (List.mem_of_getElem? (i := 2) rfl)) _ _ one_same, h127⟩ h fun t128 h => ?_)))
      refine q_when ?_
      have S129 : St H104 (A103 :: m_self :: (one p_came (.dK ws_came91)) :: (one p_row (.lst ws_row91)) :: R) := S110.pick 2 (Nat.le_of_ble_eq_true rfl)
      refine c_tst (c_op (c_var rfl (c_dget (c_fld (c_var rfl (f_edges kl_true S129 h_self fun d130 kv131 hd132 hk133 cap134 => ?_))))))
      refine c_dget (c_fld (c_var rfl (f_ahead kl_true S129 h_self fun d135 kv136 hd137 hk138 cap139 => ?_)))
      refine c_var rfl (d_getI hd137 hk138 h fun t140 h => ?_)
      refine d_get hd132 hk133 h fun t141 w142 h143 h => ?_
      refine c_in (la_of S129 h143) (c_bl (?_))
      refine c_if h (fun hc h => ?_) (fun hc h => ?_)
      ·
        refine s_ret ?_
        have S144 : St H104 (A103 :: (one p_came (.dK ws_came91)) :: m_self :: (one p_row (.lst ws_row91)) :: R) := S129.pick 1 (Nat.le_of_ble_eq_true rfl)
        refine c_call (c_cons (c_var rfl (c_cons (c_var rfl (c_cons (c_var rfl (c_nil (⟨A103, (m_self :: (one p_row (.lst ws_row91)) :: R), p_came, ws_came91, s106.2.1, x_low, t128, rfl, S144, h126, ?_⟩))))))))
        refine Res.wp_mono (Res.wp_noex (Res.wp_bind h)) (fun y145 h A146 H147 p150 ws151 e148 S149 h152 => ?_) (fun _ _ h => h.elim)
        have e0 := e0.trans e148
        have eL125 := eL125.trans e148
        have h_self := upO h_self e148
        have h127 := OL.up h127 e148
        have h126 := DK.up h126 e148
        have h153 := oo_some (T := T) (p := p150) h152
        have S154 : St H147 (A146 :: m_self :: (one p150 (.lst ws151)) :: (one p_came (.dK ws_came91)) :: (one p_row (.lst ws_row91)) :: R) := S149.pick 2 (Nat.le_of_ble_eq_true rfl)
        have S155 : St H147 (A146 :: (one p150 (.lst ws151)) :: m_self :: (one p_came (.dK ws_came91)) :: (one p_row (.lst ws_row91)) :: R) := S154.pick 1 (Nat.le_of_ble_eq_true rfl)
        have S156 : St H147 (A146 :: (one p150 (.lst ws151)) :: m_self :: (one p_row (.lst ws_row91)) :: R) := S155.drop 2 (Nat.le_of_ble_eq_true rfl)
        have S157 : St H147 (A146 :: (one p150 (.lst ws151)) :: m_self :: R) := S156.drop 2 (Nat.le_of_ble_eq_true rfl)
        exact h (A146) (H147) ((.ref p150)) ((one p150 (.lst ws151))) e0 S157 h153
      ·
        refine q_forL ?_
        refine c_met (c_var rfl (f_met S129 h_self (by decide +kernel) (c_cons (c_var rfl (c_nil (⟨A103, ((one p_came (.dK ws_came91)) :: (one p_row (.lst ws_row91)) :: R), m_self, v_self, x_self, t128, rfl, S129, h_self, ?_⟩))))))
        refine Res.wp_mono (Res.wp_noex (Res.wp_bind h)) (fun y158 h A159 H160 p163 ws164 e161 S162 h165 => ?_) (fun _ _ h => h.elim)
        have e0 := e0.trans e161
        have eL125 := eL125.trans e161
        have h_self := upO h_self e161
        have h127 := OL.up h127 e161
        have h126 := DK.up h126 e161
        have h167 := frz_is h165 S162
        have S168 := S162.frz
        have e166 := same_join_l (A := A159) (B := (one p163 (.lst ws164)))
        generalize hjA169 : join A159 (one p163 (.lst ws164)) = A169 at h167 S168 e166
        clear hjA169
        have e0 := e0.trans e166
        have eL125 := eL125.trans e166
        have h_self := upO h_self e166
        have h127 := OL.up h127 e166
        have h126 := DK.up h126 e166
        refine c_forL (A := A169) (s0 := (s106.2.1, s106.2.2)) (fun (A_ : Hp) (σ_ : L2.St) (R_ : List Hp) (s : (List (Int × Int)) × (List Int)) => ∃ (ws_came170 : List (Key × V)) (ws_row170 : List V) (y_there170 : Option V), σ_ = [some v_self, some (.int x_low), o2, some (.ref p_row), some (.ref p_came), y_tail62, some (.int s106.1), some (.int t128), y_there170, o9] ∧ m_self :: (one p_came (.dK ws_came170)) :: (one p_row (.lst ws_row170)) :: R = R_ ∧ DK A_ ws_came170 (s.1 : (List (Int × Int))) ∧ OL A_ ws_row170 (s.2 : (List Int))) S168 (fun Q' q => q) h167 ⟨ws_came91, ws_row91, _, rfl, rfl, h126, h127⟩ h (fun z171 w172 A173 H174 σ185 R175 s176 C177 N178 hz179 e180 S181 h182 hR183 hN184 h => ?_) (fun A186 H187 σ193 R188 s189 e190 S191 hR192 h => ?_)
        ·
          have eL194 : Same A169 A169 := Same.refl _
          obtain ⟨ws_came170, ws_row170, y_there170, rfl, rfl, h195, h196⟩ := hR183
          have e0 := e0.trans e180
          have eL125 := eL125.trans e180
          have eL194 := eL194.trans e180
          have h_self := upO h_self e180
          obtain rfl : w172 = (.int z171) := h182
          refine s_when ?_
          refine c_tb (c_dnotin (c_var rfl (c_var rfl (d_notin (S181.mem _ (List.mem_of_getElem? (i := 2) rfl) _ _ one_same) h195 (c_bl (?_))))))
          refine c_if h (fun hc h => ?_) (fun hc h => ?_)
          ·
            refine q_dput (c_var rfl (c_var rfl (c_var rfl (d_put (x := t128) (S181.mem _ (List.mem_of_getElem? (i := 2) rfl) _ _ one_same) h195 rfl h fun kv198 l197 h hk199 => ?_))))
            have S200 : St H174 (A173 :: (one p_came (.dK ws_came170)) :: m_self :: (one p_row (.lst ws_row170)) :: R) := S181.pick 1 (Nat.le_of_ble_eq_true rfl)
            have S201 := S200.wr1 (u := .dK kv198)
            generalize L2.upd H174 _ _ = H202 at S201 ⊢
            refine s_drop (c_bm (c_var rfl (c_and2 (.inl ⟨rfl, _, SqL.of ((S201.mem _ (List.mem_of_getElem? (i := 3) rfl)) _ _ one_same)⟩) (c_cons (c_var rfl (c_nil (?_)))))))
            have S203 : St H202 (A173 :: (one p_row (.lst ws_row170)) :: (one p_came (.dK kv198)) :: m_self :: R) := S201.pick 2 (Nat.le_of_ble_eq_true rfl)
            refine c_app (x := z171) S203 h196 rfl h fun t204 ws208 h H207 S206 h205 => ?_
            have S209 : St H207 (A173 :: (one p_came (.dK kv198)) :: (one p_row (.lst ws208)) :: m_self :: R) := S206.pick 1 (Nat.le_of_ble_eq_true rfl)
            have S210 : St H207 (A173 :: m_self :: (one p_came (.dK kv198)) :: (one p_row (.lst ws208)) :: R) := S209.pick 2 (Nat.le_of_ble_eq_true rfl)
            exact hN184 _ _ _ _ (l197, t204) eL194 S210 ⟨kv198, ws208, _, rfl, rfl, hk199, h205⟩ h
          ·
            exact hN184 _ _ _ _ (s176.1, s176.2) eL194 S181 ⟨ws_came170, ws_row170, _, rfl, rfl, h195, h196⟩ h
        ·
          refine nx_mk ?_
          obtain ⟨ws_came170, ws_row170, y_there170, rfl, rfl, h211, h212⟩ := hR192
          have e0 := e0.trans e190
          have eL125 := eL125.trans e190
          have h_self := upO h_self e190
          refine s_aug rfl (c_c (c_ip (?_)))
          have S213 : St H187 (A186 :: (one p_row (.lst ws_row170)) :: m_self :: (one p_came (.dK ws_came170)) :: R) := S191.pick 2 (Nat.le_of_ble_eq_true rfl)
          have S214 : St H187 (A186 :: (one p_came (.dK ws_came170)) :: (one p_row (.lst ws_row170)) :: m_self :: R) := S213.pick 2 (Nat.le_of_ble_eq_true rfl)
          exact hN112 _ _ _ _ ((s106.1 + (1 : Int)), s189.1, s189.2) eL125 S214 ⟨ws_came170, ws_row170, _, _, rfl, rfl, h211, h212⟩ h
    ·
      refine nx_mk ?_
      obtain ⟨ws_came91, ws_row91, y_here91, y_there91, rfl, rfl, h217, h218⟩ := hR120
      have e0 := e0.trans e118
      have h_self := upO h_self e118
      have S219 : St H115 (A114 :: m_self :: (one p_came (.dK ws_came91)) :: (one p_row (.lst ws_row91)) :: R) := S119.pick 2 (Nat.le_of_ble_eq_true rfl)
      have S220 : St H115 (A114 :: m_self :: (one p_row (.lst ws_row91)) :: R) := S219.drop 1 (Nat.le_of_ble_eq_true rfl)
      have S221 : St H115 (A114 :: m_self :: R) := S220.drop 1 (Nat.le_of_ble_eq_true rfl)
      exact wk_Field_ring_with_s2 (T := T) (K := K) (E := E)  e0 S221 h_self h
theorem wk_Field_ring_with {T : Cs} {K : PySem.W.Frag} {vs : List V} {H : Hp} {Q : VK} {E : XK} (kl_true : Kl K (T.cls true) true) (h : sp_Field_ring_with T K vs H Q E) : rd_Field_ring_with T K E { nx := fun _ H' => Q .non H', rt := Q } (L2.start ["self", "low", "high", "row", "came", "tail", "at", "here", "there", "x"] vs) H := by
  obtain ⟨A, R, m_self, v_self, x_self, x_low, x_high, rfl, S, h_self, h⟩ := h
  unfold m_Field_ring_with at h
  unfold rd_Field_ring_with
  have e0 : Same A A := Same.refl _
  refine q_asg ?_
  refine c_lcE ?_
  refine c_dget (c_fld (c_var rfl (f_edges kl_true S h_self fun d1 kv2 hd3 hk4 cap5 => ?_)))
  refine c_var rfl (d_get hd3 hk4 h fun t6 w7 h8 h => ?_)
  refine c_lcGL (A := A) (R := m_self :: R) (tt := (tAnd (tTest (tOp rNe (tVar 9) (tVar 1))) (tB (tDIn (tVar 9) (tFld K (tVar 0) "ahead"))))) (te := (tVar 9)) (vs := [9]) (j := 9) (fun (A_ : Hp) (R_ : List Hp) (s : Unit) => m_self :: R = R_) S (fun Q' q => q) h8 rfl h (fun _ => rfl) (fun z10 w11 A13 H14 R15 s16 n17 C18 K1_19 K0_20 hz21 e22 S23 hR24 hK25 hK26 h => ?_) (fun p46 A47 H48 R49 ws50 y45 h e51 S52 hR53 h54 => ?_)
  ·
    obtain ⟨hz21, h27⟩ := hz21
    have eC29 : Same A13 A13 := Same.refl _
    obtain rfl := hR24
    have e0 := e0.trans e22
    have h_self := upO h_self e22
    obtain rfl : w11 = (.int z10) := h27
    refine q_test (A := A13) (R := n17 :: m_self :: R) h (fun Qb32 hk31 h => ?_) (fun b30 A33 H34 e35 S36 h => ?_)
    ·
      have eT37 : Same A13 A13 := Same.refl _
      refine c_and ?_
      refine c_tst (c_op (c_var rfl (c_var rfl (c_neI (c_bl (?_))))))
      refine c_andR h (fun hc h => ?_) (fun hc h => ?_)
      ·
        have S38 : St H14 (A13 :: m_self :: n17 :: R) := S23.pick 1 (Nat.le_of_ble_eq_true rfl)
        refine c_tb (c_din (c_var rfl (c_fld (c_var rfl (f_ahead kl_true S38 h_self fun d39 kv40 hd41 hk42 cap43 => ?_)))))
        refine d_in hd41 hk42 (c_bl (?_))
        have S44 : St H14 (A13 :: n17 :: m_self :: R) := S38.pick 1 (Nat.le_of_ble_eq_true rfl)
        exact hk31 _ _ _ eT37 S44 h
      ·
        exact hk31 _ _ _ eT37 S23 h
    ·
      have e0 := e0.trans e35
      have eC29 := eC29.trans e35
      have h_self := upO h_self e35
      refine c_if h (fun hc h => ?_) (fun hc h => ?_)
      ·
        refine c_var rfl (?_)
        exact hK25 _ _ _ z10 _ () eC29 S36 rfl rfl h
      ·
        exact hK26 _ _ _ () eC29 S36 rfl h
  ·
    obtain rfl := hR53
    have e0 := e0.trans e51
    have h_self := upO h_self e51
    refine q_asg ?_
    refine c_dnew S52 fun p55 H56 S57 => ?_
    have h58 : DK A47 [] ([] : (List (Int × Int))) := dk_nil
    exact wk_Field_ring_with_s1 (T := T) (K := K) (E := E) kl_true e0 S57 h_self h54 h58 h
abbrev s_Field_ring_with : Stmt := inClass (topS 23) 12
theorem sc_Field_ring_with : FnScope ["self", "low", "high", "row", "came", "tail", "at", "here", "there", "x"] ["self", "low", "high"] (defScope s_Field_ring_with) := ⟨rfl, rfl, rfl, by decide +kernel, rfl, by decide +kernel, by decide +kernel⟩
theorem ok_Field_ring_with {P : Program} {w : World} {K : PySem.W.Frag} {mg : Str → Option Value} {base : Heap} {T : Cs} {f : Addr} {fd : FuncData} {f_led : Addr} {fd_led : FuncData} {f_Field_steps : Addr} {fd_Field_steps : FuncData} (F : Fun K "ring_with" "Field.ring_with" s_Field_ring_with f fd) (bi : Bi mg) (G_led : Glob P w K mg base CX0 1 "led" ["came", "low", "here"] (sp_led T K) f_led fd_led) (G_Field_steps : MGlob P w K mg base CX0 1 (T.cls true) "steps" ["self", "tail"] (sp_Field_steps T K) f_Field_steps fd_Field_steps)  (kl_true : Kl K (T.cls true) true) : FnOk P w K mg base CX0 2 f fd ["self", "low", "high"] (sp_Field_ring_with T K) := by
  refine F.ok sc_Field_ring_with (fun vs H Q E h => ?_) (fun cdv A outer s H vs Q E hr h => ⟨rd_Field_ring_with T K E, ?_, wk_Field_ring_with kl_true h⟩)
  · obtain ⟨_, _, _, _, _, _, _, rfl, _⟩ := h
    rfl
  · exact (pss_cons (ps_setLc (i := 3) (own := [("x", 9)]) (g := (gName 9)) (tt := (tAnd (tTest (tOp rNe (tVar 9) (tVar 1))) (tB (tDIn (tVar 9) (tFld K (tVar 0) "ahead"))))) (te := (tVar 9)) rfl sc_Field_ring_with.nd rfl rfl (sw_true rfl rfl rfl (by decide +kernel)) (pi_list (pe_dget (hu_of hr) (pe_fld (pv 0) rfl) (pv 2) (fun _ _ => rfl))) (blkOk_by (own := [("x", 9)]) (N := ["self", "low", "high", "row", "came", "tail", "at", "here", "there", "x"]) (sc := defScope s_Field_ring_with) (by decide +kernel)) (fun _ _ _ _ _ => pg_name (i := 9) sc_Field_ring_with.nd rfl (Or.inl rfl)) (fun _ _ _ _ _ => pts_one (PW.pt (pw_and (pt_cmpR op_ne (pv 9) (pv 1) (nomark _)) (pw_and1 (pt_cmp (pc_din (hu_of hr) (pv 9) (pe_fld (pv 0) rfl)) rfl))))) (fun _ _ _ _ _ => (pv 9)))
      (pss_cons (ps_set (i := 4) sc_Field_ring_with.nd rfl (Or.inl rfl) pe_dnewK)
      (pss_cons (ps_for PassesOwn.never rfl (pi_list (pv 3)) (pg_name (i := 5) sc_Field_ring_with.nd rfl (Or.inl rfl)) (pss_one (ps_dput (hu_of hr) (pv 4) (pv 5) (pv 1) rfl)))
      (pss_cons (ps_set (i := 6) sc_Field_ring_with.nd rfl (Or.inl rfl) pe_int)
      (pss_cons (ps_while PassesOwn.never (pt_cmpR op_lt (pv 6) (pe_callB call_len_seq (by rfl) bi.len PySem.boot_len (pa_cons (pv 3) pa_nil)) (nomark _)) (pss_cons (ps_set (i := 7) sc_Field_ring_with.nd rfl (Or.inl rfl) (pe_ix ix_list (pv 3) (pv 6) (fun _ _ => rfl)))
      (pss_cons (ps_if (pt_cmpR op_in_seq (pv 1) (pe_dget (hu_of hr) (pe_fld (pv 0) rfl) (pe_dget (hu_of hr) (pe_fld (pv 0) rfl) (pv 7) (fun _ _ => rfl)) (fun _ _ => rfl)) rfl) (pss_one (ps_ret (pe_call G_led.ok (hr.mono (Nat.le_of_ble_eq_true rfl)) (by rfl) G_led.g G_led.kp G_led.b .nil pass0 (pa_cons (pv 4) (pa_cons (pv 1) (pa_cons (pv 7) pa_nil)))))) pss_nil)
      (pss_cons (ps_for PassesOwn.never rfl (pi_list (pe_meth (pv 0) kl_true.cl G_Field_steps.mt G_Field_steps.ok (hr.mono (Nat.le_of_ble_eq_true rfl)) G_Field_steps.b .nil pass0 (pa_cons (pv 7) pa_nil))) (pg_name (i := 8) sc_Field_ring_with.nd rfl (Or.inl rfl)) (pss_one (ps_if (pt_cmp (pc_dnotin (hu_of hr) (pv 8) (pv 4)) rfl) (pss_cons (ps_dput (hu_of hr) (pv 4) (pv 8) (pv 7) rfl)
      (pss_one (ps_expr (pe_bm PySem.F.plainAttrs_list PySem.F.slot_list_append PySem.F.type_list_append mt_append (pv 3) (pa_cons (pv 8) pa_nil))))) pss_nil)))
      (pss_one (ps_aug (i := 6) sc_Field_ring_with.nd rfl (Or.inl rfl) pe_int ip_add))))))
      (pss_one (ps_ret pe_non)))))))
@[irreducible] def m_Field_tie (x_self : (FS true)) (x_low : Int) (x_high : Int) : Res (FS true) (Unit × (FS true)) := Res.bind (Res.lift (fun w => x_self) (m_Body_known x_self [x_low, x_high])) fun y10 => Res.bind (agR x_self.edges x_high) fun t20 => if (!(decide (x_low ∈ t20))) = true then .ex (.plain 7) x_self else Res.bind (Res.bind (Res.noex (m_Field_in_arrow x_self x_low)) fun y31 => orR y31 (Res.bind (Res.noex (m_Field_in_arrow x_self x_high)) fun y36 => .ok y36)) fun b23 => if b23 = true then .ex (.plain 8) x_self else Res.bind (Res.noex (m_Field_ring_with x_self x_low x_high)) fun y41 => if (!(y41).isNone) = true then Res.bind (getR y41) fun t49 => .ex (.ring t49) x_self else Res.bind (aputR x_self.ahead x_low x_high) fun l62 => Res.bind (aputR x_self.behind x_high x_low) fun l74 => .ok ((), (FS.mk x_self.ranks x_self.edges x_self.after l62 l74 : FS true))
def sp_Field_tie (T : Cs) (K : PySem.W.Frag) : Sp := fun vs H Q E => ∃ (A : Hp) (R : List Hp) (m_self : Hp) (v_self : V) (x_self : (FS true)) (x_low : Int) (x_high : Int), vs = [v_self, (.int x_low), (.int x_high)] ∧ St H (A :: m_self :: R) ∧ Ob.isAt T A m_self v_self x_self ∧ (m_Field_tie x_self x_low x_high).wp (fun y => ∀ (A' H' : Hp) (m0 : Hp), Same A A' → St H' (A' :: m0 :: R) → Ob.isAt T A' m0 v_self y.2 → Q .non H') (fun e w => ∀ (A' H' : Hp) (m0 : Hp) (cls : Value) (d : Option Addr), Same A A' → St H' (A' :: m0 :: R) → Ob.isAt T A' m0 v_self w → XA T e cls d A A' → E cls d H')
def rd_Field_tie (T : Cs) (K : PySem.W.Frag) (E : XK) : TS := (tSeq (tDrop (tMeth (T.cls true) "known" (sp_Body_known true T K) [] E (tVar 0) (tCons (tLst (tCons (tVar 1) (tCons (tVar 2) tNil))) tNil))) (tSeq (tIfS (tTest (tOp (rIn K true) (tVar 1) (tDGet (tFld K (tVar 0) "edges") (tVar 2)))) (tRaise0 E (T.ex 7)) tNext) (tSeq (tIfS (tOr (tB (tMeth (T.cls true) "in_arrow" (sp_Field_in_arrow T K) [] E0 (tVar 0) (tCons (tVar 1) tNil))) (tB (tMeth (T.cls true) "in_arrow" (sp_Field_in_arrow T K) [] E0 (tVar 0) (tCons (tVar 2) tNil)))) (tRaise0 E (T.ex 8)) tNext) (tSeq (tAsg (tMeth (T.cls true) "ring_with" (sp_Field_ring_with T K) [] E0 (tVar 0) (tCons (tVar 1) (tCons (tVar 2) tNil))) (gName 3)) (tSeq (tIfS (tTest (tOp rNotN (tVar 3) (tC .non))) (tRaiseP K E T.ring "ring" (tVar 3)) tNext) (tSeq (sDPut (tFld K (tVar 0) "ahead") (tVar 1) (tVar 2)) (sDPut (tFld K (tVar 0) "behind") (tVar 2) (tVar 1))))))))
theorem wk_Field_tie {T : Cs} {K : PySem.W.Frag} {vs : List V} {H : Hp} {Q : VK} {E : XK} (kl_true : Kl K (T.cls true) true) (XO_RingOfArrows : XoC K T.ring "ring") (h : sp_Field_tie T K vs H Q E) : rd_Field_tie T K E { nx := fun _ H' => Q .non H', rt := Q } (L2.start ["self", "low", "high", "found"] vs) H := by
  obtain ⟨A, R, m_self, v_self, x_self, x_low, x_high, rfl, S, h_self, h⟩ := h
  unfold m_Field_tie at h
  unfold rd_Field_tie
  have e0 : Same A A := Same.refl _
  refine q_drop ?_
  refine c_met (c_var rfl (f_met S h_self (by decide +kernel) (c_cons (c_tlst (c_cons (c_var rfl (c_cons (c_var rfl (c_nil (c_lst (α := Int) (vs := [(.int x_low), (.int x_high)]) (xs := [x_low, x_high]) (Nat.le_of_ble_eq_true rfl) ⟨rfl, ⟨rfl, trivial⟩⟩ (ow S fun p1 ws2 H3 S4 h5 => ?_)))))))))))
  have h7 := frz_is h5 S4
  have S8 := S4.frz
  have e6 := same_join_l (A := A) (B := (one p1 (.lst ws2)))
  generalize hjA9 : join A (one p1 (.lst ws2)) = A9 at h7 S8 e6
  clear hjA9
  have e0 := e0.trans e6
  have h_self := upO h_self e6
  refine c_nil (⟨A9, (R), m_self, v_self, x_self, (.ref p1), [x_low, x_high], rfl, S8, h_self, h7, ?_⟩)
  refine Res.wp_mono (Res.wp_lift (Res.wp_bind h)) (fun y10 h A11 H12 e13 S14 => ?_) (fun e w he AX HX  cls d eX SX  hx => by
      exact he AX HX m_self cls d (e0.trans eX) SX (upO h_self eX) (xa_base e0 hx))
  have e0 := e0.trans e13
  have h_self := upO h_self e13
  refine q_when ?_
  refine c_tst (c_op (c_var rfl (c_dget (c_fld (c_var rfl (f_edges kl_true S14 h_self fun d15 kv16 hd17 hk18 cap19 => ?_))))))
  refine c_var rfl (d_get hd17 hk18 h fun t20 w21 h22 h => ?_)
  refine c_notin (la_of S14 h22) (c_bl (?_))
  refine c_if h (fun hc h => ?_) (fun hc h => ?_)
  ·
    refine s_raise ?_
    exact h A11 H12 m_self _ _ e0 S14 h_self ⟨rfl, rfl⟩
  ·
    refine q_when ?_
    refine q_test (A := A11) (R := m_self :: R) h (fun Qb25 hk24 h => ?_) (fun b23 A26 H27 e28 S29 h => ?_)
    ·
      have eT30 : Same A11 A11 := Same.refl _
      refine c_or ?_
      refine c_tb (c_met (c_var rfl (f_met S14 h_self (by decide +kernel) (c_cons (c_var rfl (c_nil (⟨A11, (R), m_self, v_self, x_self, x_low, rfl, S14, h_self, ?_⟩)))))))
      refine Res.wp_mono (Res.wp_noex (Res.wp_bind h)) (fun y31 h A32 H33 e34 S35 => ?_) (fun _ _ h => h.elim)
      have e0 := e0.trans e34
      have eT30 := eT30.trans e34
      have h_self := upO h_self e34
      refine c_bl (?_)
      refine c_orR h (fun hc h => ?_) (fun hc h => ?_)
      ·
        exact hk24 _ _ _ eT30 S35 h
      ·
        refine c_tb (c_met (c_var rfl (f_met S35 h_self (by decide +kernel) (c_cons (c_var rfl (c_nil (⟨A32, (R), m_self, v_self, x_self, x_high, rfl, S35, h_self, ?_⟩)))))))
        refine Res.wp_mono (Res.wp_noex (Res.wp_bind h)) (fun y36 h A37 H38 e39 S40 => ?_) (fun _ _ h => h.elim)
        have e0 := e0.trans e39
        have eT30 := eT30.trans e39
        have h_self := upO h_self e39
        refine c_bl (?_)
        exact hk24 _ _ _ eT30 S40 h
    ·
      have e0 := e0.trans e28
      have h_self := upO h_self e28
      refine c_if h (fun hc h => ?_) (fun hc h => ?_)
      ·
        refine s_raise ?_
        exact h A26 H27 m_self _ _ e0 S29 h_self ⟨rfl, rfl⟩
      ·
        refine q_asg ?_
        refine c_met (c_var rfl (f_met S29 h_self (by decide +kernel) (c_cons (c_var rfl (c_cons (c_var rfl (c_nil (⟨A26, (R), m_self, v_self, x_self, x_low, x_high, rfl, S29, h_self, ?_⟩))))))))
        refine Res.wp_mono (Res.wp_noex (Res.wp_bind h)) (fun y41 h A42 H43 v46 m47 e44 S45 h48 => ?_) (fun _ _ h => h.elim)
        have e0 := e0.trans e44
        have h_self := upO h_self e44
        refine q_when ?_
        refine c_tst (c_op (c_var rfl (c_c (c_notNo h48 (c_bl (?_))))))
        refine c_if h (fun hc h => ?_) (fun hc h => ?_)
        ·
          refine s_raiseP XO_RingOfArrows.o XO_RingOfArrows.no ?_ mono_var
          refine c_var rfl (?_)
          refine oo_get h48 h fun p51 ws52 t49 hv53 hm54 h50 h => ?_
          obtain rfl := hv53
          obtain rfl := hm54
          refine x_ring S45 e0 h50 fun A9 H9 d9 eA9 e9 S9 x9 => ?_
          exact h A9 H9 m_self _ _ e9 S9 (upO h_self eA9) x9
        ·
          have S56 : St H43 (A42 :: m_self :: m47 :: R) := S45.pick 1 (Nat.le_of_ble_eq_true rfl)
          refine q_dput (c_var rfl (c_fld (c_var rfl (f_ahead kl_true S56 h_self fun d57 kv58 hd59 hk60 cap61 => ?_))))
          refine c_var rfl (d_put (x := x_high) hd59 hk60 rfl h fun kv63 l62 h hk64 => ?_)
          obtain ⟨m65, S66, h67⟩ := cap61 _ _ hk64
          generalize L2.upd H43 _ _ = H68 at S66 ⊢
          refine s_dput (c_var rfl (c_fld (c_var rfl (f_behind kl_true S66 h67 fun d69 kv70 hd71 hk72 cap73 => ?_))))
          refine c_var rfl (d_put (x := x_low) hd71 hk72 rfl h fun kv75 l74 h hk76 => ?_)
          obtain ⟨m77, S78, h79⟩ := cap73 _ _ hk76
          generalize L2.upd H68 _ _ = H80 at S78 ⊢
          have S81 : St H80 (A42 :: m77 :: R) := S78.drop 1 (Nat.le_of_ble_eq_true rfl)
          exact h (A42) (H80) (m77) e0 S81 h79
abbrev s_Field_tie : Stmt := inClass (topS 23) 13
theorem sc_Field_tie : FnScope ["self", "low", "high", "found"] ["self", "low", "high"] (defScope s_Field_tie) := ⟨rfl, rfl, rfl, by decide +kernel, rfl, by decide +kernel, by decide +kernel⟩
theorem ok_Field_tie {P : Program} {w : World} {K : PySem.W.Frag} {mg : Str → Option Value} {base : Heap} {T : Cs} {f : Addr} {fd : FuncData} {f_Body_known_true : Addr} {fd_Body_known_true : FuncData} {f_Field_in_arrow : Addr} {fd_Field_in_arrow : FuncData} {f_Field_ring_with : Addr} {fd_Field_ring_with : FuncData} (F : Fun K "tie" "Field.tie" s_Field_tie f fd) (bi : Bi mg) (G_Body_known_true : MGlob P w K mg base (L2.CX P w) 1 (T.cls true) "known" ["self", "row"] (sp_Body_known true T K) f_Body_known_true fd_Body_known_true) (G_Field_in_arrow : MGlob P w K mg base CX0 1 (T.cls true) "in_arrow" ["self", "cell"] (sp_Field_in_arrow T K) f_Field_in_arrow fd_Field_in_arrow) (G_Field_ring_with : MGlob P w K mg base CX0 2 (T.cls true) "ring_with" ["self", "low", "high"] (sp_Field_ring_with T K) f_Field_ring_with fd_Field_ring_with) (X_NotFace : ExC K mg "NotFace" (T.ex 7)) (X_Tied : ExC K mg "Tied" (T.ex 8)) (kl_true : Kl K (T.cls true) true) (XO_RingOfArrows : XoC K T.ring "ring") (XG_RingOfArrows : mg "RingOfArrows" = some (.ref T.ring)) {fI_RingOfArrows : Addr} {fdI_RingOfArrows : FuncData} (XI_RingOfArrows : XiC P w K mg base T.ring "ring" fI_RingOfArrows fdI_RingOfArrows) : FnOk P w K mg base (L2.CX P w) 3 f fd ["self", "low", "high"] (sp_Field_tie T K) := by
  refine F.okX sc_Field_tie (fun vs H Q E h => ?_) (fun cdv A outer s H vs Q E hr h => ⟨rd_Field_tie T K E, ?_, wk_Field_tie kl_true XO_RingOfArrows h⟩)
  · obtain ⟨_, _, _, _, _, _, _, rfl, _⟩ := h
    rfl
  · exact (pss_cons (ps_expr (pe_meth (pv 0) kl_true.cl G_Body_known_true.mt G_Body_known_true.ok (hr.mono (Nat.le_of_ble_eq_true rfl)) G_Body_known_true.b .nil (passes_call (takes_of rfl rfl rfl rfl) (fun _ _ _ _ h => h)) (pa_cons (pe_lst (pa_cons (pv 1) (pa_cons (pv 2) pa_nil))) pa_nil)))
      (pss_cons (ps_if (pt_cmpR op_notIn_seq (pv 1) (pe_dget (hu_of hr) (pe_fld (pv 0) rfl) (pv 2) (fun _ _ => rfl)) rfl) (pss_one (ps_raise rfl (takes_of rfl rfl rfl rfl) (pmk_own PySem.F.excBase_ValueError X_NotFace.x X_NotFace.g X_NotFace.kp (raises_own X_NotFace.b X_NotFace.t) (by rfl)))) pss_nil)
      (pss_cons (ps_if (PW.pt (pw_or (pt_val (pe_meth (pv 0) kl_true.cl G_Field_in_arrow.mt G_Field_in_arrow.ok (hr.mono (Nat.le_of_ble_eq_true rfl)) G_Field_in_arrow.b .nil pass0 (pa_cons (pv 1) pa_nil))) (pw_or1 (pt_val (pe_meth (pv 0) kl_true.cl G_Field_in_arrow.mt G_Field_in_arrow.ok (hr.mono (Nat.le_of_ble_eq_true rfl)) G_Field_in_arrow.b .nil pass0 (pa_cons (pv 2) pa_nil)))))) (pss_one (ps_raise rfl (takes_of rfl rfl rfl rfl) (pmk_own PySem.F.excBase_ValueError X_Tied.x X_Tied.g X_Tied.kp (raises_own X_Tied.b X_Tied.t) (by rfl)))) pss_nil)
      (pss_cons (ps_set (i := 3) sc_Field_tie.nd rfl (Or.inl rfl) (pe_meth (pv 0) kl_true.cl G_Field_ring_with.mt G_Field_ring_with.ok (hr.mono (Nat.le_of_ble_eq_true rfl)) G_Field_ring_with.b .nil pass0 (pa_cons (pv 1) (pa_cons (pv 2) pa_nil))))
      (pss_cons (ps_if (pt_cmpR op_notN1 (pv 3) pe_non (nomark _)) (pss_one (ps_raise rfl (takes_of rfl rfl rfl rfl) (pmk_oex XO_RingOfArrows.o XI_RingOfArrows.ini XI_RingOfArrows.ty XI_RingOfArrows.ok (hr.mono (Nat.le_of_ble_eq_true rfl)) XI_RingOfArrows.b .nil pass0 (by rfl) XG_RingOfArrows (pa_cons (pv 3) pa_nil)))) pss_nil)
      (pss_cons (ps_dput (hu_of hr) (pe_fld (pv 0) rfl) (pv 1) (pv 2) rfl)
      (pss_one (ps_dput (hu_of hr) (pe_fld (pv 0) rfl) (pv 2) (pv 1) rfl))))))))
@[irreducible] def m_law_tied_or_ring (x_field : (FS true)) (x_low : Int) (x_high : Int) : Res (FS true) (Str × (FS true)) := Res.bind (tryM (Res.bind (Res.lift (fun w => (("ring" : Str), w)) (m_Field_tie x_field x_low x_high)) fun y30 => .ok (("tied" : Str), y30.2) : Res (Str × (FS true)) (Str × (FS true))) (fun e9 w13 => exM e9 (fun k9 => .bad) (fun l9 => .ok (("ring" : Str), w13.2)) (fun n9 => .bad) (fun n9 => .bad))) fun s24 => .ok (s24.1, s24.2)
def sp_law_tied_or_ring (T : Cs) (K : PySem.W.Frag) : Sp := fun vs H Q E => ∃ (A : Hp) (R : List Hp) (m_field : Hp) (v_field : V) (x_field : (FS true)) (x_low : Int) (x_high : Int), vs = [v_field, (.int x_low), (.int x_high)] ∧ St H (A :: m_field :: R) ∧ Ob.isAt T A m_field v_field x_field ∧ (m_law_tied_or_ring x_field x_low x_high).wp (fun y => ∀ (A' H' : Hp) (m0 : Hp), Same A A' → St H' (A' :: m0 :: R) → Ob.isAt T A' m0 v_field y.2 → Q (.str y.1) H') (fun _ _ => False)
def rd_law_tied_or_ring (T : Cs) (K : PySem.W.Frag) (E : XK) : TS := (tSeq (tAsg (tC (.str "ring")) (gName 3)) (Evl.tCut (tTry K (fun _ _ _ _ => False) (fun W => (tSeq (tDrop (tMetS (T.cls true) "tie" (sp_Field_tie T K) (WE W) (tVar 0) (tCons (tVar 1) (tCons (tVar 2) tNil)))) (tAsg (tC (.str "tied")) (gName 3)))) [⟨[(.ref T.ring)], none, fun a_ cls_ d_ => (tAsg (tC (.str "ring")) (gName 3))⟩]) (tRet (tVar 3))))
theorem wk_law_tied_or_ring {T : Cs} {K : PySem.W.Frag} {vs : List V} {H : Hp} {Q : VK} {E : XK} (kl_true : Kl K (T.cls true) true) (em : Em K T) (h : sp_law_tied_or_ring T K vs H Q E) : rd_law_tied_or_ring T K E { nx := fun _ H' => Q .non H', rt := Q } (L2.start ["_law_field", "_law_low", "_law_high", "_law_word"] vs) H := by
  obtain ⟨A, R, m_field, v_field, x_field, x_low, x_high, rfl, S, h_field, h⟩ := h
  unfold m_law_tied_or_ring at h
  unfold rd_law_tied_or_ring
  have e0 : Same A A := Same.refl _
  refine q_asg ?_
  refine c_c (?_)
  refine q_try (T := T) (A := A) (fun (A_ : Hp) (σ_ : L2.St) (R_ : List Hp) (s : Str × (FS true)) => ∃ (m_field2 : Hp), σ_ = [some v_field, some (.int x_low), some (.int x_high), some (.str s.1)] ∧ m_field2 :: R = R_ ∧ Ob.isAt T A_ m_field2 v_field (s.2 : (FS true))) (fun (A_ : Hp) (σ_ : L2.St) (R_ : List Hp) (s : Str × (FS true)) => ∃ (m_field1 : Hp), σ_ = [some v_field, some (.int x_low), some (.int x_high), some (.str s.1)] ∧ m_field1 :: R = R_ ∧ Ob.isAt T A_ m_field1 v_field (s.2 : (FS true))) h (fun C3 CE4 W5 N6 hN7 hX8 h => ?_) (fun C3 N6 hN7 A9 H10 σ11 R12 w13 ex14 cls15 d16 e17 S18 hR19 hx20 h => ?_) (fun A21 H22 σ28 R23 s24 e25 S26 hR27 h => ?_)
  ·
    have eT29 : Same A A := Same.refl _
    refine q_drop ?_
    refine c_metS (c_var rfl (f_met S h_field (by decide +kernel) (c_cons (c_var rfl (c_cons (c_var rfl (c_nil (⟨A, (R), m_field, v_field, x_field, x_low, x_high, rfl, S, h_field, ?_⟩))))))))
    refine Res.wp_mono (Res.wp_lift (Res.wp_bind h)) (fun y30 h A31 H32 m36 e33 S34 h35 => ?_) (fun e w he AX HX m36 cls d eX SX h35 hx => by
        exact hX8 _ _ _ _ (("ring" : Str), w) e cls d (eT29.trans eX) SX ⟨m36, rfl, rfl, h35⟩ (xa_base eT29 hx) he)
    have e0 := e0.trans e33
    have eT29 := eT29.trans e33
    refine s_asg ?_
    refine c_c (?_)
    exact hN7 _ _ _ _ (("tied" : Str), y30.2) eT29 S34 ⟨m36, rfl, rfl, h35⟩ h
  ·
    have eT37 : Same A A := Same.refl _
    obtain ⟨m_field1, rfl, rfl, h38⟩ := hR19
    have e0 := e0.trans e17
    have eT37 := eT37.trans e17
    refine exM_by hx20 h (fun k9 hc hd h => ?_) (fun l9 dd9 q9 vs9 hc hd hb9 hq9 hl9 h => ?_) (fun n9 dd9 hc hd hb9 h => ?_) (fun n9 dd9 hc hd hb9 h => ?_)
    ·
      obtain rfl := hc
      obtain rfl := hd
      exact h.elim
    ·
      obtain rfl := hc
      obtain rfl := hd
      refine cl_yes0 (ex_1 em.f_RingOfArrows_RingOfArrows) fun a39 hz40 => ?_
      refine s_asg ?_
      refine c_c (?_)
      exact hN7 _ _ _ _ (("ring" : Str), w13.2) eT37 S18 ⟨m_field1, rfl, rfl, h38⟩ h
    ·
      exact h.elim
    ·
      exact h.elim
  ·
    obtain ⟨m_field2, rfl, rfl, h41⟩ := hR27
    have e0 := e0.trans e25
    refine s_ret ?_
    refine c_var rfl (?_)
    exact h (A21) (H22) (m_field2) e0 S26 h41
abbrev s_law_tied_or_ring : Stmt := topS 50
theorem sc_law_tied_or_ring : FnScope ["_law_field", "_law_low", "_law_high", "_law_word"] ["_law_field", "_law_low", "_law_high"] (defScope s_law_tied_or_ring) := ⟨rfl, rfl, rfl, by decide +kernel, rfl, by decide +kernel, by decide +kernel⟩
theorem ok_law_tied_or_ring {P : Program} {w : World} {K : PySem.W.Frag} {mg : Str → Option Value} {base : Heap} {T : Cs} {f : Addr} {fd : FuncData} {f_Field_tie : Addr} {fd_Field_tie : FuncData} (F : Fun K "_law_tied_or_ring" "_law_tied_or_ring" s_law_tied_or_ring f fd) (bi : Bi mg) (G_Field_tie : MGlob P w K mg base (L2.CX P w) 3 (T.cls true) "tie" ["self", "low", "high"] (sp_Field_tie T K) f_Field_tie fd_Field_tie)  (kl_true : Kl K (T.cls true) true) (em : Em K T) (XG_RingOfArrows : mg "RingOfArrows" = some (.ref T.ring)) : FnOk P w K mg base CX0 4 f fd ["_law_field", "_law_low", "_law_high"] (sp_law_tied_or_ring T K) := by
  refine F.ok sc_law_tied_or_ring (fun vs H Q E h => ?_) (fun cdv A outer s H vs Q E hr h => ⟨rd_law_tied_or_ring T K E, ?_, wk_law_tied_or_ring kl_true em h⟩)
  · obtain ⟨_, _, _, _, _, _, _, rfl, _⟩ := h
    rfl
  · exact (pss_cons (ps_set (i := 3) sc_law_tied_or_ring.nd rfl (Or.inl rfl) pe_str)
      (Evl.pss_cut (ps_tryT rfl rfl takes_none5 (fun W pn xe tk _ => (pss_cons (ps_expr (pe_metS (pv 0) kl_true.cl G_Field_tie.mt G_Field_tie.ok (hr.mono (Nat.le_of_ble_eq_true rfl)) G_Field_tie.b (fun σ => passAt tk σ) (pa_cons (pv 1) (pa_cons (pv 2) pa_nil))))
      (pss_one (ps_set (i := 3) sc_law_tied_or_ring.nd rfl (Or.inl rfl) pe_str)))) (ClOk.one ⟨rfl, by decide, .inl XG_RingOfArrows⟩ (fun a oe cls d pn hz hf => (pss_one (ps_set (i := 3) sc_law_tied_or_ring.nd rfl (Or.inl rfl) pe_str))) ClOk.nil))
      (pss_one (ps_ret (pv 3)))))
@[irreducible] def m_law_whole (x_found : Int) : Res Unit Bool := if true = true then .ok (!false) else .ok false
def sp_law_whole (T : Cs) (K : PySem.W.Frag) : Sp := fun vs H Q E => ∃ (A : Hp) (R : List Hp) (x_found : Int), vs = [(.int x_found)] ∧ St H (A :: R) ∧ (m_law_whole x_found).wp (fun y => ∀ (A' H' : Hp) , Same A A' → St H' (A' :: R) → Q (.bl y) H') (fun _ _ => False)
def rd_law_whole (T : Cs) (K : PySem.W.Frag) (E : XK) : TS := (tRet (tAndV (tCB (rIsi K) (tCons (tVar 0) (tCons (tC (.ty "int")) tNil))) (tNotV (tCB (rIsi K) (tCons (tVar 0) (tCons (tC (.ty "bool")) tNil))))))
theorem wk_law_whole {T : Cs} {K : PySem.W.Frag} {vs : List V} {H : Hp} {Q : VK} {E : XK}  (h : sp_law_whole T K vs H Q E) : rd_law_whole T K E { nx := fun _ H' => Q .non H', rt := Q } (L2.start ["_law_found"] vs) H := by
  obtain ⟨A, R, x_found, rfl, S, h⟩ := h
  unfold m_law_whole at h
  unfold rd_law_whole
  have e0 : Same A A := Same.refl _
  refine s_ret ?_
  refine c_andV (c_cb (c_cons (c_var rfl (c_cons (c_c (c_nil (isi_int (c_bl (?_)))))))))
  refine c_if h (fun hc h => ?_) (fun hc h => ?_)
  ·
    refine c_notV (c_cb (c_cons (c_var rfl (c_cons (c_c (c_nil (isi_int_bool (c_bl (?_)))))))))
    exact h (A) (H) e0 S 
  ·
    exact h (A) (H) e0 S 
abbrev s_law_whole : Stmt := topS 43
theorem sc_law_whole : FnScope ["_law_found"] ["_law_found"] (defScope s_law_whole) := ⟨rfl, rfl, rfl, by decide +kernel, rfl, by decide +kernel, by decide +kernel⟩
theorem ok_law_whole {P : Program} {w : World} {K : PySem.W.Frag} {mg : Str → Option Value} {base : Heap} {T : Cs} {f : Addr} {fd : FuncData}  (F : Fun K "_law_whole" "_law_whole" s_law_whole f fd) (bi : Bi mg)    : FnOk P w K mg base CX0 1 f fd ["_law_found"] (sp_law_whole T K) := by
  refine F.ok sc_law_whole (fun vs H Q E h => ?_) (fun cdv A outer s H vs Q E hr h => ⟨rd_law_whole T K E, ?_, wk_law_whole  h⟩)
  · obtain ⟨_, _, _, rfl, _⟩ := h
    rfl
  · exact (pss_one (ps_ret (pe_and (pe_callB call_isi (by rfl) bi.isinstance boot_isinstance (pa_cons (pv 0) (pa_cons (pe_bltn (v := .ty "int") (by rfl) bi.int boot_int rfl) pa_nil))) (pe_one (pe_not (pe_callB call_isi (by rfl) bi.isinstance boot_isinstance (pa_cons (pv 0) (pa_cons (pe_bltn (v := .ty "bool") (by rfl) bi.bool boot_bool rfl) pa_nil))))))))
@[irreducible] def m_law_row (x_found : (List Int)) : Res Unit Bool := if (!true) = true then .ok false else Res.bind (forM (β := Bool) (fun z2 (s7 : Unit) => Res.bind (Res.noex (m_law_whole z2)) fun y26 => if (!y26) = true then .ok (.ret (false)) else .ok (.next ())) x_found ()) fun r31 => (match r31 with | .next s20 => .ok true | .ret y32 => .ok y32)
def sp_law_row (T : Cs) (K : PySem.W.Frag) : Sp := fun vs H Q E => ∃ (A : Hp) (R : List Hp) (v_found : V) (x_found : (List Int)), vs = [v_found] ∧ St H (A :: R) ∧ Is A v_found x_found ∧ (m_law_row x_found).wp (fun y => ∀ (A' H' : Hp) , Same A A' → St H' (A' :: R) → Q (.bl y) H') (fun _ _ => False)
def rd_law_row (T : Cs) (K : PySem.W.Frag) (E : XK) : TS := (tSeq (tIfS (tNot (tB (tCB (rIsi K) (tCons (tVar 0) (tCons (tC (.ty "list")) tNil))))) (tRet (tC (.bl false))) tNext) (tSeq (tFor (iList K (tVar 0)) (gName 1) (tIfS (tNot (tB (tCall (sp_law_whole T K) [] E0 (tCons (tVar 1) tNil)))) (tRet (tC (.bl false))) tNext)) (tRet (tC (.bl true)))))
theorem wk_law_row {T : Cs} {K : PySem.W.Frag} {vs : List V} {H : Hp} {Q : VK} {E : XK}  (h : sp_law_row T K vs H Q E) : rd_law_row T K E { nx := fun _ H' => Q .non H', rt := Q } (L2.start ["_law_found", "_law_one"] vs) H := by
  obtain ⟨A, R, v_found, x_found, rfl, S, h_found, h⟩ := h
  unfold m_law_row at h
  unfold rd_law_row
  have e0 : Same A A := Same.refl _
  refine q_when ?_
  refine c_not (b := true) (c_tb (c_cb (c_cons (c_var rfl (c_cons (c_c (c_nil (isi_list (la_of S h_found) (c_bl (?_))))))))))
  refine c_if h (fun hc h => ?_) (fun hc h => ?_)
  ·
    refine s_ret ?_
    refine c_c (?_)
    exact h (A) (H) e0 S 
  ·
    refine q_forL ?_
    refine c_var rfl (?_)
    refine c_forL (A := A) (s0 := ()) (fun (A_ : Hp) (σ_ : L2.St) (R_ : List Hp) (s : Unit) => ∃ (y_one1 : Option V), σ_ = [some v_found, y_one1] ∧ R = R_) S (fun Q' q => q) h_found ⟨_, rfl, rfl⟩ h (fun z2 w3 A4 H5 σ16 R6 s7 C8 N9 hz10 e11 S12 h13 hR14 hN15 h => ?_) (fun A17 H18 σ24 R19 s20 e21 S22 hR23 h => ?_)
    ·
      have eL25 : Same A A := Same.refl _
      obtain ⟨y_one1, rfl, rfl⟩ := hR14
      have e0 := e0.trans e11
      have eL25 := eL25.trans e11
      have h_found := up h_found e11
      obtain rfl : w3 = (.int z2) := h13
      refine s_when ?_
      refine c_not (b := true) (c_tb (c_call (c_cons (c_var rfl (c_nil (⟨A4, (R), z2, rfl, S12, ?_⟩))))))
      refine Res.wp_mono (Res.wp_noex (Res.wp_bind h)) (fun y26 h A27 H28 e29 S30 => ?_) (fun _ _ h => h.elim)
      have e0 := e0.trans e29
      have eL25 := eL25.trans e29
      have h_found := up h_found e29
      refine c_bl (?_)
      refine c_if h (fun hc h => ?_) (fun hc h => ?_)
      ·
        refine s_ret ?_
        refine c_c (?_)
        exact h (A27) (H28) e0 S30 
      ·
        exact hN15 _ _ _ _ () eL25 S30 ⟨_, rfl, rfl⟩ h
    ·
      refine nx_mk ?_
      obtain ⟨y_one1, rfl, rfl⟩ := hR23
      have e0 := e0.trans e21
      have h_found := up h_found e21
      refine s_ret ?_
      refine c_c (?_)
      exact h (A17) (H18) e0 S22 
abbrev s_law_row : Stmt := topS 44
theorem sc_law_row : FnScope ["_law_found", "_law_one"] ["_law_found"] (defScope s_law_row) := ⟨rfl, rfl, rfl, by decide +kernel, rfl, by decide +kernel, by decide +kernel⟩
theorem ok_law_row {P : Program} {w : World} {K : PySem.W.Frag} {mg : Str → Option Value} {base : Heap} {T : Cs} {f : Addr} {fd : FuncData} {f_law_whole : Addr} {fd_law_whole : FuncData} (F : Fun K "_law_row" "_law_row" s_law_row f fd) (bi : Bi mg) (G_law_whole : Glob P w K mg base CX0 1 "_law_whole" ["_law_found"] (sp_law_whole T K) f_law_whole fd_law_whole)   : FnOk P w K mg base CX0 2 f fd ["_law_found"] (sp_law_row T K) := by
  refine F.ok sc_law_row (fun vs H Q E h => ?_) (fun cdv A outer s H vs Q E hr h => ⟨rd_law_row T K E, ?_, wk_law_row  h⟩)
  · obtain ⟨_, _, _, _, rfl, _⟩ := h
    rfl
  · exact (pss_cons (ps_if (pt_not (pt_val (pe_callB call_isi (by rfl) bi.isinstance boot_isinstance (pa_cons (pv 0) (pa_cons (pe_bltn (v := .ty "list") (by rfl) bi.list boot_list rfl) pa_nil))))) (pss_one (ps_ret pe_bl)) pss_nil)
      (pss_cons (ps_for PassesOwn.never rfl (pi_list (pv 0)) (pg_name (i := 1) sc_law_row.nd rfl (Or.inl rfl)) (pss_one (ps_if (pt_not (pt_val (pe_call G_law_whole.ok (hr.mono (Nat.le_of_ble_eq_true rfl)) (by rfl) G_law_whole.g G_law_whole.kp G_law_whole.b .nil pass0 (pa_cons (pv 1) pa_nil)))) (pss_one (ps_ret pe_bl)) pss_nil)))
      (pss_one (ps_ret pe_bl))))
@[irreducible] def m_law_same (x_found : (List Int)) (x_due : (List Int)) : Res Unit Bool := Res.bind (Res.noex (m_law_row x_found)) fun y1 => if y1 = true then .ok (decide (x_found = x_due)) else .ok false
def sp_law_same (T : Cs) (K : PySem.W.Frag) : Sp := fun vs H Q E => ∃ (A : Hp) (R : List Hp) (v_found : V) (x_found : (List Int)) (v_due : V) (x_due : (List Int)), vs = [v_found, v_due] ∧ St H (A :: R) ∧ Is A v_found x_found ∧ Is A v_due x_due ∧ (m_law_same x_found x_due).wp (fun y => ∀ (A' H' : Hp) , Same A A' → St H' (A' :: R) → Q (.bl y) H') (fun _ _ => False)
def rd_law_same (T : Cs) (K : PySem.W.Frag) (E : XK) : TS := (tRet (tAndV (tCall (sp_law_row T K) [] E0 (tCons (tVar 0) tNil)) (tOp (rEqD K) (tVar 0) (tVar 1))))
theorem wk_law_same {T : Cs} {K : PySem.W.Frag} {vs : List V} {H : Hp} {Q : VK} {E : XK}  (h : sp_law_same T K vs H Q E) : rd_law_same T K E { nx := fun _ H' => Q .non H', rt := Q } (L2.start ["_law_found", "_law_due"] vs) H := by
  obtain ⟨A, R, v_found, x_found, v_due, x_due, rfl, S, h_found, h_due, h⟩ := h
  unfold m_law_same at h
  unfold rd_law_same
  have e0 : Same A A := Same.refl _
  refine s_ret ?_
  refine c_andV (c_call (c_cons (c_var rfl (c_nil (⟨A, (R), v_found, x_found, rfl, S, h_found, ?_⟩)))))
  refine Res.wp_mono (Res.wp_noex (Res.wp_bind h)) (fun y1 h A2 H3 e4 S5 => ?_) (fun _ _ h => h.elim)
  have e0 := e0.trans e4
  have h_found := up h_found e4
  have h_due := up h_due e4
  refine c_bl (?_)
  refine c_if h (fun hc h => ?_) (fun hc h => ?_)
  ·
    refine c_op (c_var rfl (c_var rfl (c_eqD (α := (List Int)) (x := x_found) (y := x_due) (dp_of S5 h_found) (dp_of S5 h_due) (Nat.le_of_ble_eq_true rfl) (?_))))
    exact h (A2) (H3) e0 S5 
  ·
    exact h (A2) (H3) e0 S5 
abbrev s_law_same : Stmt := topS 45
theorem sc_law_same : FnScope ["_law_found", "_law_due"] ["_law_found", "_law_due"] (defScope s_law_same) := ⟨rfl, rfl, rfl, by decide +kernel, rfl, by decide +kernel, by decide +kernel⟩
theorem ok_law_same {P : Program} {w : World} {K : PySem.W.Frag} {mg : Str → Option Value} {base : Heap} {T : Cs} {f : Addr} {fd : FuncData} {f_law_row : Addr} {fd_law_row : FuncData} (F : Fun K "_law_same" "_law_same" s_law_same f fd) (bi : Bi mg) (G_law_row : Glob P w K mg base CX0 2 "_law_row" ["_law_found"] (sp_law_row T K) f_law_row fd_law_row)   : FnOk P w K mg base CX0 3 f fd ["_law_found", "_law_due"] (sp_law_same T K) := by
  refine F.ok sc_law_same (fun vs H Q E h => ?_) (fun cdv A outer s H vs Q E hr h => ⟨rd_law_same T K E, ?_, wk_law_same  h⟩)
  · obtain ⟨_, _, _, _, _, _, rfl, _⟩ := h
    rfl
  · exact (pss_one (ps_ret (pe_and (pe_call G_law_row.ok (hr.mono (Nat.le_of_ble_eq_true rfl)) (by rfl) G_law_row.g G_law_row.kp G_law_row.b .nil pass0 (pa_cons (pv 0) pa_nil)) (pe_one (pe_cmpR (op_eqD hr.units) (pv 0) (pv 1) (nomark _))))))
@[irreducible] def m_Body_coming {t : Bool} (x_self : (FS t)) : Res Unit Int := .ok x_self.after
def sp_Body_coming (t : Bool) (T : Cs) (K : PySem.W.Frag) : Sp := fun vs H Q E => ∃ (A : Hp) (R : List Hp) (m_self : Hp) (v_self : V) (x_self : (FS t)), vs = [v_self] ∧ St H (A :: m_self :: R) ∧ Ob.isAt T A m_self v_self x_self ∧ (m_Body_coming x_self).wp (fun y => ∀ (A' H' : Hp) , Same A A' → St H' (A' :: m_self :: R) → Q (.int y) H') (fun _ _ => False)
def rd_Body_coming (t : Bool) (T : Cs) (K : PySem.W.Frag) (E : XK) : TS := (tRet (tFld K (tVar 0) "after"))
theorem wk_Body_coming {t : Bool} {T : Cs} {K : PySem.W.Frag} {vs : List V} {H : Hp} {Q : VK} {E : XK} (kl_t : Kl K (T.cls t) t) (h : sp_Body_coming t T K vs H Q E) : rd_Body_coming t T K E { nx := fun _ H' => Q .non H', rt := Q } (L2.start ["self"] vs) H := by
  obtain ⟨A, R, m_self, v_self, x_self, rfl, S, h_self, h⟩ := h
  unfold m_Body_coming at h
  unfold rd_Body_coming
  have e0 : Same A A := Same.refl _
  refine s_ret ?_
  refine c_fld (c_var rfl (f_after kl_t S h_self (?_)))
  exact h (A) (H) e0 S 
abbrev s_Body_coming : Stmt := inClass (topS 21) 5
theorem sc_Body_coming : FnScope ["self"] ["self"] (defScope s_Body_coming) := ⟨rfl, rfl, rfl, by decide +kernel, rfl, by decide +kernel, by decide +kernel⟩
theorem ok_Body_coming {P : Program} {w : World} {K : PySem.W.Frag} {mg : Str → Option Value} {base : Heap} {T : Cs} {t : Bool} {f : Addr} {fd : FuncData}  (F : Fun K "coming" "Body.coming" s_Body_coming f fd) (bi : Bi mg)   (kl_t : Kl K (T.cls t) t) : FnOk P w K mg base CX0 1 f fd ["self"] (sp_Body_coming t T K) := by
  refine F.ok sc_Body_coming (fun vs H Q E h => ?_) (fun cdv A outer s H vs Q E hr h => ⟨rd_Body_coming t T K E, ?_, wk_Body_coming kl_t h⟩)
  · obtain ⟨_, _, _, _, _, rfl, _⟩ := h
    rfl
  · exact (pss_one (ps_ret (pe_fld (pv 0) rfl)))
@[irreducible] def m_Body_stands {t : Bool} (x_self : (FS t)) (x_cell : Int) : Res Unit Bool := .ok (agt x_self.ranks x_cell).isSome
def sp_Body_stands (t : Bool) (T : Cs) (K : PySem.W.Frag) : Sp := fun vs H Q E => ∃ (A : Hp) (R : List Hp) (m_self : Hp) (v_self : V) (x_self : (FS t)) (x_cell : Int), vs = [v_self, (.int x_cell)] ∧ St H (A :: m_self :: R) ∧ Ob.isAt T A m_self v_self x_self ∧ (m_Body_stands x_self x_cell).wp (fun y => ∀ (A' H' : Hp) , Same A A' → St H' (A' :: m_self :: R) → Q (.bl y) H') (fun _ _ => False)
def rd_Body_stands (t : Bool) (T : Cs) (K : PySem.W.Frag) (E : XK) : TS := (tRet (tDIn (tVar 1) (tFld K (tVar 0) "ranks")))
theorem wk_Body_stands {t : Bool} {T : Cs} {K : PySem.W.Frag} {vs : List V} {H : Hp} {Q : VK} {E : XK} (kl_t : Kl K (T.cls t) t) (h : sp_Body_stands t T K vs H Q E) : rd_Body_stands t T K E { nx := fun _ H' => Q .non H', rt := Q } (L2.start ["self", "cell"] vs) H := by
  obtain ⟨A, R, m_self, v_self, x_self, x_cell, rfl, S, h_self, h⟩ := h
  unfold m_Body_stands at h
  unfold rd_Body_stands
  have e0 : Same A A := Same.refl _
  refine s_ret ?_
  refine c_din (c_var rfl (c_fld (c_var rfl (f_ranks kl_t S h_self fun d1 kv2 hd3 hk4 cap5 => ?_))))
  refine d_in hd3 hk4 (?_)
  exact h (A) (H) e0 S 
abbrev s_Body_stands : Stmt := inClass (topS 21) 1
theorem sc_Body_stands : FnScope ["self", "cell"] ["self", "cell"] (defScope s_Body_stands) := ⟨rfl, rfl, rfl, by decide +kernel, rfl, by decide +kernel, by decide +kernel⟩
theorem ok_Body_stands {P : Program} {w : World} {K : PySem.W.Frag} {mg : Str → Option Value} {base : Heap} {T : Cs} {t : Bool} {f : Addr} {fd : FuncData}  (F : Fun K "stands" "Body.stands" s_Body_stands f fd) (bi : Bi mg)   (kl_t : Kl K (T.cls t) t) : FnOk P w K mg base CX0 1 f fd ["self", "cell"] (sp_Body_stands t T K) := by
  refine F.ok sc_Body_stands (fun vs H Q E h => ?_) (fun cdv A outer s H vs Q E hr h => ⟨rd_Body_stands t T K E, ?_, wk_Body_stands kl_t h⟩)
  · obtain ⟨_, _, _, _, _, _, rfl, _⟩ := h
    rfl
  · exact (pss_one (ps_ret (pe_cmp (pc_din (hu_of hr) (pv 1) (pe_fld (pv 0) rfl)) rfl)))
@[irreducible] def m_law_truth (x_found : Bool) (x_due : Bool) : Res Unit Bool := if true = true then .ok (decide (x_found = x_due)) else .ok false
def sp_law_truth (T : Cs) (K : PySem.W.Frag) : Sp := fun vs H Q E => ∃ (A : Hp) (R : List Hp) (x_found : Bool) (x_due : Bool), vs = [(.bl x_found), (.bl x_due)] ∧ St H (A :: R) ∧ (m_law_truth x_found x_due).wp (fun y => ∀ (A' H' : Hp) , Same A A' → St H' (A' :: R) → Q (.bl y) H') (fun _ _ => False)
def rd_law_truth (T : Cs) (K : PySem.W.Frag) (E : XK) : TS := (tRet (tAndV (tCB (rIsi K) (tCons (tVar 0) (tCons (tC (.ty "bool")) tNil))) (tOp rEq (tVar 0) (tVar 1))))
theorem wk_law_truth {T : Cs} {K : PySem.W.Frag} {vs : List V} {H : Hp} {Q : VK} {E : XK}  (h : sp_law_truth T K vs H Q E) : rd_law_truth T K E { nx := fun _ H' => Q .non H', rt := Q } (L2.start ["_law_found", "_law_due"] vs) H := by
  obtain ⟨A, R, x_found, x_due, rfl, S, h⟩ := h
  unfold m_law_truth at h
  unfold rd_law_truth
  have e0 : Same A A := Same.refl _
  refine s_ret ?_
  refine c_andV (c_cb (c_cons (c_var rfl (c_cons (c_c (c_nil (isi_bool (c_bl (?_)))))))))
  refine c_if h (fun hc h => ?_) (fun hc h => ?_)
  ·
    refine c_op (c_var rfl (c_var rfl (c_eqB (?_))))
    exact h (A) (H) e0 S 
  ·
    exact h (A) (H) e0 S 
abbrev s_law_truth : Stmt := topS 46
theorem sc_law_truth : FnScope ["_law_found", "_law_due"] ["_law_found", "_law_due"] (defScope s_law_truth) := ⟨rfl, rfl, rfl, by decide +kernel, rfl, by decide +kernel, by decide +kernel⟩
theorem ok_law_truth {P : Program} {w : World} {K : PySem.W.Frag} {mg : Str → Option Value} {base : Heap} {T : Cs} {f : Addr} {fd : FuncData}  (F : Fun K "_law_truth" "_law_truth" s_law_truth f fd) (bi : Bi mg)    : FnOk P w K mg base CX0 1 f fd ["_law_found", "_law_due"] (sp_law_truth T K) := by
  refine F.ok sc_law_truth (fun vs H Q E h => ?_) (fun cdv A outer s H vs Q E hr h => ⟨rd_law_truth T K E, ?_, wk_law_truth  h⟩)
  · obtain ⟨_, _, _, _, rfl, _⟩ := h
    rfl
  · exact (pss_one (ps_ret (pe_and (pe_callB call_isi (by rfl) bi.isinstance boot_isinstance (pa_cons (pv 0) (pa_cons (pe_bltn (v := .ty "bool") (by rfl) bi.bool boot_bool rfl) pa_nil))) (pe_one (pe_cmpR op_eq (pv 0) (pv 1) (nomark _))))))
@[irreducible] def m_Body_rank {t : Bool} (x_self : (FS t)) (x_cell : Int) : Res Unit Int := Res.bind (Res.lift (fun w => ()) (m_Body_known x_self [x_cell])) fun y10 => Res.bind (agR x_self.ranks x_cell) fun t20 => .ok t20
def sp_Body_rank (t : Bool) (T : Cs) (K : PySem.W.Frag) : Sp := fun vs H Q E => ∃ (A : Hp) (R : List Hp) (m_self : Hp) (v_self : V) (x_self : (FS t)) (x_cell : Int), vs = [v_self, (.int x_cell)] ∧ St H (A :: m_self :: R) ∧ Ob.isAt T A m_self v_self x_self ∧ (m_Body_rank x_self x_cell).wp (fun y => ∀ (A' H' : Hp) , Same A A' → St H' (A' :: m_self :: R) → Q (.int y) H') (fun e w => ∀ (A' H' : Hp)  (cls : Value) (d : Option Addr), Same A A' → St H' (A' :: m_self :: R) → XA T e cls d A A' → E cls d H')
def rd_Body_rank (t : Bool) (T : Cs) (K : PySem.W.Frag) (E : XK) : TS := (tSeq (tDrop (tMeth (T.cls t) "known" (sp_Body_known t T K) [] E (tVar 0) (tCons (tLst (tCons (tVar 1) tNil)) tNil))) (tRet (tDGet (tFld K (tVar 0) "ranks") (tVar 1))))
theorem wk_Body_rank {t : Bool} {T : Cs} {K : PySem.W.Frag} {vs : List V} {H : Hp} {Q : VK} {E : XK} (kl_t : Kl K (T.cls t) t) (h : sp_Body_rank t T K vs H Q E) : rd_Body_rank t T K E { nx := fun _ H' => Q .non H', rt := Q } (L2.start ["self", "cell"] vs) H := by
  obtain ⟨A, R, m_self, v_self, x_self, x_cell, rfl, S, h_self, h⟩ := h
  unfold m_Body_rank at h
  unfold rd_Body_rank
  have e0 : Same A A := Same.refl _
  refine q_drop ?_
  refine c_met (c_var rfl (f_met S h_self (by decide +kernel) (c_cons (c_tlst (c_cons (c_var rfl (c_nil (c_lst (α := Int) (vs := [(.int x_cell)]) (xs := [x_cell]) (Nat.le_of_ble_eq_true rfl) ⟨rfl, trivial⟩ (ow S fun p1 ws2 H3 S4 h5 => ?_)))))))))
  have h7 := frz_is h5 S4
  have S8 := S4.frz
  have e6 := same_join_l (A := A) (B := (one p1 (.lst ws2)))
  generalize hjA9 : join A (one p1 (.lst ws2)) = A9 at h7 S8 e6
  clear hjA9
  have e0 := e0.trans e6
  have h_self := upO h_self e6
  refine c_nil (⟨A9, (R), m_self, v_self, x_self, (.ref p1), [x_cell], rfl, S8, h_self, h7, ?_⟩)
  refine Res.wp_mono (Res.wp_lift (Res.wp_bind h)) (fun y10 h A11 H12 e13 S14 => ?_) (fun e w he AX HX  cls d eX SX  hx => by
      exact he AX HX  cls d (e0.trans eX) SX  (xa_base e0 hx))
  have e0 := e0.trans e13
  have h_self := upO h_self e13
  refine s_ret ?_
  refine c_dget (c_fld (c_var rfl (f_ranks kl_t S14 h_self fun d15 kv16 hd17 hk18 cap19 => ?_)))
  refine c_var rfl (d_getI hd17 hk18 h fun t20 h => ?_)
  exact h (A11) (H12) e0 S14 
abbrev s_Body_rank : Stmt := inClass (topS 21) 6
theorem sc_Body_rank : FnScope ["self", "cell"] ["self", "cell"] (defScope s_Body_rank) := ⟨rfl, rfl, rfl, by decide +kernel, rfl, by decide +kernel, by decide +kernel⟩
theorem ok_Body_rank {P : Program} {w : World} {K : PySem.W.Frag} {mg : Str → Option Value} {base : Heap} {T : Cs} {t : Bool} {f : Addr} {fd : FuncData} {f_Body_known_t : Addr} {fd_Body_known_t : FuncData} (F : Fun K "rank" "Body.rank" s_Body_rank f fd) (bi : Bi mg) (G_Body_known_t : MGlob P w K mg base (L2.CX P w) 1 (T.cls t) "known" ["self", "row"] (sp_Body_known t T K) f_Body_known_t fd_Body_known_t)  (kl_t : Kl K (T.cls t) t) : FnOk P w K mg base (L2.CX P w) 2 f fd ["self", "cell"] (sp_Body_rank t T K) := by
  refine F.okX sc_Body_rank (fun vs H Q E h => ?_) (fun cdv A outer s H vs Q E hr h => ⟨rd_Body_rank t T K E, ?_, wk_Body_rank kl_t h⟩)
  · obtain ⟨_, _, _, _, _, _, rfl, _⟩ := h
    rfl
  · exact (pss_cons (ps_expr (pe_meth (pv 0) kl_t.cl G_Body_known_t.mt G_Body_known_t.ok (hr.mono (Nat.le_of_ble_eq_true rfl)) G_Body_known_t.b .nil (passes_call (takes_of rfl rfl rfl rfl) (fun _ _ _ _ h => h)) (pa_cons (pe_lst (pa_cons (pv 1) pa_nil)) pa_nil)))
      (pss_one (ps_ret (pe_dget (hu_of hr) (pe_fld (pv 0) rfl) (pv 1) (fun _ _ => rfl)))))
@[irreducible] def m_Body_border {t : Bool} (x_self : (FS t)) (x_cell : Int) : Res Unit (List Int) := Res.bind (Res.lift (fun w => ()) (m_Body_known x_self [x_cell])) fun y10 => Res.bind (agR x_self.edges x_cell) fun t20 => .ok t20
def sp_Body_border (t : Bool) (T : Cs) (K : PySem.W.Frag) : Sp := fun vs H Q E => ∃ (A : Hp) (R : List Hp) (m_self : Hp) (v_self : V) (x_self : (FS t)) (x_cell : Int), vs = [v_self, (.int x_cell)] ∧ St H (A :: m_self :: R) ∧ Ob.isAt T A m_self v_self x_self ∧ (m_Body_border x_self x_cell).wp (fun y => ∀ (A' H' : Hp) (p : Addr) (ws : List V), Same A A' → St H' (A' :: one p (.lst ws) :: m_self :: R) → OL A' ws y → Q (.ref p) H') (fun e w => ∀ (A' H' : Hp)  (cls : Value) (d : Option Addr), Same A A' → St H' (A' :: m_self :: R) → XA T e cls d A A' → E cls d H')
def rd_Body_border (t : Bool) (T : Cs) (K : PySem.W.Frag) (E : XK) : TS := (tSeq (tDrop (tMeth (T.cls t) "known" (sp_Body_known t T K) [] E (tVar 0) (tCons (tLst (tCons (tVar 1) tNil)) tNil))) (tRet (tCB (Evl.rListS K) (tCons (tDGet (tFld K (tVar 0) "edges") (tVar 1)) tNil))))
theorem wk_Body_border {t : Bool} {T : Cs} {K : PySem.W.Frag} {vs : List V} {H : Hp} {Q : VK} {E : XK} (kl_t : Kl K (T.cls t) t) (h : sp_Body_border t T K vs H Q E) : rd_Body_border t T K E { nx := fun _ H' => Q .non H', rt := Q } (L2.start ["self", "cell"] vs) H := by
  obtain ⟨A, R, m_self, v_self, x_self, x_cell, rfl, S, h_self, h⟩ := h
  unfold m_Body_border at h
  unfold rd_Body_border
  have e0 : Same A A := Same.refl _
  refine q_drop ?_
  refine c_met (c_var rfl (f_met S h_self (by decide +kernel) (c_cons (c_tlst (c_cons (c_var rfl (c_nil (c_lst (α := Int) (vs := [(.int x_cell)]) (xs := [x_cell]) (Nat.le_of_ble_eq_true rfl) ⟨rfl, trivial⟩ (ow S fun p1 ws2 H3 S4 h5 => ?_)))))))))
  have h7 := frz_is h5 S4
  have S8 := S4.frz
  have e6 := same_join_l (A := A) (B := (one p1 (.lst ws2)))
  generalize hjA9 : join A (one p1 (.lst ws2)) = A9 at h7 S8 e6
  clear hjA9
  have e0 := e0.trans e6
  have h_self := upO h_self e6
  refine c_nil (⟨A9, (R), m_self, v_self, x_self, (.ref p1), [x_cell], rfl, S8, h_self, h7, ?_⟩)
  refine Res.wp_mono (Res.wp_lift (Res.wp_bind h)) (fun y10 h A11 H12 e13 S14 => ?_) (fun e w he AX HX  cls d eX SX  hx => by
      exact he AX HX  cls d (e0.trans eX) SX  (xa_base e0 hx))
  have e0 := e0.trans e13
  have h_self := upO h_self e13
  refine s_ret ?_
  refine c_cb (c_cons (c_dget (c_fld (c_var rfl (f_edges kl_t S14 h_self fun d15 kv16 hd17 hk18 cap19 => ?_)))))
  refine c_var rfl (d_get hd17 hk18 h fun t20 w21 h22 h => ?_)
  refine c_nil (c_list (la_of S14 h22) (ow S14 fun p23 ws24 H25 S26 h27 => ?_))
  exact h (A11) (H25) (p23) (ws24) e0 S26 h27
abbrev s_Body_border : Stmt := inClass (topS 21) 7
theorem sc_Body_border : FnScope ["self", "cell"] ["self", "cell"] (defScope s_Body_border) := ⟨rfl, rfl, rfl, by decide +kernel, rfl, by decide +kernel, by decide +kernel⟩
theorem ok_Body_border {P : Program} {w : World} {K : PySem.W.Frag} {mg : Str → Option Value} {base : Heap} {T : Cs} {t : Bool} {f : Addr} {fd : FuncData} {f_Body_known_t : Addr} {fd_Body_known_t : FuncData} (F : Fun K "border" "Body.border" s_Body_border f fd) (bi : Bi mg) (G_Body_known_t : MGlob P w K mg base (L2.CX P w) 1 (T.cls t) "known" ["self", "row"] (sp_Body_known t T K) f_Body_known_t fd_Body_known_t)  (kl_t : Kl K (T.cls t) t) : FnOk P w K mg base (L2.CX P w) 2 f fd ["self", "cell"] (sp_Body_border t T K) := by
  refine F.okX sc_Body_border (fun vs H Q E h => ?_) (fun cdv A outer s H vs Q E hr h => ⟨rd_Body_border t T K E, ?_, wk_Body_border kl_t h⟩)
  · obtain ⟨_, _, _, _, _, _, rfl, _⟩ := h
    rfl
  · exact (pss_cons (ps_expr (pe_meth (pv 0) kl_t.cl G_Body_known_t.mt G_Body_known_t.ok (hr.mono (Nat.le_of_ble_eq_true rfl)) G_Body_known_t.b .nil (passes_call (takes_of rfl rfl rfl rfl) (fun _ _ _ _ h => h)) (pa_cons (pe_lst (pa_cons (pv 1) pa_nil)) pa_nil)))
      (pss_one (ps_ret (pe_callTy call_list_of (by rfl) bi.list boot_list (pa_cons (pe_dget (hu_of hr) (pe_fld (pv 0) rfl) (pv 1) (fun _ _ => rfl)) pa_nil)))))
@[irreducible] def m_law_cells_kept_s3 {t : Bool} (x_body : (FS t)) : Res Unit Bool := .ok true
@[irreducible] def m_law_cells_kept_s2 {t : Bool} (x_body : (FS t)) (x_rows_here : (List (Option (Int × (List Int))))) : Res Unit Bool := Res.bind (Res.noex (m_law_here x_rows_here)) fun y91 => Res.bind (forM (β := Bool) (fun z104 (s109 : Unit) => Res.bind (Res.bind (Res.noex (m_Body_rank x_body z104)) fun y136 => Res.bind (ixR x_rows_here z104) fun t141 => Res.bind (getR t141) fun t144 => orR (!(decide (y136 = t144.1))) (Res.bind (Res.noex (m_Body_rank x_body z104)) fun y147 => Res.bind (Res.noex (m_law_whole y147)) fun y152 => .ok (!y152))) fun b128 => if b128 = true then .ok (.ret (false)) else Res.bind (Res.noex (m_Body_border x_body z104)) fun y157 => Res.bind (ixR x_rows_here z104) fun t165 => Res.bind (getR t165) fun t168 => Res.bind (Res.noex (m_law_same y157 t168.2)) fun y175 => if (!y175) = true then .ok (.ret (false)) else .ok (.next ())) y91 ()) fun r180 => (match r180 with | .next s122 => m_law_cells_kept_s3 x_body | .ret y181 => .ok y181)
@[irreducible] def m_law_cells_kept_s1 {t : Bool} (x_body : (FS t)) (x_rows_here : (List (Option (Int × (List Int))))) : Res Unit Bool := Res.bind (Res.bind (rgR (-(1 : Int)) ((x_rows_here.length : Int) + (1 : Int))) fun l => forM (β := Bool) (fun z45 (s50 : Unit) => Res.bind (Res.noex (m_Body_stands x_body z45)) fun y69 => Res.bind (Res.noex (m_law_here x_rows_here)) fun y74 => Res.bind (Res.noex (m_law_truth y69 (decide (z45 ∈ y74)))) fun y82 => if (!y82) = true then .ok (.ret (false)) else .ok (.next ())) l ()) fun r182 => (match r182 with | .next s63 => m_law_cells_kept_s2 x_body x_rows_here | .ret y183 => .ok y183)
@[irreducible] def m_law_cells_kept {t : Bool} (x_body : (FS t)) (x_rows_here : (List (Option (Int × (List Int))))) : Res Unit Bool := Res.bind (Res.bind (Res.noex (m_Body_cells x_body)) fun y9 => Res.bind (Res.noex (m_law_here x_rows_here)) fun y17 => Res.bind (Res.noex (m_law_same y9 y17)) fun y34 => orR (!y34) (Res.bind (Res.noex (m_Body_coming x_body)) fun y39 => .ok (!(decide (y39 = (x_rows_here.length : Int)))))) fun b1 => if b1 = true then .ok false else m_law_cells_kept_s1 x_body x_rows_here
def sp_law_cells_kept (t : Bool) (T : Cs) (K : PySem.W.Frag) : Sp := fun vs H Q E => ∃ (A : Hp) (R : List Hp) (m_body : Hp) (v_body : V) (x_body : (FS t)) (v_rows_here : V) (x_rows_here : (List (Option (Int × (List Int))))), vs = [v_body, v_rows_here] ∧ St H (A :: m_body :: R) ∧ Ob.isAt T A m_body v_body x_body ∧ Is A v_rows_here x_rows_here ∧ (m_law_cells_kept x_body x_rows_here).wp (fun y => ∀ (A' H' : Hp) , Same A A' → St H' (A' :: m_body :: R) → Q (.bl y) H') (fun _ _ => False)
def rd_law_cells_kept_s3 (t : Bool) (T : Cs) (K : PySem.W.Frag) (E : XK) : TS := (tRet (tC (.bl true)))
def rd_law_cells_kept_s2 (t : Bool) (T : Cs) (K : PySem.W.Frag) (E : XK) : TS := (tSeq (tFor (iList K (tCall (sp_law_here T K) [] E0 (tCons (tVar 1) tNil))) (gName 2) (tSeq (tIfS (tOr (tTest (tOp rNe (tMeth (T.cls t) "rank" (sp_Body_rank t T K) [] E0 (tVar 0) (tCons (tVar 2) tNil)) (tOp (rIxT K) (tOp (rIxL K) (tVar 1) (tVar 2)) (tC (.int 0))))) (tNot (tB (tCall (sp_law_whole T K) [] E0 (tCons (tMeth (T.cls t) "rank" (sp_Body_rank t T K) [] E0 (tVar 0) (tCons (tVar 2) tNil)) tNil))))) (tRet (tC (.bl false))) tNext) (tIfS (tNot (tB (tCall (sp_law_same T K) [] E0 (tCons (tMeth (T.cls t) "border" (sp_Body_border t T K) [] E0 (tVar 0) (tCons (tVar 2) tNil)) (tCons (tOp (rIxT K) (tOp (rIxL K) (tVar 1) (tVar 2)) (tC (.int 1))) tNil))))) (tRet (tC (.bl false))) tNext))) (rd_law_cells_kept_s3 t T K E))
def rd_law_cells_kept_s1 (t : Bool) (T : Cs) (K : PySem.W.Frag) (E : XK) : TS := (tSeq (tFor (iRng2 (tCons (tUn (rU fun i => .int (-i)) (tC (.int 1))) (tCons (tOp (rI0 fun i j => .int (i + j)) (tCB (Evl.rLenS K) (tCons (tVar 1) tNil)) (tC (.int 1))) tNil))) (gName 2) (tIfS (tNot (tB (tCall (sp_law_truth T K) [] E0 (tCons (tMeth (T.cls t) "stands" (sp_Body_stands t T K) [] E0 (tVar 0) (tCons (tVar 2) tNil)) (tCons (tOp (rIn K false) (tVar 2) (tCall (sp_law_here T K) [] E0 (tCons (tVar 1) tNil))) tNil))))) (tRet (tC (.bl false))) tNext)) (rd_law_cells_kept_s2 t T K E))
def rd_law_cells_kept (t : Bool) (T : Cs) (K : PySem.W.Frag) (E : XK) : TS := (tSeq (tIfS (tOr (tNot (tB (tCall (sp_law_same T K) [] E0 (tCons (tMeth (T.cls t) "cells" (sp_Body_cells t T K) [] E0 (tVar 0) tNil) (tCons (tCall (sp_law_here T K) [] E0 (tCons (tVar 1) tNil)) tNil))))) (tTest (tOp rNe (tMeth (T.cls t) "coming" (sp_Body_coming t T K) [] E0 (tVar 0) tNil) (tCB (Evl.rLenS K) (tCons (tVar 1) tNil))))) (tRet (tC (.bl false))) tNext) (rd_law_cells_kept_s1 t T K E))
theorem wk_law_cells_kept_s3 {t : Bool} {T : Cs} {K : PySem.W.Frag} {A AS HS : Hp} {R : List Hp} {Q : VK} {E : XK} {x_body : (FS t)} {m_body : Hp} {v_body : V} {o1 : Option V} {o2 : Option V}  (e0 : Same A AS) (S : St HS (AS :: m_body :: R)) (h_body : Ob.isAt T AS m_body v_body x_body) (h : (m_law_cells_kept_s3 x_body).wp (fun y => ∀ (A' H' : Hp) , Same A A' → St H' (A' :: m_body :: R) → Q (.bl y) H') (fun _ _ => False)) : rd_law_cells_kept_s3 t T K E { nx := fun _ H' => Q .non H', rt := Q } [some v_body, o1, o2] HS := by
  unfold m_law_cells_kept_s3 at h
  unfold rd_law_cells_kept_s3
  refine s_ret ?_
  refine c_c (?_)
  exact h (AS) (HS) e0 S 
theorem wk_law_cells_kept_s2 {t : Bool} {T : Cs} {K : PySem.W.Frag} {A AS HS : Hp} {R : List Hp} {Q : VK} {E : XK} {x_body : (FS t)} {m_body : Hp} {v_body : V} {x_rows_here : (List (Option (Int × (List Int))))} {v_rows_here : V} {o2 : Option V} (kl_t : Kl K (T.cls t) t) (e0 : Same A AS) (S : St HS (AS :: m_body :: R)) (h_body : Ob.isAt T AS m_body v_body x_body) (h_rows_here : Is AS v_rows_here x_rows_here) (h : (m_law_cells_kept_s2 x_body x_rows_here).wp (fun y => ∀ (A' H' : Hp) , Same A A' → St H' (A' :: m_body :: R) → Q (.bl y) H') (fun _ _ => False)) : rd_law_cells_kept_s2 t T K E { nx := fun _ H' => Q .non H', rt := Q } [some v_body, some v_rows_here, o2] HS := by
  unfold m_law_cells_kept_s2 at h
  unfold rd_law_cells_kept_s2
  refine q_forL ?_
  refine c_call (c_cons (c_var rfl (c_nil (⟨AS, (m_body :: R), v_rows_here, x_rows_here, rfl, S, h_rows_here, ?_⟩))))
  refine Res.wp_mono (Res.wp_noex (Res.wp_bind h)) (fun y91 h A92 H93 p96 ws97 e94 S95 h98 => ?_) (fun _ _ h => h.elim)
  have e0 := e0.trans e94
  have h_body := upO h_body e94
  have h_rows_here := up h_rows_here e94
  have h100 := frz_is h98 S95
  have S101 := S95.frz
  have e99 := same_join_l (A := A92) (B := (one p96 (.lst ws97)))
  generalize hjA102 : join A92 (one p96 (.lst ws97)) = A102 at h100 S101 e99
  clear hjA102
  have e0 := e0.trans e99
  have h_body := upO h_body e99
  have h_rows_here := up h_rows_here e99
  refine c_forL (A := A102) (s0 := ()) (fun (A_ : Hp) (σ_ : L2.St) (R_ : List Hp) (s : Unit) => ∃ (y_cell103 : Option V), σ_ = [some v_body, some v_rows_here, y_cell103] ∧ m_body :: R = R_) S101 (fun Q' q => q) h100 ⟨_, rfl, rfl⟩ h (fun z104 w105 A106 H107 σ118 R108 s109 C110 N111 hz112 e113 S114 h115 hR116 hN117 h => ?_) (fun A119 H120 σ126 R121 s122 e123 S124 hR125 h => ?_)
  ·
    have eL127 : Same A102 A102 := Same.refl _
    obtain ⟨y_cell103, rfl, rfl⟩ := hR116
    have e0 := e0.trans e113
    have eL127 := eL127.trans e113
    have h_body := upO h_body e113
    have h_rows_here := up h_rows_here e113
    obtain rfl : w105 = (.int z104) := h115
    refine q_when ?_
    refine q_test (A := A106) (R := m_body :: R) h (fun Qb130 hk129 h => ?_) (fun b128 A131 H132 e133 S134 h => ?_)
    ·
      have eT135 : Same A106 A106 := Same.refl _
      refine c_or ?_
      refine c_tst (c_op (c_met (c_var rfl (f_met S114 h_body (by decide +kernel) (c_cons (c_var rfl (c_nil (⟨A106, (R), m_body, v_body, x_body, z104, rfl, S114, h_body, ?_⟩))))))))
      refine Res.wp_mono (Res.wp_noex (Res.wp_bind h)) (fun y136 h A137 H138 e139 S140 => ?_) (fun _ _ h => h.elim)
      have e0 := e0.trans e139
      have eL127 := eL127.trans e139
      have eT135 := eT135.trans e139
      have h_body := upO h_body e139
      have h_rows_here := up h_rows_here e139
      refine c_op (c_op (c_var rfl (c_var rfl (c_ix (la_of S140 h_rows_here) h fun t141 w142 h143 h => ?_))))
      refine c_c (c_ixO0 S140 h143 h fun t144 w145 h146 h => ?_)
      obtain rfl : w145 = (.int t144.1) := h146
      refine c_neI (c_bl (?_))
      refine c_orR h (fun hc h => ?_) (fun hc h => ?_)
      ·
        exact hk129 _ _ _ eT135 S140 h
      ·
        refine c_not (b := true) (c_tb (c_call (c_cons (c_met (c_var rfl (f_met S140 h_body (by decide +kernel) (c_cons (c_var rfl (c_nil (⟨A137, (R), m_body, v_body, x_body, z104, rfl, S140, h_body, ?_⟩))))))))))
        refine Res.wp_mono (Res.wp_noex (Res.wp_bind h)) (fun y147 h A148 H149 e150 S151 => ?_) (fun _ _ h => h.elim)
        have e0 := e0.trans e150
        have eL127 := eL127.trans e150
        have eT135 := eT135.trans e150
        have h_body := upO h_body e150
        have h_rows_here := up h_rows_here e150
        refine c_nil (⟨A148, (m_body :: R), y147, rfl, S151, ?_⟩)
        refine Res.wp_mono (Res.wp_noex (Res.wp_bind h)) (fun y152 h A153 H154 e155 S156 => ?_) (fun _ _ h => h.elim)
        have e0 := e0.trans e155
        have eL127 := eL127.trans e155
        have eT135 := eT135.trans e155
        have h_body := upO h_body e155
        have h_rows_here := up h_rows_here e155
        refine c_bl (?_)
        exact hk129 _ _ _ eT135 S156 h
    ·
      have e0 := e0.trans e133
      have eL127 := eL127.trans e133
      have h_body := upO h_body e133
      have h_rows_here := up h_rows_here e133
      refine c_if h (fun hc h => ?_) (fun hc h => ?_)
      ·
        refine s_ret ?_
        refine c_c (?_)
        exact h (A131) (H132) e0 S134 
      ·
        refine s_when ?_
        refine c_not (b := true) (c_tb (c_call (c_cons (c_met (c_var rfl (f_met S134 h_body (by decide +kernel) (c_cons (c_var rfl (c_nil (⟨A131, (R), m_body, v_body, x_body, z104, rfl, S134, h_body, ?_⟩))))))))))
        refine Res.wp_mono (Res.wp_noex (Res.wp_bind h)) (fun y157 h A158 H159 p162 ws163 e160 S161 h164 => ?_) (fun _ _ h => h.elim)
        have e0 := e0.trans e160
        have eL127 := eL127.trans e160
        have h_body := upO h_body e160
        have h_rows_here := up h_rows_here e160
        refine c_cons (c_op (c_op (c_var rfl (c_var rfl (c_ix (la_of S161 h_rows_here) h fun t165 w166 h167 h => ?_)))))
        refine c_c (c_ixO1 S161 h167 h fun t168 w169 h170 h => ?_)
        have h172 := frz_is h164 S161
        have S173 := S161.frz
        have e171 := same_join_l (A := A158) (B := (one p162 (.lst ws163)))
        generalize hjA174 : join A158 (one p162 (.lst ws163)) = A174 at h172 S173 e171
        clear hjA174
        have e0 := e0.trans e171
        have eL127 := eL127.trans e171
        have h_body := upO h_body e171
        have h_rows_here := up h_rows_here e171
        have h170 := up h170 e171
        refine c_nil (⟨A174, (m_body :: R), (.ref p162), y157, w169, t168.2, rfl, S173, h172, h170, ?_⟩)
        refine Res.wp_mono (Res.wp_noex (Res.wp_bind h)) (fun y175 h A176 H177 e178 S179 => ?_) (fun _ _ h => h.elim)
        have e0 := e0.trans e178
        have eL127 := eL127.trans e178
        have h_body := upO h_body e178
        have h_rows_here := up h_rows_here e178
        refine c_bl (?_)
        refine c_if h (fun hc h => ?_) (fun hc h => ?_)
        ·
          refine s_ret ?_
          refine c_c (?_)
          exact h (A176) (H177) e0 S179 
        ·
          exact hN117 _ _ _ _ () eL127 S179 ⟨_, rfl, rfl⟩ h
  ·
    refine nx_mk ?_
    obtain ⟨y_cell103, rfl, rfl⟩ := hR125
    have e0 := e0.trans e123
    have h_body := upO h_body e123
    have h_rows_here := up h_rows_here e123
    exact wk_law_cells_kept_s3 (T := T) (K := K) (E := E)  e0 S124 h_body h
theorem wk_law_cells_kept_s1 {t : Bool} {T : Cs} {K : PySem.W.Frag} {A AS HS : Hp} {R : List Hp} {Q : VK} {E : XK} {x_body : (FS t)} {m_body : Hp} {v_body : V} {x_rows_here : (List (Option (Int × (List Int))))} {v_rows_here : V} {o2 : Option V} (kl_t : Kl K (T.cls t) t) (e0 : Same A AS) (S : St HS (AS :: m_body :: R)) (h_body : Ob.isAt T AS m_body v_body x_body) (h_rows_here : Is AS v_rows_here x_rows_here) (h : (m_law_cells_kept_s1 x_body x_rows_here).wp (fun y => ∀ (A' H' : Hp) , Same A A' → St H' (A' :: m_body :: R) → Q (.bl y) H') (fun _ _ => False)) : rd_law_cells_kept_s1 t T K E { nx := fun _ H' => Q .non H', rt := Q } [some v_body, some v_rows_here, o2] HS := by
  unfold m_law_cells_kept_s1 at h
  unfold rd_law_cells_kept_s1
  refine q_forR2 ?_
  refine c_cons (c_un (c_c (c_U (c_cons (c_op (c_cb (c_cons (c_var rfl (c_nil (c_len (la_of S h_rows_here) (c_c (c_I0 (c_nil (?_))))))))))))))
  refine c_forR2 (A := AS) (s0 := ()) (fun (A_ : Hp) (σ_ : L2.St) (R_ : List Hp) (s : Unit) => ∃ (y_cell44 : Option V), σ_ = [some v_body, some v_rows_here, y_cell44] ∧ m_body :: R = R_) S (fun Q' q => q) ⟨_, rfl, rfl⟩ h (fun z45 A47 H48 σ59 R49 s50 C51 N52 hz53a hz53b e54 S55 hR57 hN58 h => ?_) (fun A60 H61 σ67 R62 s63 e64 S65 hR66 h => ?_)
  ·
    have eL68 : Same AS AS := Same.refl _
    obtain ⟨y_cell44, rfl, rfl⟩ := hR57
    have e0 := e0.trans e54
    have eL68 := eL68.trans e54
    have h_body := upO h_body e54
    have h_rows_here := up h_rows_here e54
    refine s_when ?_
    refine c_not (b := true) (c_tb (c_call (c_cons (c_met (c_var rfl (f_met S55 h_body (by decide +kernel) (c_cons (c_var rfl (c_nil (⟨A47, (R), m_body, v_body, x_body, z45, rfl, S55, h_body, ?_⟩))))))))))
    refine Res.wp_mono (Res.wp_noex (Res.wp_bind h)) (fun y69 h A70 H71 e72 S73 => ?_) (fun _ _ h => h.elim)
    have e0 := e0.trans e72
    have eL68 := eL68.trans e72
    have h_body := upO h_body e72
    have h_rows_here := up h_rows_here e72
    refine c_cons (c_op (c_var rfl (c_call (c_cons (c_var rfl (c_nil (⟨A70, (m_body :: R), v_rows_here, x_rows_here, rfl, S73, h_rows_here, ?_⟩)))))))
    refine Res.wp_mono (Res.wp_noex (Res.wp_bind h)) (fun y74 h A75 H76 p79 ws80 e77 S78 h81 => ?_) (fun _ _ h => h.elim)
    have e0 := e0.trans e77
    have eL68 := eL68.trans e77
    have h_body := upO h_body e77
    have h_rows_here := up h_rows_here e77
    refine c_in ⟨_, _, rfl, (S78.mem _ (List.mem_of_getElem? (i := 1) rfl)) _ _ one_same, h81⟩ (c_nil (⟨A75, ((one p79 (.lst ws80)) :: m_body :: R), y69, (decide (z45 ∈ y74)), rfl, S78, ?_⟩))
    refine Res.wp_mono (Res.wp_noex (Res.wp_bind h)) (fun y82 h A83 H84 e85 S86 => ?_) (fun _ _ h => h.elim)
    have e0 := e0.trans e85
    have eL68 := eL68.trans e85
    have h_body := upO h_body e85
    have h_rows_here := up h_rows_here e85
    refine c_bl (?_)
    refine c_if h (fun hc h => ?_) (fun hc h => ?_)
    ·
      refine s_ret ?_
      refine c_c (?_)
      have S87 : St H84 (A83 :: m_body :: (one p79 (.lst ws80)) :: R) := S86.pick 1 (Nat.le_of_ble_eq_true rfl)
      have S88 : St H84 (A83 :: m_body :: R) := S87.drop 1 (Nat.le_of_ble_eq_true rfl)
      exact h (A83) (H84) e0 S88 
    ·
      have S89 : St H84 (A83 :: m_body :: (one p79 (.lst ws80)) :: R) := S86.pick 1 (Nat.le_of_ble_eq_true rfl)
      have S90 : St H84 (A83 :: m_body :: R) := S89.drop 1 (Nat.le_of_ble_eq_true rfl)
      exact hN58 _ _ _ _ () eL68 S90 ⟨_, rfl, rfl⟩ h
  ·
    refine nx_mk ?_
    obtain ⟨y_cell44, rfl, rfl⟩ := hR66
    have e0 := e0.trans e64
    have h_body := upO h_body e64
    have h_rows_here := up h_rows_here e64
    exact wk_law_cells_kept_s2 (T := T) (K := K) (E := E) kl_t e0 S65 h_body h_rows_here h
theorem wk_law_cells_kept {t : Bool} {T : Cs} {K : PySem.W.Frag} {vs : List V} {H : Hp} {Q : VK} {E : XK} (kl_t : Kl K (T.cls t) t) (h : sp_law_cells_kept t T K vs H Q E) : rd_law_cells_kept t T K E { nx := fun _ H' => Q .non H', rt := Q } (L2.start ["_law_body", "_law_rows_here", "_law_cell"] vs) H := by
  obtain ⟨A, R, m_body, v_body, x_body, v_rows_here, x_rows_here, rfl, S, h_body, h_rows_here, h⟩ := h
  unfold m_law_cells_kept at h
  unfold rd_law_cells_kept
  have e0 : Same A A := Same.refl _
  refine q_when ?_
  refine q_test (A := A) (R := m_body :: R) h (fun Qb3 hk2 h => ?_) (fun b1 A4 H5 e6 S7 h => ?_)
  ·
    have eT8 : Same A A := Same.refl _
    refine c_or ?_
    refine c_not (b := true) (c_tb (c_call (c_cons (c_met (c_var rfl (f_met S h_body (by decide +kernel) (c_nil (⟨A, (R), m_body, v_body, x_body, rfl, S, h_body, ?_⟩))))))))
    refine Res.wp_mono (Res.wp_noex (Res.wp_bind h)) (fun y9 h A10 H11 p14 ws15 e12 S13 h16 => ?_) (fun _ _ h => h.elim)
    have e0 := e0.trans e12
    have eT8 := eT8.trans e12
    have h_body := upO h_body e12
    have h_rows_here := up h_rows_here e12
    refine c_cons (c_call (c_cons (c_var rfl (c_nil (⟨A10, ((one p14 (.lst ws15)) :: m_body :: R), v_rows_here, x_rows_here, rfl, S13, h_rows_here, ?_⟩)))))
    refine Res.wp_mono (Res.wp_noex (Res.wp_bind h)) (fun y17 h A18 H19 p22 ws23 e20 S21 h24 => ?_) (fun _ _ h => h.elim)
    have e0 := e0.trans e20
    have eT8 := eT8.trans e20
    have h_body := upO h_body e20
    have h_rows_here := up h_rows_here e20
    have h16 := OL.up h16 e20
    have S25 : St H19 (A18 :: (one p14 (.lst ws15)) :: (one p22 (.lst ws23)) :: m_body :: R) := S21.pick 1 (Nat.le_of_ble_eq_true rfl)
    have h27 := frz_is h16 S25
    have S28 := S25.frz
    have e26 := same_join_l (A := A18) (B := (one p14 (.lst ws15)))
    generalize hjA29 : join A18 (one p14 (.lst ws15)) = A29 at h27 S28 e26
    clear hjA29
    have e0 := e0.trans e26
    have eT8 := eT8.trans e26
    have h_body := upO h_body e26
    have h_rows_here := up h_rows_here e26
    have h24 := OL.up h24 e26
    have h31 := frz_is h24 S28
    have S32 := S28.frz
    have e30 := same_join_l (A := A29) (B := (one p22 (.lst ws23)))
    generalize hjA33 : join A29 (one p22 (.lst ws23)) = A33 at h31 S32 e30
    clear hjA33
    have e0 := e0.trans e30
    have eT8 := eT8.trans e30
    have h_body := upO h_body e30
    have h_rows_here := up h_rows_here e30
    have h27 := up h27 e30
    refine c_nil (⟨A33, (m_body :: R), (.ref p14), y9, (.ref p22), y17, rfl, S32, h27, h31, ?_⟩)
    refine Res.wp_mono (Res.wp_noex (Res.wp_bind h)) (fun y34 h A35 H36 e37 S38 => ?_) (fun _ _ h => h.elim)
    have e0 := e0.trans e37
    have eT8 := eT8.trans e37
    have h_body := upO h_body e37
    have h_rows_here := up h_rows_here e37
    refine c_bl (?_)
    refine c_orR h (fun hc h => ?_) (fun hc h => ?_)
    ·
      exact hk2 _ _ _ eT8 S38 h
    ·
      refine c_tst (c_op (c_met (c_var rfl (f_met S38 h_body (by decide +kernel) (c_nil (⟨A35, (R), m_body, v_body, x_body, rfl, S38, h_body, ?_⟩))))))
      refine Res.wp_mono (Res.wp_noex (Res.wp_bind h)) (fun y39 h A40 H41 e42 S43 => ?_) (fun _ _ h => h.elim)
      have e0 := e0.trans e42
      have eT8 := eT8.trans e42
      have h_body := upO h_body e42
      have h_rows_here := up h_rows_here e42
      refine c_cb (c_cons (c_var rfl (c_nil (c_len (la_of S43 h_rows_here) (c_neI (c_bl (?_)))))))
      exact hk2 _ _ _ eT8 S43 h
  ·
    have e0 := e0.trans e6
    have h_body := upO h_body e6
    have h_rows_here := up h_rows_here e6
    refine c_if h (fun hc h => ?_) (fun hc h => ?_)
    ·
      refine s_ret ?_
      refine c_c (?_)
      exact h (A4) (H5) e0 S7 
    ·
      exact wk_law_cells_kept_s1 (T := T) (K := K) (E := E) kl_t e0 S7 h_body h_rows_here h
abbrev s_law_cells_kept : Stmt := topS 47
theorem sc_law_cells_kept : FnScope ["_law_body", "_law_rows_here", "_law_cell"] ["_law_body", "_law_rows_here"] (defScope s_law_cells_kept) := ⟨rfl, rfl, rfl, by decide +kernel, rfl, by decide +kernel, by decide +kernel⟩
theorem ok_law_cells_kept {P : Program} {w : World} {K : PySem.W.Frag} {mg : Str → Option Value} {base : Heap} {T : Cs} {t : Bool} {f : Addr} {fd : FuncData} {f_Body_cells_t : Addr} {fd_Body_cells_t : FuncData} {f_law_here : Addr} {fd_law_here : FuncData} {f_law_same : Addr} {fd_law_same : FuncData} {f_Body_coming_t : Addr} {fd_Body_coming_t : FuncData} {f_Body_stands_t : Addr} {fd_Body_stands_t : FuncData} {f_law_truth : Addr} {fd_law_truth : FuncData} {f_Body_rank_t : Addr} {fd_Body_rank_t : FuncData} {f_law_whole : Addr} {fd_law_whole : FuncData} {f_Body_border_t : Addr} {fd_Body_border_t : FuncData} (F : Fun K "_law_cells_kept" "_law_cells_kept" s_law_cells_kept f fd) (bi : Bi mg) (G_Body_cells_t : MGlob P w K mg base CX0 1 (T.cls t) "cells" ["self"] (sp_Body_cells t T K) f_Body_cells_t fd_Body_cells_t) (G_law_here : Glob P w K mg base CX0 1 "_law_here" ["_law_rows_here"] (sp_law_here T K) f_law_here fd_law_here) (G_law_same : Glob P w K mg base CX0 3 "_law_same" ["_law_found", "_law_due"] (sp_law_same T K) f_law_same fd_law_same) (G_Body_coming_t : MGlob P w K mg base CX0 1 (T.cls t) "coming" ["self"] (sp_Body_coming t T K) f_Body_coming_t fd_Body_coming_t) (G_Body_stands_t : MGlob P w K mg base CX0 1 (T.cls t) "stands" ["self", "cell"] (sp_Body_stands t T K) f_Body_stands_t fd_Body_stands_t) (G_law_truth : Glob P w K mg base CX0 1 "_law_truth" ["_law_found", "_law_due"] (sp_law_truth T K) f_law_truth fd_law_truth) (G_Body_rank_t : MGlob P w K mg base (L2.CX P w) 2 (T.cls t) "rank" ["self", "cell"] (sp_Body_rank t T K) f_Body_rank_t fd_Body_rank_t) (G_law_whole : Glob P w K mg base CX0 1 "_law_whole" ["_law_found"] (sp_law_whole T K) f_law_whole fd_law_whole) (G_Body_border_t : MGlob P w K mg base (L2.CX P w) 2 (T.cls t) "border" ["self", "cell"] (sp_Body_border t T K) f_Body_border_t fd_Body_border_t)  (kl_t : Kl K (T.cls t) t) : FnOk P w K mg base CX0 4 f fd ["_law_body", "_law_rows_here"] (sp_law_cells_kept t T K) := by
  refine F.ok sc_law_cells_kept (fun vs H Q E h => ?_) (fun cdv A outer s H vs Q E hr h => ⟨rd_law_cells_kept t T K E, ?_, wk_law_cells_kept kl_t h⟩)
  · obtain ⟨_, _, _, _, _, _, _, rfl, _⟩ := h
    rfl
  · exact (pss_cons (ps_if (PW.pt (pw_or (pt_not (pt_val (pe_call G_law_same.ok (hr.mono (Nat.le_of_ble_eq_true rfl)) (by rfl) G_law_same.g G_law_same.kp G_law_same.b .nil pass0 (pa_cons (pe_meth0 (pv 0) kl_t.cl G_Body_cells_t.mt G_Body_cells_t.ok (hr.mono (Nat.le_of_ble_eq_true rfl)) G_Body_cells_t.b .nil pass0 ) (pa_cons (pe_call G_law_here.ok (hr.mono (Nat.le_of_ble_eq_true rfl)) (by rfl) G_law_here.g G_law_here.kp G_law_here.b .nil pass0 (pa_cons (pv 1) pa_nil)) pa_nil))))) (pw_or1 (pt_cmpR op_ne (pe_meth0 (pv 0) kl_t.cl G_Body_coming_t.mt G_Body_coming_t.ok (hr.mono (Nat.le_of_ble_eq_true rfl)) G_Body_coming_t.b .nil pass0 ) (pe_callB call_len_seq (by rfl) bi.len PySem.boot_len (pa_cons (pv 1) pa_nil)) (nomark _))))) (pss_one (ps_ret pe_bl)) pss_nil)
      (pss_cons (ps_for PassesOwn.never rfl (pi_range2 (by rfl) bi.range (pa_cons (pe_un un_neg pe_int) (pa_cons (pe_op op_add (pe_callB call_len_seq (by rfl) bi.len PySem.boot_len (pa_cons (pv 1) pa_nil)) pe_int) pa_nil))) (pg_name (i := 2) sc_law_cells_kept.nd rfl (Or.inl rfl)) (pss_one (ps_if (pt_not (pt_val (pe_call G_law_truth.ok (hr.mono (Nat.le_of_ble_eq_true rfl)) (by rfl) G_law_truth.g G_law_truth.kp G_law_truth.b .nil pass0 (pa_cons (pe_meth (pv 0) kl_t.cl G_Body_stands_t.mt G_Body_stands_t.ok (hr.mono (Nat.le_of_ble_eq_true rfl)) G_Body_stands_t.b .nil pass0 (pa_cons (pv 2) pa_nil)) (pa_cons (pe_cmpR op_in_seq (pv 2) (pe_call G_law_here.ok (hr.mono (Nat.le_of_ble_eq_true rfl)) (by rfl) G_law_here.g G_law_here.kp G_law_here.b .nil pass0 (pa_cons (pv 1) pa_nil)) rfl) pa_nil))))) (pss_one (ps_ret pe_bl)) pss_nil)))
      (pss_cons (ps_for PassesOwn.never rfl (pi_list (pe_call G_law_here.ok (hr.mono (Nat.le_of_ble_eq_true rfl)) (by rfl) G_law_here.g G_law_here.kp G_law_here.b .nil pass0 (pa_cons (pv 1) pa_nil))) (pg_name (i := 2) sc_law_cells_kept.nd rfl (Or.inl rfl)) (pss_cons (ps_if (PW.pt (pw_or (pt_cmpR op_ne (pe_meth (pv 0) kl_t.cl G_Body_rank_t.mt G_Body_rank_t.ok (hr.mono (Nat.le_of_ble_eq_true rfl)) G_Body_rank_t.b .nil passL (pa_cons (pv 2) pa_nil)) (pe_ix ix_tup (pe_ix ix_list (pv 1) (pv 2) (fun _ _ => rfl)) pe_int (fun _ _ => rfl)) (nomark _)) (pw_or1 (pt_not (pt_val (pe_call G_law_whole.ok (hr.mono (Nat.le_of_ble_eq_true rfl)) (by rfl) G_law_whole.g G_law_whole.kp G_law_whole.b .nil pass0 (pa_cons (pe_meth (pv 0) kl_t.cl G_Body_rank_t.mt G_Body_rank_t.ok (hr.mono (Nat.le_of_ble_eq_true rfl)) G_Body_rank_t.b .nil passL (pa_cons (pv 2) pa_nil)) pa_nil))))))) (pss_one (ps_ret pe_bl)) pss_nil)
      (pss_one (ps_if (pt_not (pt_val (pe_call G_law_same.ok (hr.mono (Nat.le_of_ble_eq_true rfl)) (by rfl) G_law_same.g G_law_same.kp G_law_same.b .nil pass0 (pa_cons (pe_meth (pv 0) kl_t.cl G_Body_border_t.mt G_Body_border_t.ok (hr.mono (Nat.le_of_ble_eq_true rfl)) G_Body_border_t.b .nil passL (pa_cons (pv 2) pa_nil)) (pa_cons (pe_ix ix_tup (pe_ix ix_list (pv 1) (pv 2) (fun _ _ => rfl)) pe_int (fun _ _ => rfl)) pa_nil))))) (pss_one (ps_ret pe_bl)) pss_nil))))
      (pss_one (ps_ret pe_bl)))))
@[irreducible] def m_Field_tails (x_self : (FS true)) : Res Unit (List Int) := Res.bind (keysR x_self.ahead) fun t6 => Res.bind (.ok (sortI t6)) fun t12 => .ok t12
def sp_Field_tails (T : Cs) (K : PySem.W.Frag) : Sp := fun vs H Q E => ∃ (A : Hp) (R : List Hp) (m_self : Hp) (v_self : V) (x_self : (FS true)), vs = [v_self] ∧ St H (A :: m_self :: R) ∧ Ob.isAt T A m_self v_self x_self ∧ (m_Field_tails x_self).wp (fun y => ∀ (A' H' : Hp) (p : Addr) (ws : List V), Same A A' → St H' (A' :: one p (.lst ws) :: m_self :: R) → OL A' ws y → Q (.ref p) H') (fun _ _ => False)
def rd_Field_tails (T : Cs) (K : PySem.W.Frag) (E : XK) : TS := (tRet (tCB (rSortedI K) (tCons (tCB rListD (tCons (tFld K (tVar 0) "ahead") tNil)) tNil)))
theorem wk_Field_tails {T : Cs} {K : PySem.W.Frag} {vs : List V} {H : Hp} {Q : VK} {E : XK} (kl_true : Kl K (T.cls true) true) (h : sp_Field_tails T K vs H Q E) : rd_Field_tails T K E { nx := fun _ H' => Q .non H', rt := Q } (L2.start ["self"] vs) H := by
  obtain ⟨A, R, m_self, v_self, x_self, rfl, S, h_self, h⟩ := h
  unfold m_Field_tails at h
  unfold rd_Field_tails
  have e0 : Same A A := Same.refl _
  refine s_ret ?_
  refine c_cb (c_cons (c_cb (c_cons (c_fld (c_var rfl (f_ahead kl_true S h_self fun d1 kv2 hd3 hk4 cap5 => ?_))))))
  refine c_nil (d_list hd3 hk4 h fun t6 h => (ow S fun p7 ws8 H9 S10 h11 => ?_))
  refine c_nil (c_sorted ⟨_, _, rfl, (S10.mem _ (List.mem_of_getElem? (i := 1) rfl)) _ _ one_same, h11⟩ h fun t12 h => (ow S10 fun p13 ws14 H15 S16 h17 => ?_))
  have S18 : St H15 (A :: m_self :: (one p13 (.lst ws14)) :: (one p7 (.lst ws8)) :: R) := S16.pick 2 (Nat.le_of_ble_eq_true rfl)
  have S19 : St H15 (A :: (one p13 (.lst ws14)) :: m_self :: (one p7 (.lst ws8)) :: R) := S18.pick 1 (Nat.le_of_ble_eq_true rfl)
  have S20 : St H15 (A :: (one p13 (.lst ws14)) :: m_self :: R) := S19.drop 2 (Nat.le_of_ble_eq_true rfl)
  exact h (A) (H15) (p13) (ws14) e0 S20 h17
abbrev s_Field_tails : Stmt := inClass (topS 23) 6
theorem sc_Field_tails : FnScope ["self"] ["self"] (defScope s_Field_tails) := ⟨rfl, rfl, rfl, by decide +kernel, rfl, by decide +kernel, by decide +kernel⟩
theorem ok_Field_tails {P : Program} {w : World} {K : PySem.W.Frag} {mg : Str → Option Value} {base : Heap} {T : Cs} {f : Addr} {fd : FuncData}  (F : Fun K "tails" "Field.tails" s_Field_tails f fd) (bi : Bi mg)   (kl_true : Kl K (T.cls true) true) : FnOk P w K mg base CX0 1 f fd ["self"] (sp_Field_tails T K) := by
  refine F.ok sc_Field_tails (fun vs H Q E h => ?_) (fun cdv A outer s H vs Q E hr h => ⟨rd_Field_tails T K E, ?_, wk_Field_tails kl_true h⟩)
  · obtain ⟨_, _, _, _, _, rfl, _⟩ := h
    rfl
  · exact (pss_one (ps_ret (pe_callB cr_sortedI (by rfl) bi.sorted boot_sorted (pa_cons (pe_callTy (call_list_dK rfl) (by rfl) bi.list boot_list (pa_cons (pe_fld (pv 0) rfl) pa_nil)) pa_nil))))
@[irreducible] def m_Field_arrows (x_self : (FS true)) : Res Unit (List (Int × Int)) := Res.bind (Res.noex (m_Field_tails x_self)) fun y1 => Res.bind (compG (β := (Int × Int)) (fun z14 (s20 : Unit) => Res.bind (agR x_self.ahead z14) fun t40 => .ok (some (z14, t40), ())) y1 ()) fun y48 => .ok y48.1
def sp_Field_arrows (T : Cs) (K : PySem.W.Frag) : Sp := fun vs H Q E => ∃ (A : Hp) (R : List Hp) (m_self : Hp) (v_self : V) (x_self : (FS true)), vs = [v_self] ∧ St H (A :: m_self :: R) ∧ Ob.isAt T A m_self v_self x_self ∧ (m_Field_arrows x_self).wp (fun y => ∀ (A' H' : Hp) (p : Addr) (ws : List V), Same A A' → St H' (A' :: one p (.lst ws) :: m_self :: R) → OL A' ws y → Q (.ref p) H') (fun _ _ => False)
def rd_Field_arrows (T : Cs) (K : PySem.W.Frag) (E : XK) : TS := (tRet (tLc (iList K (tMeth (T.cls true) "tails" (sp_Field_tails T K) [] E0 (tVar 0) tNil)) (gName 1) tYes (tTup (tCons (tVar 1) (tCons (tDGet (tFld K (tVar 0) "ahead") (tVar 1)) tNil))) [1]))
theorem wk_Field_arrows {T : Cs} {K : PySem.W.Frag} {vs : List V} {H : Hp} {Q : VK} {E : XK} (kl_true : Kl K (T.cls true) true) (h : sp_Field_arrows T K vs H Q E) : rd_Field_arrows T K E { nx := fun _ H' => Q .non H', rt := Q } (L2.start ["self", "x"] vs) H := by
  obtain ⟨A, R, m_self, v_self, x_self, rfl, S, h_self, h⟩ := h
  unfold m_Field_arrows at h
  unfold rd_Field_arrows
  have e0 : Same A A := Same.refl _
  refine s_ret ?_
  refine c_lcE ?_
  refine c_met (c_var rfl (f_met S h_self (by decide +kernel) (c_nil (⟨A, (R), m_self, v_self, x_self, rfl, S, h_self, ?_⟩))))
  refine Res.wp_mono (Res.wp_noex (Res.wp_bind h)) (fun y1 h A2 H3 p6 ws7 e4 S5 h8 => ?_) (fun _ _ h => h.elim)
  have e0 := e0.trans e4
  have h_self := upO h_self e4
  have h10 := frz_is h8 S5
  have S11 := S5.frz
  have e9 := same_join_l (A := A2) (B := (one p6 (.lst ws7)))
  generalize hjA12 : join A2 (one p6 (.lst ws7)) = A12 at h10 S11 e9
  clear hjA12
  have e0 := e0.trans e9
  have h_self := upO h_self e9
  refine c_lcGL (A := A12) (R := m_self :: R) (tt := tYes) (te := (tTup (tCons (tVar 1) (tCons (tDGet (tFld K (tVar 0) "ahead") (tVar 1)) tNil)))) (vs := [1]) (j := 1) (fun (A_ : Hp) (R_ : List Hp) (s : Unit) => m_self :: R = R_) S11 (fun Q' q => q) h10 rfl h (fun _ => rfl) (fun z14 w15 A17 H18 R19 s20 n21 C22 K1_23 K0_24 hz25 e26 S27 hR28 hK29 hK30 h => ?_) (fun p49 A50 H51 R52 ws53 y48 h e54 S55 hR56 h57 => ?_)
  ·
    obtain ⟨hz25, h31⟩ := hz25
    have eC33 : Same A17 A17 := Same.refl _
    obtain rfl := hR28
    have e0 := e0.trans e26
    have h_self := upO h_self e26
    obtain rfl : w15 = (.int z14) := h31
    refine c_yes ?_
    have S34 : St H18 (A17 :: m_self :: n21 :: R) := S27.pick 1 (Nat.le_of_ble_eq_true rfl)
    refine c_ttup (c_cons (c_var rfl (c_cons (c_dget (c_fld (c_var rfl (f_ahead kl_true S34 h_self fun d35 kv36 hd37 hk38 cap39 => ?_)))))))
    refine c_var rfl (d_getI hd37 hk38 h fun t40 h => ?_)
    refine c_nil (c_tup (α := Int) (β := Int) (x := z14) (y := t40) S34 rfl rfl fun p41 A42 H43 e44 S45 h46 => ?_)
    have e0 := e0.trans e44
    have eC33 := eC33.trans e44
    have h_self := upO h_self e44
    have S47 : St H43 (A42 :: n21 :: m_self :: R) := S45.pick 1 (Nat.le_of_ble_eq_true rfl)
    exact hK29 _ _ _ (z14, t40) _ () eC33 S47 rfl h46 h
  ·
    obtain rfl := hR56
    have e0 := e0.trans e54
    have h_self := upO h_self e54
    exact h (A50) (H51) (p49) (ws53) e0 S55 h57
abbrev s_Field_arrows : Stmt := inClass (topS 23) 9
theorem sc_Field_arrows : FnScope ["self", "x"] ["self"] (defScope s_Field_arrows) := ⟨rfl, rfl, rfl, by decide +kernel, rfl, by decide +kernel, by decide +kernel⟩
theorem ok_Field_arrows {P : Program} {w : World} {K : PySem.W.Frag} {mg : Str → Option Value} {base : Heap} {T : Cs} {f : Addr} {fd : FuncData} {f_Field_tails : Addr} {fd_Field_tails : FuncData} (F : Fun K "arrows" "Field.arrows" s_Field_arrows f fd) (bi : Bi mg) (G_Field_tails : MGlob P w K mg base CX0 1 (T.cls true) "tails" ["self"] (sp_Field_tails T K) f_Field_tails fd_Field_tails)  (kl_true : Kl K (T.cls true) true) : FnOk P w K mg base CX0 2 f fd ["self"] (sp_Field_arrows T K) := by
  refine F.ok sc_Field_arrows (fun vs H Q E h => ?_) (fun cdv A outer s H vs Q E hr h => ⟨rd_Field_arrows T K E, ?_, wk_Field_arrows kl_true h⟩)
  · obtain ⟨_, _, _, _, _, rfl, _⟩ := h
    rfl
  · exact (pss_one (ps_ret (pe_lc (own := [("x", 1)]) (g := (gName 1)) (tt := tYes) (te := (tTup (tCons (tVar 1) (tCons (tDGet (tFld K (tVar 0) "ahead") (tVar 1)) tNil)))) rfl sc_Field_arrows.nd (pi_list (pe_meth0 (pv 0) kl_true.cl G_Field_tails.mt G_Field_tails.ok (hr.mono (Nat.le_of_ble_eq_true rfl)) G_Field_tails.b .nil pass0 )) (blkOk_by (own := [("x", 1)]) (N := ["self", "x"]) (sc := defScope s_Field_arrows) (by decide +kernel)) (fun _ _ _ _ _ => pg_name (i := 1) sc_Field_arrows.nd rfl (Or.inl rfl)) (fun _ _ _ _ _ => pts_nil) (fun _ _ _ _ _ => (pe_tup (pa_cons (pv 1) (pa_cons (pe_dget (hu_of hr) (pe_fld (pv 0) rfl) (pv 1) (fun _ _ => rfl)) pa_nil)))))))
@[irreducible] def m_law_pairs_s1 (x_found : (List (Int × Int))) (x_due : (List (Int × Int))) : Res Unit Bool := Res.bind (Res.bind (rgR (0 : Int) (x_due.length : Int)) fun l => forM (β := Bool) (fun z10 (s15 : Unit) => Res.bind (Res.bind (ixR x_found z10) fun t42 => orR (!true) (Res.bind (ixR x_found z10) fun t45 => .ok (!(decide ((2 : Int) = (2 : Int)))))) fun b34 => if b34 = true then .ok (.ret (false)) else Res.bind (Res.bind (ixR x_found z10) fun t56 => Res.bind (Res.noex (m_law_whole t56.1)) fun y62 => orR (!y62) (Res.bind (ixR x_found z10) fun t67 => Res.bind (Res.noex (m_law_whole t67.2)) fun y73 => orR (!y73) (Res.bind (ixR x_found z10) fun t78 => Res.bind (ixR x_due z10) fun t81 => .ok (!(decide (t78 = t81)))))) fun b48 => if b48 = true then .ok (.ret (false)) else .ok (.next ())) l ()) fun r84 => (match r84 with | .next s28 => .ok true | .ret y85 => .ok y85)
@[irreducible] def m_law_pairs (x_found : (List (Int × Int))) (x_due : (List (Int × Int))) : Res Unit Bool := Res.bind (orR (!true) (.ok (!(decide ((x_found.length : Int) = (x_due.length : Int)))))) fun b1 => if b1 = true then .ok false else m_law_pairs_s1 x_found x_due
def sp_law_pairs (T : Cs) (K : PySem.W.Frag) : Sp := fun vs H Q E => ∃ (A : Hp) (R : List Hp) (v_found : V) (x_found : (List (Int × Int))) (v_due : V) (x_due : (List (Int × Int))), vs = [v_found, v_due] ∧ St H (A :: R) ∧ Is A v_found x_found ∧ Is A v_due x_due ∧ (m_law_pairs x_found x_due).wp (fun y => ∀ (A' H' : Hp) , Same A A' → St H' (A' :: R) → Q (.bl y) H') (fun _ _ => False)
def rd_law_pairs_s1 (T : Cs) (K : PySem.W.Frag) (E : XK) : TS := (tSeq (tFor (iRng1 (tCons (tCB (Evl.rLenS K) (tCons (tVar 1) tNil)) tNil)) (gName 2) (tSeq (tIfS (tOr (tNot (tB (tCB (rIsi K) (tCons (tOp (rIxL K) (tVar 0) (tVar 2)) (tCons (tC (.ty "tuple")) tNil))))) (tTest (tOp rNe (tCB (Evl.rLenS K) (tCons (tOp (rIxL K) (tVar 0) (tVar 2)) tNil)) (tC (.int 2))))) (tRet (tC (.bl false))) tNext) (tIfS (tOr (tNot (tB (tCall (sp_law_whole T K) [] E0 (tCons (tOp (rIxT K) (tOp (rIxL K) (tVar 0) (tVar 2)) (tC (.int 0))) tNil)))) (tOr (tNot (tB (tCall (sp_law_whole T K) [] E0 (tCons (tOp (rIxT K) (tOp (rIxL K) (tVar 0) (tVar 2)) (tC (.int 1))) tNil)))) (tTest (tOp (rNeD K) (tOp (rIxL K) (tVar 0) (tVar 2)) (tOp (rIxL K) (tVar 1) (tVar 2)))))) (tRet (tC (.bl false))) tNext))) (tRet (tC (.bl true))))
def rd_law_pairs (T : Cs) (K : PySem.W.Frag) (E : XK) : TS := (tSeq (tIfS (tOr (tNot (tB (tCB (rIsi K) (tCons (tVar 0) (tCons (tC (.ty "list")) tNil))))) (tTest (tOp rNe (tCB (Evl.rLenS K) (tCons (tVar 0) tNil)) (tCB (Evl.rLenS K) (tCons (tVar 1) tNil))))) (tRet (tC (.bl false))) tNext) (rd_law_pairs_s1 T K E))
theorem wk_law_pairs_s1 {T : Cs} {K : PySem.W.Frag} {A AS HS : Hp} {R : List Hp} {Q : VK} {E : XK} {x_found : (List (Int × Int))} {v_found : V} {x_due : (List (Int × Int))} {v_due : V} {o2 : Option V}  (e0 : Same A AS) (S : St HS (AS :: R)) (h_found : Is AS v_found x_found) (h_due : Is AS v_due x_due) (h : (m_law_pairs_s1 x_found x_due).wp (fun y => ∀ (A' H' : Hp) , Same A A' → St H' (A' :: R) → Q (.bl y) H') (fun _ _ => False)) : rd_law_pairs_s1 T K E { nx := fun _ H' => Q .non H', rt := Q } [some v_found, some v_due, o2] HS := by
  unfold m_law_pairs_s1 at h
  unfold rd_law_pairs_s1
  refine q_forR1 ?_
  refine c_cons (c_cb (c_cons (c_var rfl (c_nil (c_len (la_of S h_due) (c_nil (?_)))))))
  refine c_forR1 (A := AS) (s0 := ()) (fun (A_ : Hp) (σ_ : L2.St) (R_ : List Hp) (s : Unit) => ∃ (y_k9 : Option V), σ_ = [some v_found, some v_due, y_k9] ∧ R = R_) S (fun Q' q => q) ⟨_, rfl, rfl⟩ h (fun z10 A12 H13 σ24 R14 s15 C16 N17 hz18a hz18b e19 S20 hR22 hN23 h => ?_) (fun A25 H26 σ32 R27 s28 e29 S30 hR31 h => ?_)
  ·
    have eL33 : Same AS AS := Same.refl _
    obtain ⟨y_k9, rfl, rfl⟩ := hR22
    have e0 := e0.trans e19
    have eL33 := eL33.trans e19
    have h_found := up h_found e19
    have h_due := up h_due e19
    refine q_when ?_
    refine q_test (A := A12) (R := R) h (fun Qb36 hk35 h => ?_) (fun b34 A37 H38 e39 S40 h => ?_)
    ·
      have eT41 : Same A12 A12 := Same.refl _
      refine c_or ?_
      refine c_not (b := true) (c_tb (c_cb (c_cons (c_op (c_var rfl (c_var rfl (c_ix (la_of S20 h_found) h fun t42 w43 h44 h => ?_)))))))
      refine c_cons (c_c (c_nil (isi_tup S20 h44 (c_bl (?_)))))
      refine c_orR h (fun hc h => ?_) (fun hc h => ?_)
      ·
        exact hk35 _ _ _ eT41 S20 h
      ·
        refine c_tst (c_op (c_cb (c_cons (c_op (c_var rfl (c_var rfl (c_ix (la_of S20 h_found) h fun t45 w46 h47 h => ?_)))))))
        refine c_nil (c_lenT S20 h47 (c_c (c_neI (c_bl (?_)))))
        exact hk35 _ _ _ eT41 S20 h
    ·
      have e0 := e0.trans e39
      have eL33 := eL33.trans e39
      have h_found := up h_found e39
      have h_due := up h_due e39
      refine c_if h (fun hc h => ?_) (fun hc h => ?_)
      ·
        refine s_ret ?_
        refine c_c (?_)
        exact h (A37) (H38) e0 S40 
      ·
        refine s_when ?_
        refine q_test (A := A37) (R := R) h (fun Qb50 hk49 h => ?_) (fun b48 A51 H52 e53 S54 h => ?_)
        ·
          have eT55 : Same A37 A37 := Same.refl _
          refine c_or ?_
          refine c_not (b := true) (c_tb (c_call (c_cons (c_op (c_op (c_var rfl (c_var rfl (c_ix (la_of S40 h_found) h fun t56 w57 h58 h => ?_))))))))
          refine c_c (c_ixT0 S40 h58 fun w60 h61 => ?_)
          obtain rfl : w60 = (.int t56.1) := h61
          refine c_nil (⟨A37, (R), t56.1, rfl, S40, ?_⟩)
          refine Res.wp_mono (Res.wp_noex (Res.wp_bind h)) (fun y62 h A63 H64 e65 S66 => ?_) (fun _ _ h => h.elim)
          have e0 := e0.trans e65
          have eL33 := eL33.trans e65
          have eT55 := eT55.trans e65
          have h_found := up h_found e65
          have h_due := up h_due e65
          refine c_bl (?_)
          refine c_orR h (fun hc h => ?_) (fun hc h => ?_)
          ·
            exact hk49 _ _ _ eT55 S66 h
          ·
            refine c_or ?_
            refine c_not (b := true) (c_tb (c_call (c_cons (c_op (c_op (c_var rfl (c_var rfl (c_ix (la_of S66 h_found) h fun t67 w68 h69 h => ?_))))))))
            refine c_c (c_ixT1 S66 h69 fun w71 h72 => ?_)
            obtain rfl : w71 = (.int t67.2) := h72
            refine c_nil (⟨A63, (R), t67.2, rfl, S66, ?_⟩)
            refine Res.wp_mono (Res.wp_noex (Res.wp_bind h)) (fun y73 h A74 H75 e76 S77 => ?_) (fun _ _ h => h.elim)
            have e0 := e0.trans e76
            have eL33 := eL33.trans e76
            have eT55 := eT55.trans e76
            have h_found := up h_found e76
            have h_due := up h_due e76
            refine c_bl (?_)
            refine c_orR h (fun hc h => ?_) (fun hc h => ?_)
            ·
              exact hk49 _ _ _ eT55 S77 h
            ·
              refine c_tst (c_op (c_op (c_var rfl (c_var rfl (c_ix (la_of S77 h_found) h fun t78 w79 h80 h => ?_)))))
              refine c_op (c_var rfl (c_var rfl (c_ix (la_of S77 h_due) h fun t81 w82 h83 h => ?_)))
              refine c_neD (α := (Int × Int)) (x := t78) (y := t81) (dp_of S77 h80) (dp_of S77 h83) (Nat.le_of_ble_eq_true rfl) (c_bl (?_))
              exact hk49 _ _ _ eT55 S77 h
        ·
          have e0 := e0.trans e53
          have eL33 := eL33.trans e53
          have h_found := up h_found e53
          have h_due := up h_due e53
          refine c_if h (fun hc h => ?_) (fun hc h => ?_)
          ·
            refine s_ret ?_
            refine c_c (?_)
            exact h (A51) (H52) e0 S54 
          ·
            exact hN23 _ _ _ _ () eL33 S54 ⟨_, rfl, rfl⟩ h
  ·
    refine nx_mk ?_
    obtain ⟨y_k9, rfl, rfl⟩ := hR31
    have e0 := e0.trans e29
    have h_found := up h_found e29
    have h_due := up h_due e29
    refine s_ret ?_
    refine c_c (?_)
    exact h (A25) (H26) e0 S30 
theorem wk_law_pairs {T : Cs} {K : PySem.W.Frag} {vs : List V} {H : Hp} {Q : VK} {E : XK}  (h : sp_law_pairs T K vs H Q E) : rd_law_pairs T K E { nx := fun _ H' => Q .non H', rt := Q } (L2.start ["_law_found", "_law_due", "_law_k"] vs) H := by
  obtain ⟨A, R, v_found, x_found, v_due, x_due, rfl, S, h_found, h_due, h⟩ := h
  unfold m_law_pairs at h
  unfold rd_law_pairs
  have e0 : Same A A := Same.refl _
  refine q_when ?_
  refine q_test (A := A) (R := R) h (fun Qb3 hk2 h => ?_) (fun b1 A4 H5 e6 S7 h => ?_)
  ·
    have eT8 : Same A A := Same.refl _
    refine c_or ?_
    refine c_not (b := true) (c_tb (c_cb (c_cons (c_var rfl (c_cons (c_c (c_nil (isi_list (la_of S h_found) (c_bl (?_))))))))))
    refine c_orR h (fun hc h => ?_) (fun hc h => ?_)
    ·
      exact hk2 _ _ _ eT8 S h
    ·
      refine c_tst (c_op (c_cb (c_cons (c_var rfl (c_nil (c_len (la_of S h_found) (c_cb (c_cons (c_var rfl (c_nil (c_len (la_of S h_due) (c_neI (c_bl (?_))))))))))))))
      exact hk2 _ _ _ eT8 S h
  ·
    have e0 := e0.trans e6
    have h_found := up h_found e6
    have h_due := up h_due e6
    refine c_if h (fun hc h => ?_) (fun hc h => ?_)
    ·
      refine s_ret ?_
      refine c_c (?_)
      exact h (A4) (H5) e0 S7 
    ·
      exact wk_law_pairs_s1 (T := T) (K := K) (E := E)  e0 S7 h_found h_due h
abbrev s_law_pairs : Stmt := topS 48
theorem sc_law_pairs : FnScope ["_law_found", "_law_due", "_law_k"] ["_law_found", "_law_due"] (defScope s_law_pairs) := ⟨rfl, rfl, rfl, by decide +kernel, rfl, by decide +kernel, by decide +kernel⟩
theorem ok_law_pairs {P : Program} {w : World} {K : PySem.W.Frag} {mg : Str → Option Value} {base : Heap} {T : Cs} {f : Addr} {fd : FuncData} {f_law_whole : Addr} {fd_law_whole : FuncData} (F : Fun K "_law_pairs" "_law_pairs" s_law_pairs f fd) (bi : Bi mg) (G_law_whole : Glob P w K mg base CX0 1 "_law_whole" ["_law_found"] (sp_law_whole T K) f_law_whole fd_law_whole)   : FnOk P w K mg base CX0 2 f fd ["_law_found", "_law_due"] (sp_law_pairs T K) := by
  refine F.ok sc_law_pairs (fun vs H Q E h => ?_) (fun cdv A outer s H vs Q E hr h => ⟨rd_law_pairs T K E, ?_, wk_law_pairs  h⟩)
  · obtain ⟨_, _, _, _, _, _, rfl, _⟩ := h
    rfl
  · exact (pss_cons (ps_if (PW.pt (pw_or (pt_not (pt_val (pe_callB call_isi (by rfl) bi.isinstance boot_isinstance (pa_cons (pv 0) (pa_cons (pe_bltn (v := .ty "list") (by rfl) bi.list boot_list rfl) pa_nil))))) (pw_or1 (pt_cmpR op_ne (pe_callB call_len_seq (by rfl) bi.len PySem.boot_len (pa_cons (pv 0) pa_nil)) (pe_callB call_len_seq (by rfl) bi.len PySem.boot_len (pa_cons (pv 1) pa_nil)) (nomark _))))) (pss_one (ps_ret pe_bl)) pss_nil)
      (pss_cons (ps_for PassesOwn.never rfl (pi_range1 (by rfl) bi.range (pa_cons (pe_callB call_len_seq (by rfl) bi.len PySem.boot_len (pa_cons (pv 1) pa_nil)) pa_nil)) (pg_name (i := 2) sc_law_pairs.nd rfl (Or.inl rfl)) (pss_cons (ps_if (PW.pt (pw_or (pt_not (pt_val (pe_callB call_isi (by rfl) bi.isinstance boot_isinstance (pa_cons (pe_ix ix_list (pv 0) (pv 2) (fun _ _ => rfl)) (pa_cons (pe_bltn (v := .ty "tuple") (by rfl) bi.tuple boot_tuple rfl) pa_nil))))) (pw_or1 (pt_cmpR op_ne (pe_callB call_len_seq (by rfl) bi.len PySem.boot_len (pa_cons (pe_ix ix_list (pv 0) (pv 2) (fun _ _ => rfl)) pa_nil)) pe_int (nomark _))))) (pss_one (ps_ret pe_bl)) pss_nil)
      (pss_one (ps_if (PW.pt (pw_or (pt_not (pt_val (pe_call G_law_whole.ok (hr.mono (Nat.le_of_ble_eq_true rfl)) (by rfl) G_law_whole.g G_law_whole.kp G_law_whole.b .nil pass0 (pa_cons (pe_ix ix_tup (pe_ix ix_list (pv 0) (pv 2) (fun _ _ => rfl)) pe_int (fun _ _ => rfl)) pa_nil)))) (pw_or (pt_not (pt_val (pe_call G_law_whole.ok (hr.mono (Nat.le_of_ble_eq_true rfl)) (by rfl) G_law_whole.g G_law_whole.kp G_law_whole.b .nil pass0 (pa_cons (pe_ix ix_tup (pe_ix ix_list (pv 0) (pv 2) (fun _ _ => rfl)) pe_int (fun _ _ => rfl)) pa_nil)))) (pw_or1 (pt_cmpR (op_neD hr.units) (pe_ix ix_list (pv 0) (pv 2) (fun _ _ => rfl)) (pe_ix ix_list (pv 1) (pv 2) (fun _ _ => rfl)) (nomark _)))))) (pss_one (ps_ret pe_bl)) pss_nil))))
      (pss_one (ps_ret pe_bl))))
@[irreducible] def m_law_kept (x_field : (FS true)) (x_rows_here : (List (Option (Int × (List Int))))) (x_arrows : (List (Int × Int))) : Res Unit Bool := Res.bind (Res.noex (m_law_cells_kept x_field x_rows_here)) fun y1 => if y1 = true then Res.bind (Res.noex (m_Field_arrows x_field)) fun y6 => Res.bind (Res.noex (m_law_pairs y6 x_arrows)) fun y18 => .ok y18 else .ok false
def sp_law_kept (T : Cs) (K : PySem.W.Frag) : Sp := fun vs H Q E => ∃ (A : Hp) (R : List Hp) (m_field : Hp) (v_field : V) (x_field : (FS true)) (v_rows_here : V) (x_rows_here : (List (Option (Int × (List Int))))) (v_arrows : V) (x_arrows : (List (Int × Int))), vs = [v_field, v_rows_here, v_arrows] ∧ St H (A :: m_field :: R) ∧ Ob.isAt T A m_field v_field x_field ∧ Is A v_rows_here x_rows_here ∧ Is A v_arrows x_arrows ∧ (m_law_kept x_field x_rows_here x_arrows).wp (fun y => ∀ (A' H' : Hp) , Same A A' → St H' (A' :: m_field :: R) → Q (.bl y) H') (fun _ _ => False)
def rd_law_kept (T : Cs) (K : PySem.W.Frag) (E : XK) : TS := (tRet (tAndV (tCall (sp_law_cells_kept true T K) [] E0 (tCons (tVar 0) (tCons (tVar 1) tNil))) (tCall (sp_law_pairs T K) [] E0 (tCons (tMeth (T.cls true) "arrows" (sp_Field_arrows T K) [] E0 (tVar 0) tNil) (tCons (tVar 2) tNil)))))
theorem wk_law_kept {T : Cs} {K : PySem.W.Frag} {vs : List V} {H : Hp} {Q : VK} {E : XK} (kl_true : Kl K (T.cls true) true) (h : sp_law_kept T K vs H Q E) : rd_law_kept T K E { nx := fun _ H' => Q .non H', rt := Q } (L2.start ["_law_field", "_law_rows_here", "_law_arrows"] vs) H := by
  obtain ⟨A, R, m_field, v_field, x_field, v_rows_here, x_rows_here, v_arrows, x_arrows, rfl, S, h_field, h_rows_here, h_arrows, h⟩ := h
  unfold m_law_kept at h
  unfold rd_law_kept
  have e0 : Same A A := Same.refl _
  refine s_ret ?_
  refine c_andV (c_call (c_cons (c_var rfl (c_cons (c_var rfl (c_nil (⟨A, (R), m_field, v_field, x_field, v_rows_here, x_rows_here, rfl, S, h_field, h_rows_here, ?_⟩)))))))
  refine Res.wp_mono (Res.wp_noex (Res.wp_bind h)) (fun y1 h A2 H3 e4 S5 => ?_) (fun _ _ h => h.elim)
  have e0 := e0.trans e4
  have h_field := upO h_field e4
  have h_rows_here := up h_rows_here e4
  have h_arrows := up h_arrows e4
  refine c_bl (?_)
  refine c_if h (fun hc h => ?_) (fun hc h => ?_)
  ·
    refine c_call (c_cons (c_met (c_var rfl (f_met S5 h_field (by decide +kernel) (c_nil (⟨A2, (R), m_field, v_field, x_field, rfl, S5, h_field, ?_⟩))))))
    refine Res.wp_mono (Res.wp_noex (Res.wp_bind h)) (fun y6 h A7 H8 p11 ws12 e9 S10 h13 => ?_) (fun _ _ h => h.elim)
    have e0 := e0.trans e9
    have h_field := upO h_field e9
    have h_rows_here := up h_rows_here e9
    have h_arrows := up h_arrows e9
    have h15 := frz_is h13 S10
    have S16 := S10.frz
    have e14 := same_join_l (A := A7) (B := (one p11 (.lst ws12)))
    generalize hjA17 : join A7 (one p11 (.lst ws12)) = A17 at h15 S16 e14
    clear hjA17
    have e0 := e0.trans e14
    have h_field := upO h_field e14
    have h_rows_here := up h_rows_here e14
    have h_arrows := up h_arrows e14
    refine c_cons (c_var rfl (c_nil (⟨A17, (m_field :: R), (.ref p11), y6, v_arrows, x_arrows, rfl, S16, h15, h_arrows, ?_⟩)))
    refine Res.wp_mono (Res.wp_noex (Res.wp_bind h)) (fun y18 h A19 H20 e21 S22 => ?_) (fun _ _ h => h.elim)
    have e0 := e0.trans e21
    have h_field := upO h_field e21
    have h_rows_here := up h_rows_here e21
    have h_arrows := up h_arrows e21
    exact h (A19) (H20) e0 S22 
  ·
    exact h (A2) (H3) e0 S5 
abbrev s_law_kept : Stmt := topS 49
theorem sc_law_kept : FnScope ["_law_field", "_law_rows_here", "_law_arrows"] ["_law_field", "_law_rows_here", "_law_arrows"] (defScope s_law_kept) := ⟨rfl, rfl, rfl, by decide +kernel, rfl, by decide +kernel, by decide +kernel⟩
theorem ok_law_kept {P : Program} {w : World} {K : PySem.W.Frag} {mg : Str → Option Value} {base : Heap} {T : Cs} {f : Addr} {fd : FuncData} {f_law_cells_kept_true : Addr} {fd_law_cells_kept_true : FuncData} {f_Field_arrows : Addr} {fd_Field_arrows : FuncData} {f_law_pairs : Addr} {fd_law_pairs : FuncData} (F : Fun K "_law_kept" "_law_kept" s_law_kept f fd) (bi : Bi mg) (G_law_cells_kept_true : Glob P w K mg base CX0 4 "_law_cells_kept" ["_law_body", "_law_rows_here"] (sp_law_cells_kept true T K) f_law_cells_kept_true fd_law_cells_kept_true) (G_Field_arrows : MGlob P w K mg base CX0 2 (T.cls true) "arrows" ["self"] (sp_Field_arrows T K) f_Field_arrows fd_Field_arrows) (G_law_pairs : Glob P w K mg base CX0 2 "_law_pairs" ["_law_found", "_law_due"] (sp_law_pairs T K) f_law_pairs fd_law_pairs)  (kl_true : Kl K (T.cls true) true) : FnOk P w K mg base CX0 5 f fd ["_law_field", "_law_rows_here", "_law_arrows"] (sp_law_kept T K) := by
  refine F.ok sc_law_kept (fun vs H Q E h => ?_) (fun cdv A outer s H vs Q E hr h => ⟨rd_law_kept T K E, ?_, wk_law_kept kl_true h⟩)
  · obtain ⟨_, _, _, _, _, _, _, _, _, rfl, _⟩ := h
    rfl
  · exact (pss_one (ps_ret (pe_and (pe_call G_law_cells_kept_true.ok (hr.mono (Nat.le_of_ble_eq_true rfl)) (by rfl) G_law_cells_kept_true.g G_law_cells_kept_true.kp G_law_cells_kept_true.b .nil pass0 (pa_cons (pv 0) (pa_cons (pv 1) pa_nil))) (pe_one (pe_call G_law_pairs.ok (hr.mono (Nat.le_of_ble_eq_true rfl)) (by rfl) G_law_pairs.g G_law_pairs.kp G_law_pairs.b .nil pass0 (pa_cons (pe_meth0 (pv 0) kl_true.cl G_Field_arrows.mt G_Field_arrows.ok (hr.mono (Nat.le_of_ble_eq_true rfl)) G_Field_arrows.b .nil pass0 ) (pa_cons (pv 2) pa_nil)))))))
@[irreducible] def m_law_s2 (x_rows_here : (List (Option (Int × (List Int))))) (x_field : (FS true)) (x_arrows : (List (Int × Int))) : Res Unit Bool := Res.bind (Res.noex (m_law_kept x_field x_rows_here x_arrows)) fun y447 => .ok y447
@[irreducible] def m_law_s1 (x_bag_here : Bag) (x_rows_here : (List (Option (Int × (List Int))))) (x_field : (FS true)) (x_arrows : (List (Int × Int))) : Res Unit Bool := Res.bind (Res.noex (m_law_pull x_bag_here (25 : Int))) fun y41 => Res.bind (Res.bind (rgR (0 : Int) y41.1) fun l => forM (β := Bool) (fun z49 (s54 : (List (Int × Int)) × Bag × (FS true)) => Res.bind (Res.noex (m_law_tails s54.1)) fun y80 => Res.bind (Res.noex (m_law_heads s54.1)) fun y94 => Res.bind (catR y80 y94) fun t105 => Res.bind (Res.noex (m_law_here x_rows_here)) fun y115 => Res.bind (.ok ((y115.filter (fun z127 => (!(decide (z127 ∈ t105))))).map (fun z127 => z127))) fun t157 => Res.bind (compG (β := Int) (fun z170 (s176 : Unit) => Res.bind (ixR x_rows_here z170) fun t190 => Res.bind (getR t190) fun t193 => Res.bind (Res.noex (m_law_parted t193.2 t157)) fun y196 => if (!(decide (y196 = ([] : List Int)))) = true then .ok (some z170, ()) else .ok (none, ())) t157 ()) fun y225 => Res.bind (andS (!(decide (s54.1 = ([] : List (Int × Int))))) s54.2.1 (Res.bind (Res.noex (m_law_pull s54.2.1 (6 : Int))) fun y256 => .ok ((decide (y256.1 = (5 : Int))), y256.2))) fun b242 => if b242.1 = true then Res.bind (Res.noex (m_law_pull b242.2 (s54.1.length : Int))) fun y277 => Res.bind (popR s54.1 y277.1) fun y289 => Res.bind (Res.noex (m_Field_untie s54.2.2 y289.1.1)) fun y296 => if (!(decide (y296.1 = y289.1.2))) = true then .ok (.ret (false)) else .ok (.next (y289.2, y277.2, y296.2)) else if (!(decide (y225.1 = ([] : List Int)))) = true then Res.bind (Res.noex (m_law_pull b242.2 (y225.1.length : Int))) fun y321 => Res.bind (ixR y225.1 y321.1) fun t328 => Res.bind (ixR x_rows_here t328) fun t329 => Res.bind (getR t329) fun t332 => Res.bind (Res.noex (m_law_parted t332.2 t157)) fun y335 => Res.bind (Res.noex (m_law_pull y321.2 (y335.length : Int))) fun y347 => Res.bind (ixR y335 y347.1) fun t354 => Res.bind (catR s54.1 [(t354, t328)]) fun t366 => Res.bind (.ok (sortP t366)) fun t372 => Res.bind (Res.noex (m_law_ringed x_rows_here t372)) fun y381 => Res.bind (if y381 = true then .ok ("ring" : Str) else .ok ("tied" : Str)) fun x389 => Res.bind (Res.noex (m_law_tied_or_ring s54.2.2 t354 t328)) fun y400 => if (!(decide (y400.1 = x389))) = true then .ok (.ret (false)) else if (decide (x389 = ("tied" : Str))) = true then .ok (.next (t372, y347.2, y400.2)) else .ok (.next (s54.1, y347.2, y400.2)) else .ok (.next (s54.1, b242.2, s54.2.2))) l (x_arrows, y41.2, x_field)) fun r457 => (match r457 with | .next s67 => m_law_s2 x_rows_here s67.2.2 s67.1 | .ret y458 => .ok y458)
@[irreducible] def m_law (x_script : (List Int)) : Res Unit Bool := Res.bind (Res.noex (m_law_bag x_script)) fun y1 => Res.bind (Res.noex (m_law_rows y1 (12 : Int))) fun y9 => Res.bind (Res.noex (m_law_fill (emptyF true) y9.1)) fun y28 => m_law_s1 y9.2 y9.1 y28.2 ([] : List (Int × Int))
def sp_law (T : Cs) (K : PySem.W.Frag) : Sp := fun vs H Q E => ∃ (A : Hp) (R : List Hp) (v_script : V) (x_script : (List Int)), vs = [v_script] ∧ St H (A :: R) ∧ Scr K A v_script x_script ∧ (m_law x_script).wp (fun y => ∀ (A' H' : Hp) , Same A A' → St H' (A' :: R) → Q (.bl y) H') (fun _ _ => False)
def rd_law_s2 (T : Cs) (K : PySem.W.Frag) (E : XK) : TS := (tRet (tCall (sp_law_kept T K) [] E0 (tCons (tVar 3) (tCons (tVar 2) (tCons (tVar 4) tNil)))))
def rd_law_s1 (T : Cs) (K : PySem.W.Frag) (E : XK) : TS := (tSeq (tFor (iRng1 (tCons (tCall (sp_law_pull T K) [] E0 (tCons (tVar 1) (tCons (tC (.int 25)) tNil))) tNil)) (gName 5) (tSeq (tAsg (tOp rCat (tCall (sp_law_tails T K) [] E0 (tCons (tVar 4) tNil)) (tCall (sp_law_heads T K) [] E0 (tCons (tVar 4) tNil))) (gName 6)) (tSeq (tAsg (tLc (iList K (tCall (sp_law_here T K) [] E0 (tCons (tVar 2) tNil))) (gName 15) (tTest (tOp (rIn K true) (tVar 15) (tVar 6))) (tVar 15) [15]) (gName 7)) (tSeq (tAsg (tLc (iList K (tVar 7)) (gName 15) (tTest (tOp (rNeD K) (tCall (sp_law_parted T K) [] E0 (tCons (tOp (rIxT K) (tOp (rIxL K) (tVar 2) (tVar 15)) (tC (.int 1))) (tCons (tVar 7) tNil))) (tLst tNil))) (tVar 15) [15]) (gName 8)) (tIfS (tAnd (tTest (tOp (rNeD K) (tVar 4) (tLst tNil))) (tTest (tOp rEq (tCall (sp_law_pull T K) [] E0 (tCons (tVar 1) (tCons (tC (.int 6)) tNil))) (tC (.int 5))))) (tSeq (tAsg (tBM K "list" rPopAt (tVar 4) (tCons (tCall (sp_law_pull T K) [] E0 (tCons (tVar 1) (tCons (tCB (Evl.rLenS K) (tCons (tVar 4) tNil)) tNil))) tNil)) (gName 9)) (tIfS (tTest (tOp rNe (tMeth (T.cls true) "untie" (sp_Field_untie T K) [] E0 (tVar 3) (tCons (tOp (rIxT K) (tVar 9) (tC (.int 0))) tNil)) (tOp (rIxT K) (tVar 9) (tC (.int 1))))) (tRet (tC (.bl false))) tNext)) (tIfS (tTest (tOp (rNeD K) (tVar 8) (tLst tNil))) (tSeq (tAsg (tOp (rIxL K) (tVar 8) (tCall (sp_law_pull T K) [] E0 (tCons (tVar 1) (tCons (tCB (Evl.rLenS K) (tCons (tVar 8) tNil)) tNil)))) (gName 10)) (tSeq (tAsg (tCall (sp_law_parted T K) [] E0 (tCons (tOp (rIxT K) (tOp (rIxL K) (tVar 2) (tVar 10)) (tC (.int 1))) (tCons (tVar 7) tNil))) (gName 11)) (tSeq (tAsg (tOp (rIxL K) (tVar 11) (tCall (sp_law_pull T K) [] E0 (tCons (tVar 1) (tCons (tCB (Evl.rLenS K) (tCons (tVar 11) tNil)) tNil)))) (gName 12)) (tSeq (tAsg (tCB (rSortedPO K) (tCons (tOp rCat (tVar 4) (tLst (tCons (tTup (tCons (tVar 12) (tCons (tVar 10) tNil))) tNil))) tNil)) (gName 13)) (tSeq (tAsg (tIf (tB (tCall (sp_law_ringed T K) [] E0 (tCons (tVar 2) (tCons (tVar 13) tNil)))) (tC (.str "ring")) (tC (.str "tied"))) (gName 14)) (tSeq (tIfS (tTest (tOp rNe (tCall (sp_law_tied_or_ring T K) [] E0 (tCons (tVar 3) (tCons (tVar 12) (tCons (tVar 10) tNil)))) (tVar 14))) (tRet (tC (.bl false))) tNext) (tIfS (tTest (tOp rEq (tVar 14) (tC (.str "tied")))) (tAsg (tVar 13) (gName 4)) tNext))))))) tNext)))))) (rd_law_s2 T K E))
def rd_law (T : Cs) (K : PySem.W.Frag) (E : XK) : TS := (tSeq (tAsg (tCall (sp_law_bag T K) [] E0 (tCons (tVar 0) tNil)) (gName 1)) (tSeq (tAsg (tCall (sp_law_rows T K) [] E0 (tCons (tVar 1) (tCons (tC (.int 12)) tNil))) (gName 2)) (tSeq (tAsg (tCall (sp_law_fill true T K) [] E0 (tCons (tMake (T.cls true) (sp_new true T K) [] E0 tNil) (tCons (tVar 2) tNil))) (gName 3)) (tSeq (tAsg (tLst tNil) (gName 4)) (rd_law_s1 T K E)))))
theorem wk_law_s2 {T : Cs} {K : PySem.W.Frag} {A AS HS : Hp} {R : List Hp} {Q : VK} {E : XK} {x_rows_here : (List (Option (Int × (List Int))))} {v_rows_here : V} {x_field : (FS true)} {m_field : Hp} {v_field : V} {x_arrows : (List (Int × Int))} {p_arrows : Addr} {ws_arrows : List V} {o0 : Option V} {o1 : Option V} {o5 : Option V} {o6 : Option V} {o7 : Option V} {o8 : Option V} {o9 : Option V} {o10 : Option V} {o11 : Option V} {o12 : Option V} {o13 : Option V} {o14 : Option V} {o15 : Option V}  (e0 : Same A AS) (S : St HS (AS :: (one p_arrows (.lst ws_arrows)) :: m_field :: R)) (h_rows_here : Is AS v_rows_here x_rows_here) (h_field : Ob.isAt T AS m_field v_field x_field) (h_arrows : OL AS ws_arrows x_arrows) (h : (m_law_s2 x_rows_here x_field x_arrows).wp (fun y => ∀ (A' H' : Hp) , Same A A' → St H' (A' :: R) → Q (.bl y) H') (fun _ _ => False)) : rd_law_s2 T K E { nx := fun _ H' => Q .non H', rt := Q } [o0, o1, some v_rows_here, some v_field, some (.ref p_arrows), o5, o6, o7, o8, o9, o10, o11, o12, o13, o14, o15] HS := by
  unfold m_law_s2 at h
  unfold rd_law_s2
  refine s_ret ?_
  have h446 := frz_is h_arrows S
  have S444 := S.frz
  have e445 := same_join_l (A := AS) (B := (one p_arrows (.lst ws_arrows)))
  refine c_call (c_cons (c_var rfl (c_cons (c_var rfl (c_cons (c_var rfl (c_nil (⟨(join AS (one p_arrows (.lst ws_arrows))), (R), m_field, v_field, x_field, v_rows_here, x_rows_here, (.ref p_arrows), x_arrows, rfl, S444, (upO h_field e445), (up h_rows_here e445), h446, ?_⟩))))))))
  refine Res.wp_mono (Res.wp_noex (Res.wp_bind h)) (fun y447 h A448 H449 e450 S451 => ?_) (fun _ _ h => h.elim)
  have S452 := S451.back1 ((same_join_r S.dj).trans e450)
  have e453 := same_minus S e450
  generalize minus A448 (one p_arrows (.lst ws_arrows)) = A454 at S452 e453
  have e0 := e0.trans e453
  have h_rows_here := up h_rows_here e453
  have h_field := upO h_field e453
  have h_arrows := OL.up h_arrows e453
  have S455 : St H449 (A454 :: m_field :: R) := S452.drop 0 (Nat.le_of_ble_eq_true rfl)
  have S456 : St H449 (A454 :: R) := S455.drop 0 (Nat.le_of_ble_eq_true rfl)
  exact h (A454) (H449) e0 S456 
theorem wk_law_s1 {T : Cs} {K : PySem.W.Frag} {A AS HS : Hp} {R : List Hp} {Q : VK} {E : XK} {x_bag_here : Bag} {m_bag_here : Hp} {v_bag_here : V} {x_rows_here : (List (Option (Int × (List Int))))} {v_rows_here : V} {x_field : (FS true)} {m_field : Hp} {v_field : V} {x_arrows : (List (Int × Int))} {p_arrows : Addr} {ws_arrows : List V} {o0 : Option V} {o5 : Option V} {o6 : Option V} {o7 : Option V} {o8 : Option V} {o9 : Option V} {o10 : Option V} {o11 : Option V} {o12 : Option V} {o13 : Option V} {o14 : Option V} {o15 : Option V} (kl_true : Kl K (T.cls true) true) (e0 : Same A AS) (S : St HS (AS :: (one p_arrows (.lst ws_arrows)) :: m_field :: m_bag_here :: R)) (h_bag_here : Ob.isAt T AS m_bag_here v_bag_here x_bag_here) (h_rows_here : Is AS v_rows_here x_rows_here) (h_field : Ob.isAt T AS m_field v_field x_field) (h_arrows : OL AS ws_arrows x_arrows) (h : (m_law_s1 x_bag_here x_rows_here x_field x_arrows).wp (fun y => ∀ (A' H' : Hp) , Same A A' → St H' (A' :: R) → Q (.bl y) H') (fun _ _ => False)) : rd_law_s1 T K E { nx := fun _ H' => Q .non H', rt := Q } [o0, some v_bag_here, some v_rows_here, some v_field, some (.ref p_arrows), o5, o6, o7, o8, o9, o10, o11, o12, o13, o14, o15] HS := by
  unfold m_law_s1 at h
  unfold rd_law_s1
  refine q_forR1 ?_
  have S40 : St HS (AS :: m_bag_here :: (one p_arrows (.lst ws_arrows)) :: m_field :: R) := S.pick 2 (Nat.le_of_ble_eq_true rfl)
  refine c_cons (c_call (c_cons (c_var rfl (c_cons (c_c (c_nil (⟨AS, ((one p_arrows (.lst ws_arrows)) :: m_field :: R), m_bag_here, v_bag_here, x_bag_here, (25 : Int), rfl, S40, h_bag_here, ?_⟩)))))))
  refine Res.wp_mono (Res.wp_noex (Res.wp_bind h)) (fun y41 h A42 H43 m47 e44 S45 h46 => ?_) (fun _ _ h => h.elim)
  have e0 := e0.trans e44
  have h_rows_here := up h_rows_here e44
  have h_field := upO h_field e44
  have h_arrows := OL.up h_arrows e44
  refine c_nil (?_)
  refine c_forR1 (A := A42) (s0 := (x_arrows, y41.2, x_field)) (fun (A_ : Hp) (σ_ : L2.St) (R_ : List Hp) (s : (List (Int × Int)) × Bag × (FS true)) => ∃ (p_arrows48 : Addr) (ws_arrows48 : List V) (m_bag_here48 : Hp) (m_field48 : Hp) (y_bound48 : Option V) (y_lone48 : Option V) (y_highs48 : Option V) (y_gone48 : Option V) (y_high48 : Option V) (y_lows48 : Option V) (y_low48 : Option V) (y_there48 : Option V) (y_due48 : Option V) (y_k48 : Option V), σ_ = [o0, some v_bag_here, some v_rows_here, some v_field, some (.ref p_arrows48), y_k48, y_bound48, y_lone48, y_highs48, y_gone48, y_high48, y_lows48, y_low48, y_there48, y_due48, o15] ∧ m_bag_here48 :: (one p_arrows48 (.lst ws_arrows48)) :: m_field48 :: R = R_ ∧ OL A_ ws_arrows48 (s.1 : (List (Int × Int))) ∧ Ob.isAt T A_ m_bag_here48 v_bag_here (s.2.1 : Bag) ∧ Ob.isAt T A_ m_field48 v_field (s.2.2 : (FS true))) S45 (fun Q' q => q) ⟨p_arrows, ws_arrows, m47, m_field, _, _, _, _, _, _, _, _, _, _, rfl, rfl, h_arrows, h46, h_field⟩ h (fun z49 A51 H52 σ63 R53 s54 C55 N56 hz57a hz57b e58 S59 hR61 hN62 h => ?_) (fun A64 H65 σ71 R66 s67 e68 S69 hR70 h => ?_)
  ·
    have eL72 : Same A42 A42 := Same.refl _
    obtain ⟨p_arrows48, ws_arrows48, m_bag_here48, m_field48, y_bound48, y_lone48, y_highs48, y_gone48, y_high48, y_lows48, y_low48, y_there48, y_due48, y_k48, rfl, rfl, h73, h74, h75⟩ := hR61
    have e0 := e0.trans e58
    have eL72 := eL72.trans e58
    have h_rows_here := up h_rows_here e58
    refine q_asg ?_
    have S76 : St H52 (A51 :: (one p_arrows48 (.lst ws_arrows48)) :: m_bag_here48 :: m_field48 :: R) := S59.pick 1 (Nat.le_of_ble_eq_true rfl)
    have h79 := frz_is h73 S76
    have S77 := S76.frz
    have e78 := same_join_l (A := A51) (B := (one p_arrows48 (.lst ws_arrows48)))
    refine c_op (c_call (c_cons (c_var rfl (c_nil (⟨(join A51 (one p_arrows48 (.lst ws_arrows48))), (m_bag_here48 :: m_field48 :: R), (.ref p_arrows48), s54.1, rfl, S77, h79, ?_⟩)))))
    refine Res.wp_mono (Res.wp_noex (Res.wp_bind h)) (fun y80 h A81 H82 p85 ws86 e83 S84 h87 => ?_) (fun _ _ h => h.elim)
    have S88 := S84.back1 ((same_join_r S76.dj).trans e83)
    have e89 := same_minus S76 e83
    generalize minus A81 (one p_arrows48 (.lst ws_arrows48)) = A90 at S88 e89
    have e0 := e0.trans e89
    have eL72 := eL72.trans e89
    have h74 := upO h74 e89
    have h_rows_here := up h_rows_here e89
    have h75 := upO h75 e89
    have h73 := OL.up h73 e89
    have h87 : OL A90 _ _ := OL.any h87
    have h93 := frz_is h73 S88
    have S91 := S88.frz
    have e92 := same_join_l (A := A90) (B := (one p_arrows48 (.lst ws_arrows48)))
    refine c_call (c_cons (c_var rfl (c_nil (⟨(join A90 (one p_arrows48 (.lst ws_arrows48))), ((one p85 (.lst ws86)) :: m_bag_here48 :: m_field48 :: R), (.ref p_arrows48), s54.1, rfl, S91, h93, ?_⟩))))
    refine Res.wp_mono (Res.wp_noex (Res.wp_bind h)) (fun y94 h A95 H96 p99 ws100 e97 S98 h101 => ?_) (fun _ _ h => h.elim)
    have S102 := S98.back1 ((same_join_r S88.dj).trans e97)
    have e103 := same_minus S88 e97
    generalize minus A95 (one p_arrows48 (.lst ws_arrows48)) = A104 at S102 e103
    have e0 := e0.trans e103
    have eL72 := eL72.trans e103
    have h74 := upO h74 e103
    have h_rows_here := up h_rows_here e103
    have h75 := upO h75 e103
    have h73 := OL.up h73 e103
    have h87 := OL.up h87 e103
    have h101 : OL A104 _ _ := OL.any h101
    refine c_cat ⟨_, _, rfl, (S102.mem _ (List.mem_of_getElem? (i := 3) rfl)) _ _ one_same, h87⟩ ⟨_, _, rfl, (S102.mem _ (List.mem_of_getElem? (i := 2) rfl)) _ _ one_same, h101⟩ h fun t105 h => (ow S102 fun p106 ws107 H108 S109 h110 => ?_)
    have h112 := frz_is h110 S109
    have S113 := S109.frz
    have e111 := same_join_l (A := A104) (B := (one p106 (.lst ws107)))
    generalize hjA114 : join A104 (one p106 (.lst ws107)) = A114 at h112 S113 e111
    clear hjA114
    have e0 := e0.trans e111
    have eL72 := eL72.trans e111
    have h74 := upO h74 e111
    have h_rows_here := up h_rows_here e111
    have h75 := upO h75 e111
    have h73 := OL.up h73 e111
    refine q_asg ?_
    refine c_lcE ?_
    refine c_call (c_cons (c_var rfl (c_nil (⟨A114, ((one p_arrows48 (.lst ws_arrows48)) :: (one p99 (.lst ws100)) :: (one p85 (.lst ws86)) :: m_bag_here48 :: m_field48 :: R), v_rows_here, x_rows_here, rfl, S113, h_rows_here, ?_⟩))))
    refine Res.wp_mono (Res.wp_noex (Res.wp_bind h)) (fun y115 h A116 H117 p120 ws121 e118 S119 h122 => ?_) (fun _ _ h => h.elim)
    have e0 := e0.trans e118
    have eL72 := eL72.trans e118
    have h74 := upO h74 e118
    have h_rows_here := up h_rows_here e118
    have h75 := upO h75 e118
    have h73 := OL.up h73 e118
    have h112 := up h112 e118
    have h124 := frz_is h122 S119
    have S125 := S119.frz
    have e123 := same_join_l (A := A116) (B := (one p120 (.lst ws121)))
    generalize hjA126 : join A116 (one p120 (.lst ws121)) = A126 at h124 S125 e123
    clear hjA126
    have e0 := e0.trans e123
    have eL72 := eL72.trans e123
    have h74 := upO h74 e123
    have h_rows_here := up h_rows_here e123
    have h75 := upO h75 e123
    have h73 := OL.up h73 e123
    have h112 := up h112 e123
    refine c_lcL (A := A126) (R := (one p_arrows48 (.lst ws_arrows48)) :: (one p99 (.lst ws100)) :: (one p85 (.lst ws86)) :: m_bag_here48 :: m_field48 :: R) (tt := (tTest (tOp (rIn K true) (tVar 15) (tVar 6)))) (te := (tVar 15)) (vs := [15]) (j := 15) (xs := y115) (fun z127 => (!(decide (z127 ∈ t105)))) (fun z127 => z127) S125 (fun Q' q => q) h124 h (fun _ => rfl) ?_ ?_ (fun p158 A159 H160 ws161 t157 h e162 S163 h164 => ?_)
    ·
      intro z127 w128 A129 n130 hm140 e133 h138 A131 H132 e134 S135 Q136 hk137
      have e0 := e0.trans (e133.trans e134)
      have eL72 := eL72.trans (e133.trans e134)
      have e141 := e133.trans e134
      have h74 := upO h74 e141
      have h_rows_here := up h_rows_here e141
      have h75 := upO h75 e141
      have h73 := OL.up h73 e141
      have h112 := up h112 e141
      have eC142 : Same A131 A131 := Same.refl _
      have h138 := up h138 e134
      obtain rfl : w128 = (.int z127) := h138
      refine c_tst (c_op (c_var rfl (c_var rfl (c_notin (la_of S135 h112) (c_bl (?_))))))
      exact hk137 _ _ eC142 S135
    ·
      intro z127 w128 A143 n144 hm154 e147 h152 hf153 A145 H146 e148 S149 Q150 hk151
      have e0 := e0.trans (e147.trans e148)
      have eL72 := eL72.trans (e147.trans e148)
      have e155 := e147.trans e148
      have h74 := upO h74 e155
      have h_rows_here := up h_rows_here e155
      have h75 := upO h75 e155
      have h73 := OL.up h73 e155
      have h112 := up h112 e155
      have eC156 : Same A145 A145 := Same.refl _
      have h152 := up h152 e148
      obtain rfl : w128 = (.int z127) := h152
      refine c_var rfl (?_)
      exact hk151 _ _ _ eC156 S149 rfl
    ·
      have e0 := e0.trans e162
      have eL72 := eL72.trans e162
      have h74 := upO h74 e162
      have h_rows_here := up h_rows_here e162
      have h75 := upO h75 e162
      have h73 := OL.up h73 e162
      have h112 := up h112 e162
      have h166 := frz_is h164 S163
      have S167 := S163.frz
      have e165 := same_join_l (A := A159) (B := (one p158 (.lst ws161)))
      generalize hjA168 : join A159 (one p158 (.lst ws161)) = A168 at h166 S167 e165
      clear hjA168
      have e0 := e0.trans e165
      have eL72 := eL72.trans e165
      have h74 := upO h74 e165
      have h_rows_here := up h_rows_here e165
      have h75 := upO h75 e165
      have h73 := OL.up h73 e165
      have h112 := up h112 e165
      refine q_asg ?_
      refine c_lcE ?_
      refine c_var rfl (?_)
      refine c_lcGL (A := A168) (R := (one p_arrows48 (.lst ws_arrows48)) :: (one p99 (.lst ws100)) :: (one p85 (.lst ws86)) :: m_bag_here48 :: m_field48 :: R) (tt := (tTest (tOp (rNeD K) (tCall (sp_law_parted T K) [] E0 (tCons (tOp (rIxT K) (tOp (rIxL K) (tVar 2) (tVar 15)) (tC (.int 1))) (tCons (tVar 7) tNil))) (tLst tNil)))) (te := (tVar 15)) (vs := [15]) (j := 15) (fun (A_ : Hp) (R_ : List Hp) (s : Unit) => (one p_arrows48 (.lst ws_arrows48)) :: (one p99 (.lst ws100)) :: (one p85 (.lst ws86)) :: m_bag_here48 :: m_field48 :: R = R_) S167 (fun Q' q => q) h166 rfl h (fun _ => rfl) (fun z170 w171 A173 H174 R175 s176 n177 C178 K1_179 K0_180 hz181 e182 S183 hR184 hK185 hK186 h => ?_) (fun p226 A227 H228 R229 ws230 y225 h e231 S232 hR233 h234 => ?_)
      ·
        obtain ⟨hz181, h187⟩ := hz181
        have eC189 : Same A173 A173 := Same.refl _
        obtain rfl := hR184
        have e0 := e0.trans e182
        have eL72 := eL72.trans e182
        have h74 := upO h74 e182
        have h_rows_here := up h_rows_here e182
        have h75 := upO h75 e182
        have h73 := OL.up h73 e182
        have h112 := up h112 e182
        have h166 := up h166 e182
        obtain rfl : w171 = (.int z170) := h187
        refine c_tst (c_op (c_call (c_cons (c_op (c_op (c_var rfl (c_var rfl (c_ix (la_of S183 h_rows_here) h fun t190 w191 h192 h => ?_))))))))
        refine c_c (c_ixO1 S183 h192 h fun t193 w194 h195 h => ?_)
        refine c_cons (c_var rfl (c_nil (⟨A173, (n177 :: (one p_arrows48 (.lst ws_arrows48)) :: (one p99 (.lst ws100)) :: (one p85 (.lst ws86)) :: m_bag_here48 :: m_field48 :: R), w194, t193.2, (.ref p158), t157, rfl, S183, h195, h166, ?_⟩)))
        refine Res.wp_mono (Res.wp_noex (Res.wp_bind h)) (fun y196 h A197 H198 p201 ws202 e199 S200 h203 => ?_) (fun _ _ h => h.elim)
        have e0 := e0.trans e199
        have eL72 := eL72.trans e199
        have eC189 := eC189.trans e199
        have h74 := upO h74 e199
        have h_rows_here := up h_rows_here e199
        have h75 := upO h75 e199
        have h73 := OL.up h73 e199
        have h112 := up h112 e199
        have h166 := up h166 e199
        refine c_tlst (c_nil (c_lst (α := Int) (vs := []) (xs := []) (Nat.le_of_ble_eq_true rfl) trivial (ow S200 fun p204 ws205 H206 S207 h208 => ?_)))
        refine c_neD (α := (List Int)) (x := y196) (y := ([] : List Int)) (dp_la S207 ⟨_, _, rfl, (S207.mem _ (List.mem_of_getElem? (i := 2) rfl)) _ _ one_same, h203⟩) (dp_la S207 ⟨_, _, rfl, (S207.mem _ (List.mem_of_getElem? (i := 1) rfl)) _ _ one_same, h208⟩) (Nat.le_of_ble_eq_true rfl) (c_bl (?_))
        refine c_if h (fun hc h => ?_) (fun hc h => ?_)
        ·
          refine c_var rfl (?_)
          have S209 : St H206 (A197 :: m_field48 :: (one p204 (.lst ws205)) :: (one p201 (.lst ws202)) :: n177 :: (one p_arrows48 (.lst ws_arrows48)) :: (one p99 (.lst ws100)) :: (one p85 (.lst ws86)) :: m_bag_here48 :: R) := S207.pick 7 (Nat.le_of_ble_eq_true rfl)
          have S210 : St H206 (A197 :: m_bag_here48 :: m_field48 :: (one p204 (.lst ws205)) :: (one p201 (.lst ws202)) :: n177 :: (one p_arrows48 (.lst ws_arrows48)) :: (one p99 (.lst ws100)) :: (one p85 (.lst ws86)) :: R) := S209.pick 7 (Nat.le_of_ble_eq_true rfl)
          have S211 : St H206 (A197 :: (one p85 (.lst ws86)) :: m_bag_here48 :: m_field48 :: (one p204 (.lst ws205)) :: (one p201 (.lst ws202)) :: n177 :: (one p_arrows48 (.lst ws_arrows48)) :: (one p99 (.lst ws100)) :: R) := S210.pick 7 (Nat.le_of_ble_eq_true rfl)
          have S212 : St H206 (A197 :: (one p99 (.lst ws100)) :: (one p85 (.lst ws86)) :: m_bag_here48 :: m_field48 :: (one p204 (.lst ws205)) :: (one p201 (.lst ws202)) :: n177 :: (one p_arrows48 (.lst ws_arrows48)) :: R) := S211.pick 7 (Nat.le_of_ble_eq_true rfl)
          have S213 : St H206 (A197 :: (one p_arrows48 (.lst ws_arrows48)) :: (one p99 (.lst ws100)) :: (one p85 (.lst ws86)) :: m_bag_here48 :: m_field48 :: (one p204 (.lst ws205)) :: (one p201 (.lst ws202)) :: n177 :: R) := S212.pick 7 (Nat.le_of_ble_eq_true rfl)
          have S214 : St H206 (A197 :: n177 :: (one p_arrows48 (.lst ws_arrows48)) :: (one p99 (.lst ws100)) :: (one p85 (.lst ws86)) :: m_bag_here48 :: m_field48 :: (one p204 (.lst ws205)) :: (one p201 (.lst ws202)) :: R) := S213.pick 7 (Nat.le_of_ble_eq_true rfl)
          have S215 : St H206 (A197 :: n177 :: (one p_arrows48 (.lst ws_arrows48)) :: (one p99 (.lst ws100)) :: (one p85 (.lst ws86)) :: m_bag_here48 :: m_field48 :: (one p201 (.lst ws202)) :: R) := S214.drop 6 (Nat.le_of_ble_eq_true rfl)
          have S216 : St H206 (A197 :: n177 :: (one p_arrows48 (.lst ws_arrows48)) :: (one p99 (.lst ws100)) :: (one p85 (.lst ws86)) :: m_bag_here48 :: m_field48 :: R) := S215.drop 6 (Nat.le_of_ble_eq_true rfl)
          exact hK185 _ _ _ z170 _ () eC189 S216 rfl rfl h
        ·
          have S217 : St H206 (A197 :: m_field48 :: (one p204 (.lst ws205)) :: (one p201 (.lst ws202)) :: n177 :: (one p_arrows48 (.lst ws_arrows48)) :: (one p99 (.lst ws100)) :: (one p85 (.lst ws86)) :: m_bag_here48 :: R) := S207.pick 7 (Nat.le_of_ble_eq_true rfl)
          have S218 : St H206 (A197 :: m_bag_here48 :: m_field48 :: (one p204 (.lst ws205)) :: (one p201 (.lst ws202)) :: n177 :: (one p_arrows48 (.lst ws_arrows48)) :: (one p99 (.lst ws100)) :: (one p85 (.lst ws86)) :: R) := S217.pick 7 (Nat.le_of_ble_eq_true rfl)
          have S219 : St H206 (A197 :: (one p85 (.lst ws86)) :: m_bag_here48 :: m_field48 :: (one p204 (.lst ws205)) :: (one p201 (.lst ws202)) :: n177 :: (one p_arrows48 (.lst ws_arrows48)) :: (one p99 (.lst ws100)) :: R) := S218.pick 7 (Nat.le_of_ble_eq_true rfl)
          have S220 : St H206 (A197 :: (one p99 (.lst ws100)) :: (one p85 (.lst ws86)) :: m_bag_here48 :: m_field48 :: (one p204 (.lst ws205)) :: (one p201 (.lst ws202)) :: n177 :: (one p_arrows48 (.lst ws_arrows48)) :: R) := S219.pick 7 (Nat.le_of_ble_eq_true rfl)
          have S221 : St H206 (A197 :: (one p_arrows48 (.lst ws_arrows48)) :: (one p99 (.lst ws100)) :: (one p85 (.lst ws86)) :: m_bag_here48 :: m_field48 :: (one p204 (.lst ws205)) :: (one p201 (.lst ws202)) :: n177 :: R) := S220.pick 7 (Nat.le_of_ble_eq_true rfl)
          have S222 : St H206 (A197 :: n177 :: (one p_arrows48 (.lst ws_arrows48)) :: (one p99 (.lst ws100)) :: (one p85 (.lst ws86)) :: m_bag_here48 :: m_field48 :: (one p204 (.lst ws205)) :: (one p201 (.lst ws202)) :: R) := S221.pick 7 (Nat.le_of_ble_eq_true rfl)
          have S223 : St H206 (A197 :: n177 :: (one p_arrows48 (.lst ws_arrows48)) :: (one p99 (.lst ws100)) :: (one p85 (.lst ws86)) :: m_bag_here48 :: m_field48 :: (one p201 (.lst ws202)) :: R) := S222.drop 6 (Nat.le_of_ble_eq_true rfl)
          have S224 : St H206 (A197 :: n177 :: (one p_arrows48 (.lst ws_arrows48)) :: (one p99 (.lst ws100)) :: (one p85 (.lst ws86)) :: m_bag_here48 :: m_field48 :: R) := S223.drop 6 (Nat.le_of_ble_eq_true rfl)
          exact hK186 _ _ _ () eC189 S224 rfl h
      ·
        obtain rfl := hR233
        have e0 := e0.trans e231
        have eL72 := eL72.trans e231
        have h74 := upO h74 e231
        have h_rows_here := up h_rows_here e231
        have h75 := upO h75 e231
        have h73 := OL.up h73 e231
        have h112 := up h112 e231
        have h166 := up h166 e231
        have h236 := frz_is h234 S232
        have S237 := S232.frz
        have e235 := same_join_l (A := A227) (B := (one p226 (.lst ws230)))
        generalize hjA238 : join A227 (one p226 (.lst ws230)) = A238 at h236 S237 e235
        clear hjA238
        have e0 := e0.trans e235
        have eL72 := eL72.trans e235
        have h74 := upO h74 e235
        have h_rows_here := up h_rows_here e235
        have h75 := upO h75 e235
        have h73 := OL.up h73 e235
        have h112 := up h112 e235
        have h166 := up h166 e235
        refine s_if ?_
        refine q_testS (A := A238) (fun (A_ : Hp) (R_ : List Hp) (s : Bag) => ∃ (m_bag_here239 : Hp), (one p_arrows48 (.lst ws_arrows48)) :: (one p99 (.lst ws100)) :: (one p85 (.lst ws86)) :: m_bag_here239 :: m_field48 :: R = R_ ∧ Ob.isAt T A_ m_bag_here239 v_bag_here (s : Bag)) h (fun Qb241 hk240 h => ?_) (fun b242 A243 H244 R245 e246 S247 hR248 h => ?_)
        ·
          have eT249 : Same A238 A238 := Same.refl _
          refine c_and ?_
          refine c_tst (c_op (c_var rfl (c_tlst (c_nil (c_lst (α := (Int × Int)) (vs := []) (xs := []) (Nat.le_of_ble_eq_true rfl) trivial (ow S237 fun p250 ws251 H252 S253 h254 => ?_))))))
          refine c_neD (α := (List (Int × Int))) (x := s54.1) (y := ([] : List (Int × Int))) (dp_la S253 ⟨_, _, rfl, (S253.mem _ (List.mem_of_getElem? (i := 2) rfl)) _ _ one_same, h73⟩) (dp_la S253 ⟨_, _, rfl, (S253.mem _ (List.mem_of_getElem? (i := 1) rfl)) _ _ one_same, h254⟩) (Nat.le_of_ble_eq_true rfl) (c_bl (?_))
          refine c_andS h (fun hc h => ?_) (fun hc h => ?_)
          ·
            have S255 : St H252 (A238 :: m_bag_here48 :: (one p250 (.lst ws251)) :: (one p_arrows48 (.lst ws_arrows48)) :: (one p99 (.lst ws100)) :: (one p85 (.lst ws86)) :: m_field48 :: R) := S253.pick 4 (Nat.le_of_ble_eq_true rfl)
            refine c_tst (c_op (c_call (c_cons (c_var rfl (c_cons (c_c (c_nil (⟨A238, ((one p250 (.lst ws251)) :: (one p_arrows48 (.lst ws_arrows48)) :: (one p99 (.lst ws100)) :: (one p85 (.lst ws86)) :: m_field48 :: R), m_bag_here48, v_bag_here, s54.2.1, (6 : Int), rfl, S255, h74, ?_⟩))))))))
            refine Res.wp_mono (Res.wp_noex (Res.wp_bind h)) (fun y256 h A257 H258 m262 e259 S260 h261 => ?_) (fun _ _ h => h.elim)
            have e0 := e0.trans e259
            have eL72 := eL72.trans e259
            have eT249 := eT249.trans e259
            have h_rows_here := up h_rows_here e259
            have h75 := upO h75 e259
            have h73 := OL.up h73 e259
            have h112 := up h112 e259
            have h166 := up h166 e259
            have h236 := up h236 e259
            refine c_c (c_eqI (c_bl (?_)))
            have S263 : St H258 (A257 :: m_field48 :: m262 :: (one p250 (.lst ws251)) :: (one p_arrows48 (.lst ws_arrows48)) :: (one p99 (.lst ws100)) :: (one p85 (.lst ws86)) :: R) := S260.pick 5 (Nat.le_of_ble_eq_true rfl)
            have S264 : St H258 (A257 :: m262 :: m_field48 :: (one p250 (.lst ws251)) :: (one p_arrows48 (.lst ws_arrows48)) :: (one p99 (.lst ws100)) :: (one p85 (.lst ws86)) :: R) := S263.pick 1 (Nat.le_of_ble_eq_true rfl)
            have S265 : St H258 (A257 :: (one p85 (.lst ws86)) :: m262 :: m_field48 :: (one p250 (.lst ws251)) :: (one p_arrows48 (.lst ws_arrows48)) :: (one p99 (.lst ws100)) :: R) := S264.pick 5 (Nat.le_of_ble_eq_true rfl)
            have S266 : St H258 (A257 :: (one p99 (.lst ws100)) :: (one p85 (.lst ws86)) :: m262 :: m_field48 :: (one p250 (.lst ws251)) :: (one p_arrows48 (.lst ws_arrows48)) :: R) := S265.pick 5 (Nat.le_of_ble_eq_true rfl)
            have S267 : St H258 (A257 :: (one p_arrows48 (.lst ws_arrows48)) :: (one p99 (.lst ws100)) :: (one p85 (.lst ws86)) :: m262 :: m_field48 :: (one p250 (.lst ws251)) :: R) := S266.pick 5 (Nat.le_of_ble_eq_true rfl)
            have S268 : St H258 (A257 :: (one p_arrows48 (.lst ws_arrows48)) :: (one p99 (.lst ws100)) :: (one p85 (.lst ws86)) :: m262 :: m_field48 :: R) := S267.drop 5 (Nat.le_of_ble_eq_true rfl)
            exact hk240 _ y256.2 _ _ _ eT249 S268 ⟨m262, rfl, h261⟩ h
          ·
            have S269 : St H252 (A238 :: m_field48 :: (one p250 (.lst ws251)) :: (one p_arrows48 (.lst ws_arrows48)) :: (one p99 (.lst ws100)) :: (one p85 (.lst ws86)) :: m_bag_here48 :: R) := S253.pick 5 (Nat.le_of_ble_eq_true rfl)
            have S270 : St H252 (A238 :: m_bag_here48 :: m_field48 :: (one p250 (.lst ws251)) :: (one p_arrows48 (.lst ws_arrows48)) :: (one p99 (.lst ws100)) :: (one p85 (.lst ws86)) :: R) := S269.pick 5 (Nat.le_of_ble_eq_true rfl)
            have S271 : St H252 (A238 :: (one p85 (.lst ws86)) :: m_bag_here48 :: m_field48 :: (one p250 (.lst ws251)) :: (one p_arrows48 (.lst ws_arrows48)) :: (one p99 (.lst ws100)) :: R) := S270.pick 5 (Nat.le_of_ble_eq_true rfl)
            have S272 : St H252 (A238 :: (one p99 (.lst ws100)) :: (one p85 (.lst ws86)) :: m_bag_here48 :: m_field48 :: (one p250 (.lst ws251)) :: (one p_arrows48 (.lst ws_arrows48)) :: R) := S271.pick 5 (Nat.le_of_ble_eq_true rfl)
            have S273 : St H252 (A238 :: (one p_arrows48 (.lst ws_arrows48)) :: (one p99 (.lst ws100)) :: (one p85 (.lst ws86)) :: m_bag_here48 :: m_field48 :: (one p250 (.lst ws251)) :: R) := S272.pick 5 (Nat.le_of_ble_eq_true rfl)
            have S274 : St H252 (A238 :: (one p_arrows48 (.lst ws_arrows48)) :: (one p99 (.lst ws100)) :: (one p85 (.lst ws86)) :: m_bag_here48 :: m_field48 :: R) := S273.drop 5 (Nat.le_of_ble_eq_true rfl)
            exact hk240 _ s54.2.1 _ _ _ eT249 S274 ⟨m_bag_here48, rfl, h74⟩ h
        ·
          obtain ⟨m_bag_here239, rfl, h275⟩ := hR248
          have e0 := e0.trans e246
          have eL72 := eL72.trans e246
          have h_rows_here := up h_rows_here e246
          have h75 := upO h75 e246
          have h73 := OL.up h73 e246
          have h112 := up h112 e246
          have h166 := up h166 e246
          have h236 := up h236 e246
          refine c_if h (fun hc h => ?_) (fun hc h => ?_)
          ·
            refine q_asg ?_
            have S276 : St H244 (A243 :: m_bag_here239 :: (one p_arrows48 (.lst ws_arrows48)) :: (one p99 (.lst ws100)) :: (one p85 (.lst ws86)) :: m_field48 :: R) := S247.pick 3 (Nat.le_of_ble_eq_true rfl)
            refine c_bm (c_var rfl (c_and2 (.inl ⟨rfl, _, SqL.of ((S247.mem _ (List.mem_of_getElem? (i := 1) rfl)) _ _ one_same)⟩) (c_cons (c_call (c_cons (c_var rfl (c_cons (c_cb (c_cons (c_var rfl (c_nil (c_len ⟨_, _, rfl, (S247.mem _ (List.mem_of_getElem? (i := 1) rfl)) _ _ one_same, h73⟩ (c_nil (⟨A243, ((one p_arrows48 (.lst ws_arrows48)) :: (one p99 (.lst ws100)) :: (one p85 (.lst ws86)) :: m_field48 :: R), m_bag_here239, v_bag_here, b242.2, (s54.1.length : Int), rfl, S276, h275, ?_⟩))))))))))))))
            refine Res.wp_mono (Res.wp_noex (Res.wp_bind h)) (fun y277 h A278 H279 m283 e280 S281 h282 => ?_) (fun _ _ h => h.elim)
            have e0 := e0.trans e280
            have eL72 := eL72.trans e280
            have h_rows_here := up h_rows_here e280
            have h75 := upO h75 e280
            have h73 := OL.up h73 e280
            have h112 := up h112 e280
            have h166 := up h166 e280
            have h236 := up h236 e280
            refine c_nil (?_)
            have S284 : St H279 (A278 :: (one p_arrows48 (.lst ws_arrows48)) :: m283 :: (one p99 (.lst ws100)) :: (one p85 (.lst ws86)) :: m_field48 :: R) := S281.pick 1 (Nat.le_of_ble_eq_true rfl)
            refine c_popAt S284 h73 h fun y289 w290 ws288 H287 h291 h S286 h285 => ?_
            refine s_when ?_
            have S292 : St H287 (A278 :: m_field48 :: (one p_arrows48 (.lst ws288)) :: m283 :: (one p99 (.lst ws100)) :: (one p85 (.lst ws86)) :: R) := S286.pick 4 (Nat.le_of_ble_eq_true rfl)
            refine c_tst (c_op (c_met (c_var rfl (f_met S292 h75 (by decide +kernel) (c_cons (c_op (c_var rfl (c_c (c_ixT0 S292 h291 fun w294 h295 => ?_)))))))))
            obtain rfl : w294 = (.int y289.1.1) := h295
            refine c_nil (⟨A278, ((one p_arrows48 (.lst ws288)) :: m283 :: (one p99 (.lst ws100)) :: (one p85 (.lst ws86)) :: R), m_field48, v_field, s54.2.2, y289.1.1, rfl, S292, h75, ?_⟩)
            refine Res.wp_mono (Res.wp_noex (Res.wp_bind h)) (fun y296 h A297 H298 m302 e299 S300 h301 => ?_) (fun _ _ h => h.elim)
            have e0 := e0.trans e299
            have eL72 := eL72.trans e299
            have h282 := upO h282 e299
            have h_rows_here := up h_rows_here e299
            have h285 := OL.up h285 e299
            have h112 := up h112 e299
            have h166 := up h166 e299
            have h236 := up h236 e299
            have h291 := up h291 e299
            refine c_op (c_var rfl (c_c (c_ixT1 S300 h291 fun w304 h305 => ?_)))
            obtain rfl : w304 = (.int y289.1.2) := h305
            refine c_neI (c_bl (?_))
            refine c_if h (fun hc h => ?_) (fun hc h => ?_)
            ·
              refine s_ret ?_
              refine c_c (?_)
              have S306 : St H298 (A297 :: (one p_arrows48 (.lst ws288)) :: m283 :: (one p99 (.lst ws100)) :: (one p85 (.lst ws86)) :: R) := S300.drop 0 (Nat.le_of_ble_eq_true rfl)
              have S307 : St H298 (A297 :: m283 :: (one p99 (.lst ws100)) :: (one p85 (.lst ws86)) :: R) := S306.drop 0 (Nat.le_of_ble_eq_true rfl)
              have S308 : St H298 (A297 :: (one p99 (.lst ws100)) :: (one p85 (.lst ws86)) :: R) := S307.drop 0 (Nat.le_of_ble_eq_true rfl)
              have S309 : St H298 (A297 :: (one p85 (.lst ws86)) :: R) := S308.drop 0 (Nat.le_of_ble_eq_true rfl)
              have S310 : St H298 (A297 :: R) := S309.drop 0 (Nat.le_of_ble_eq_true rfl)
              exact h (A297) (H298) e0 S310 
            ·
              have S311 : St H298 (A297 :: (one p_arrows48 (.lst ws288)) :: m302 :: m283 :: (one p99 (.lst ws100)) :: (one p85 (.lst ws86)) :: R) := S300.pick 1 (Nat.le_of_ble_eq_true rfl)
              have S312 : St H298 (A297 :: m283 :: (one p_arrows48 (.lst ws288)) :: m302 :: (one p99 (.lst ws100)) :: (one p85 (.lst ws86)) :: R) := S311.pick 2 (Nat.le_of_ble_eq_true rfl)
              have S313 : St H298 (A297 :: m283 :: (one p_arrows48 (.lst ws288)) :: m302 :: (one p85 (.lst ws86)) :: R) := S312.drop 3 (Nat.le_of_ble_eq_true rfl)
              have S314 : St H298 (A297 :: m283 :: (one p_arrows48 (.lst ws288)) :: m302 :: R) := S313.drop 3 (Nat.le_of_ble_eq_true rfl)
              exact hN62 _ _ _ _ (y289.2, y277.2, y296.2) eL72 S314 ⟨p_arrows48, ws288, m283, m302, _, _, _, _, _, _, _, _, _, _, rfl, rfl, h285, h282, h301⟩ h
          ·
            refine s_when ?_
            refine c_tst (c_op (c_var rfl (c_tlst (c_nil (c_lst (α := Int) (vs := []) (xs := []) (Nat.le_of_ble_eq_true rfl) trivial (ow S247 fun p315 ws316 H317 S318 h319 => ?_))))))
            refine c_neD (α := (List Int)) (x := y225.1) (y := ([] : List Int)) (dp_of S318 h236) (dp_la S318 ⟨_, _, rfl, (S318.mem _ (List.mem_of_getElem? (i := 1) rfl)) _ _ one_same, h319⟩) (Nat.le_of_ble_eq_true rfl) (c_bl (?_))
            refine c_if h (fun hc h => ?_) (fun hc h => ?_)
            ·
              refine q_asg ?_
              have S320 : St H317 (A243 :: m_bag_here239 :: (one p315 (.lst ws316)) :: (one p_arrows48 (.lst ws_arrows48)) :: (one p99 (.lst ws100)) :: (one p85 (.lst ws86)) :: m_field48 :: R) := S318.pick 4 (Nat.le_of_ble_eq_true rfl)
              refine c_op (c_var rfl (c_call (c_cons (c_var rfl (c_cons (c_cb (c_cons (c_var rfl (c_nil (c_len (la_of S318 h236) (c_nil (⟨A243, ((one p315 (.lst ws316)) :: (one p_arrows48 (.lst ws_arrows48)) :: (one p99 (.lst ws100)) :: (one p85 (.lst ws86)) :: m_field48 :: R), m_bag_here239, v_bag_here, b242.2, (y225.1.length : Int), rfl, S320, h275, ?_⟩))))))))))))
              refine Res.wp_mono (Res.wp_noex (Res.wp_bind h)) (fun y321 h A322 H323 m327 e324 S325 h326 => ?_) (fun _ _ h => h.elim)
              have e0 := e0.trans e324
              have eL72 := eL72.trans e324
              have h_rows_here := up h_rows_here e324
              have h75 := upO h75 e324
              have h73 := OL.up h73 e324
              have h112 := up h112 e324
              have h166 := up h166 e324
              have h236 := up h236 e324
              refine c_ixI (la_of S325 h236) h fun t328 h => ?_
              refine q_asg ?_
              refine c_call (c_cons (c_op (c_op (c_var rfl (c_var rfl (c_ix (la_of S325 h_rows_here) h fun t329 w330 h331 h => ?_))))))
              refine c_c (c_ixO1 S325 h331 h fun t332 w333 h334 h => ?_)
              refine c_cons (c_var rfl (c_nil (⟨A322, (m327 :: (one p315 (.lst ws316)) :: (one p_arrows48 (.lst ws_arrows48)) :: (one p99 (.lst ws100)) :: (one p85 (.lst ws86)) :: m_field48 :: R), w333, t332.2, (.ref p158), t157, rfl, S325, h334, h166, ?_⟩)))
              refine Res.wp_mono (Res.wp_noex (Res.wp_bind h)) (fun y335 h A336 H337 p340 ws341 e338 S339 h342 => ?_) (fun _ _ h => h.elim)
              have e0 := e0.trans e338
              have eL72 := eL72.trans e338
              have h326 := upO h326 e338
              have h_rows_here := up h_rows_here e338
              have h75 := upO h75 e338
              have h73 := OL.up h73 e338
              have h112 := up h112 e338
              have h166 := up h166 e338
              have h236 := up h236 e338
              have h344 := frz_is h342 S339
              have S345 := S339.frz
              have e343 := same_join_l (A := A336) (B := (one p340 (.lst ws341)))
              generalize hjA346 : join A336 (one p340 (.lst ws341)) = A346 at h344 S345 e343
              clear hjA346
              have e0 := e0.trans e343
              have eL72 := eL72.trans e343
              have h326 := upO h326 e343
              have h_rows_here := up h_rows_here e343
              have h75 := upO h75 e343
              have h73 := OL.up h73 e343
              have h112 := up h112 e343
              have h166 := up h166 e343
              have h236 := up h236 e343
              refine q_asg ?_
              refine c_op (c_var rfl (c_call (c_cons (c_var rfl (c_cons (c_cb (c_cons (c_var rfl (c_nil (c_len (la_of S345 h344) (c_nil (⟨A346, ((one p315 (.lst ws316)) :: (one p_arrows48 (.lst ws_arrows48)) :: (one p99 (.lst ws100)) :: (one p85 (.lst ws86)) :: m_field48 :: R), m327, v_bag_here, y321.2, (y335.length : Int), rfl, S345, h326, ?_⟩))))))))))))
              refine Res.wp_mono (Res.wp_noex (Res.wp_bind h)) (fun y347 h A348 H349 m353 e350 S351 h352 => ?_) (fun _ _ h => h.elim)
              have e0 := e0.trans e350
              have eL72 := eL72.trans e350
              have h_rows_here := up h_rows_here e350
              have h75 := upO h75 e350
              have h73 := OL.up h73 e350
              have h112 := up h112 e350
              have h166 := up h166 e350
              have h236 := up h236 e350
              have h344 := up h344 e350
              refine c_ixI (la_of S351 h344) h fun t354 h => ?_
              refine q_asg ?_
              refine c_cb (c_cons (c_op (c_var rfl (c_tlst (c_cons (c_ttup (c_cons (c_var rfl (c_cons (c_var rfl (c_nil (c_tup (α := Int) (β := Int) (x := t354) (y := t328) S351 rfl rfl fun p355 A356 H357 e358 S359 h360 => ?_))))))))))))
              have e0 := e0.trans e358
              have eL72 := eL72.trans e358
              have h352 := upO h352 e358
              have h_rows_here := up h_rows_here e358
              have h75 := upO h75 e358
              have h73 := OL.up h73 e358
              have h112 := up h112 e358
              have h166 := up h166 e358
              have h236 := up h236 e358
              have h344 := up h344 e358
              refine c_nil (c_lst (α := (Int × Int)) (vs := [(.ref p355)]) (xs := [(t354, t328)]) (Nat.le_of_ble_eq_true rfl) ⟨h360, trivial⟩ (ow S359 fun p361 ws362 H363 S364 h365 => ?_))
              refine c_cat ⟨_, _, rfl, (S364.mem _ (List.mem_of_getElem? (i := 4) rfl)) _ _ one_same, h73⟩ ⟨_, _, rfl, (S364.mem _ (List.mem_of_getElem? (i := 1) rfl)) _ _ one_same, h365⟩ h fun t366 h => (ow S364 fun p367 ws368 H369 S370 h371 => ?_)
              refine c_nil (c_sortP S370 ⟨_, _, rfl, (S370.mem _ (List.mem_of_getElem? (i := 1) rfl)) _ _ one_same, h371⟩ h fun t372 h => (ow S370 fun p373 ws374 H375 S376 h377 => ?_))
              refine q_asg ?_
              refine c_ife ?_
              have h380 := frz_is h377 S376
              have S378 := S376.frz
              have e379 := same_join_l (A := A356) (B := (one p373 (.lst ws374)))
              refine c_tb (c_call (c_cons (c_var rfl (c_cons (c_var rfl (c_nil (⟨(join A356 (one p373 (.lst ws374))), ((one p367 (.lst ws368)) :: (one p361 (.lst ws362)) :: m353 :: (one p315 (.lst ws316)) :: (one p_arrows48 (.lst ws_arrows48)) :: (one p99 (.lst ws100)) :: (one p85 (.lst ws86)) :: m_field48 :: R), v_rows_here, x_rows_here, (.ref p373), t372, rfl, S378, (up h_rows_here e379), h380, ?_⟩)))))))
              refine Res.wp_mono (Res.wp_noex (Res.wp_bind h)) (fun y381 h A382 H383 e384 S385 => ?_) (fun _ _ h => h.elim)
              have S386 := S385.back1 ((same_join_r S376.dj).trans e384)
              have e387 := same_minus S376 e384
              generalize minus A382 (one p373 (.lst ws374)) = A388 at S386 e387
              have e0 := e0.trans e387
              have eL72 := eL72.trans e387
              have h352 := upO h352 e387
              have h_rows_here := up h_rows_here e387
              have h75 := upO h75 e387
              have h73 := OL.up h73 e387
              have h112 := up h112 e387
              have h166 := up h166 e387
              have h236 := up h236 e387
              have h344 := up h344 e387
              have h377 := OL.up h377 e387
              refine c_bl (?_)
              refine q_val (α := Str) (te := fun σ H Q => if y381 = true then (tC (.str "ring")) σ H Q else (tC (.str "tied")) σ H Q) (A := A388) (R := (one p373 (.lst ws374)) :: (one p367 (.lst ws368)) :: (one p361 (.lst ws362)) :: m353 :: (one p315 (.lst ws316)) :: (one p_arrows48 (.lst ws_arrows48)) :: (one p99 (.lst ws100)) :: (one p85 (.lst ws86)) :: m_field48 :: R) h (fun Qv392 hk391 h => ?_) (fun x389 w390 A393 H394 e395 S396 h397 h => ?_)
              ·
                have eV398 : Same A388 A388 := Same.refl _
                refine c_if h (fun hc h => ?_) (fun hc h => ?_)
                ·
                  refine c_c (?_)
                  exact hk391 ("ring" : Str) _ _ _ eV398 S386 rfl h
                ·
                  refine c_c (?_)
                  exact hk391 ("tied" : Str) _ _ _ eV398 S386 rfl h
              ·
                have e0 := e0.trans e395
                have eL72 := eL72.trans e395
                have h352 := upO h352 e395
                have h_rows_here := up h_rows_here e395
                have h75 := upO h75 e395
                have h73 := OL.up h73 e395
                have h112 := up h112 e395
                have h166 := up h166 e395
                have h236 := up h236 e395
                have h344 := up h344 e395
                have h377 := OL.up h377 e395
                obtain rfl : w390 = (.str x389) := h397
                refine q_when ?_
                have S399 : St H394 (A393 :: m_field48 :: (one p373 (.lst ws374)) :: (one p367 (.lst ws368)) :: (one p361 (.lst ws362)) :: m353 :: (one p315 (.lst ws316)) :: (one p_arrows48 (.lst ws_arrows48)) :: (one p99 (.lst ws100)) :: (one p85 (.lst ws86)) :: R) := S396.pick 8 (Nat.le_of_ble_eq_true rfl)
                refine c_tst (c_op (c_call (c_cons (c_var rfl (c_cons (c_var rfl (c_cons (c_var rfl (c_nil (⟨A393, ((one p373 (.lst ws374)) :: (one p367 (.lst ws368)) :: (one p361 (.lst ws362)) :: m353 :: (one p315 (.lst ws316)) :: (one p_arrows48 (.lst ws_arrows48)) :: (one p99 (.lst ws100)) :: (one p85 (.lst ws86)) :: R), m_field48, v_field, s54.2.2, t354, t328, rfl, S399, h75, ?_⟩))))))))))
                refine Res.wp_mono (Res.wp_noex (Res.wp_bind h)) (fun y400 h A401 H402 m406 e403 S404 h405 => ?_) (fun _ _ h => h.elim)
                have e0 := e0.trans e403
                have eL72 := eL72.trans e403
                have h352 := upO h352 e403
                have h_rows_here := up h_rows_here e403
                have h73 := OL.up h73 e403
                have h112 := up h112 e403
                have h166 := up h166 e403
                have h236 := up h236 e403
                have h344 := up h344 e403
                have h377 := OL.up h377 e403
                refine c_var rfl (c_neS (c_bl (?_)))
                refine c_if h (fun hc h => ?_) (fun hc h => ?_)
                ·
                  refine s_ret ?_
                  refine c_c (?_)
                  have S407 : St H402 (A401 :: (one p373 (.lst ws374)) :: (one p367 (.lst ws368)) :: (one p361 (.lst ws362)) :: m353 :: (one p315 (.lst ws316)) :: (one p_arrows48 (.lst ws_arrows48)) :: (one p99 (.lst ws100)) :: (one p85 (.lst ws86)) :: R) := S404.drop 0 (Nat.le_of_ble_eq_true rfl)
                  have S408 : St H402 (A401 :: (one p367 (.lst ws368)) :: (one p361 (.lst ws362)) :: m353 :: (one p315 (.lst ws316)) :: (one p_arrows48 (.lst ws_arrows48)) :: (one p99 (.lst ws100)) :: (one p85 (.lst ws86)) :: R) := S407.drop 0 (Nat.le_of_ble_eq_true rfl)
                  have S409 : St H402 (A401 :: (one p361 (.lst ws362)) :: m353 :: (one p315 (.lst ws316)) :: (one p_arrows48 (.lst ws_arrows48)) :: (one p99 (.lst ws100)) :: (one p85 (.lst ws86)) :: R) := S408.drop 0 (Nat.le_of_ble_eq_true rfl)
                  have S410 : St H402 (A401 :: m353 :: (one p315 (.lst ws316)) :: (one p_arrows48 (.lst ws_arrows48)) :: (one p99 (.lst ws100)) :: (one p85 (.lst ws86)) :: R) := S409.drop 0 (Nat.le_of_ble_eq_true rfl)
                  have S411 : St H402 (A401 :: (one p315 (.lst ws316)) :: (one p_arrows48 (.lst ws_arrows48)) :: (one p99 (.lst ws100)) :: (one p85 (.lst ws86)) :: R) := S410.drop 0 (Nat.le_of_ble_eq_true rfl)
                  have S412 : St H402 (A401 :: (one p_arrows48 (.lst ws_arrows48)) :: (one p99 (.lst ws100)) :: (one p85 (.lst ws86)) :: R) := S411.drop 0 (Nat.le_of_ble_eq_true rfl)
                  have S413 : St H402 (A401 :: (one p99 (.lst ws100)) :: (one p85 (.lst ws86)) :: R) := S412.drop 0 (Nat.le_of_ble_eq_true rfl)
                  have S414 : St H402 (A401 :: (one p85 (.lst ws86)) :: R) := S413.drop 0 (Nat.le_of_ble_eq_true rfl)
                  have S415 : St H402 (A401 :: R) := S414.drop 0 (Nat.le_of_ble_eq_true rfl)
                  exact h (A401) (H402) e0 S415 
                ·
                  refine s_when ?_
                  refine c_tst (c_op (c_var rfl (c_c (c_eqS (c_bl (?_))))))
                  refine c_if h (fun hc h => ?_) (fun hc h => ?_)
                  ·
                    refine s_asg ?_
                    refine c_var rfl (?_)
                    have S416 : St H402 (A401 :: m406 :: (one p373 (.lst ws374)) :: (one p367 (.lst ws368)) :: (one p361 (.lst ws362)) :: m353 :: (one p315 (.lst ws316)) :: (one p99 (.lst ws100)) :: (one p85 (.lst ws86)) :: R) := S404.drop 6 (Nat.le_of_ble_eq_true rfl)
                    have S417 : St H402 (A401 :: (one p373 (.lst ws374)) :: m406 :: (one p367 (.lst ws368)) :: (one p361 (.lst ws362)) :: m353 :: (one p315 (.lst ws316)) :: (one p99 (.lst ws100)) :: (one p85 (.lst ws86)) :: R) := S416.pick 1 (Nat.le_of_ble_eq_true rfl)
                    have S418 : St H402 (A401 :: m353 :: (one p373 (.lst ws374)) :: m406 :: (one p367 (.lst ws368)) :: (one p361 (.lst ws362)) :: (one p315 (.lst ws316)) :: (one p99 (.lst ws100)) :: (one p85 (.lst ws86)) :: R) := S417.pick 4 (Nat.le_of_ble_eq_true rfl)
                    have S419 : St H402 (A401 :: m353 :: (one p373 (.lst ws374)) :: m406 :: (one p361 (.lst ws362)) :: (one p315 (.lst ws316)) :: (one p99 (.lst ws100)) :: (one p85 (.lst ws86)) :: R) := S418.drop 3 (Nat.le_of_ble_eq_true rfl)
                    have S420 : St H402 (A401 :: m353 :: (one p373 (.lst ws374)) :: m406 :: (one p315 (.lst ws316)) :: (one p99 (.lst ws100)) :: (one p85 (.lst ws86)) :: R) := S419.drop 3 (Nat.le_of_ble_eq_true rfl)
                    have S421 : St H402 (A401 :: m353 :: (one p373 (.lst ws374)) :: m406 :: (one p99 (.lst ws100)) :: (one p85 (.lst ws86)) :: R) := S420.drop 3 (Nat.le_of_ble_eq_true rfl)
                    have S422 : St H402 (A401 :: m353 :: (one p373 (.lst ws374)) :: m406 :: (one p85 (.lst ws86)) :: R) := S421.drop 3 (Nat.le_of_ble_eq_true rfl)
                    have S423 : St H402 (A401 :: m353 :: (one p373 (.lst ws374)) :: m406 :: R) := S422.drop 3 (Nat.le_of_ble_eq_true rfl)
                    exact hN62 _ _ _ _ (t372, y347.2, y400.2) eL72 S423 ⟨p373, ws374, m353, m406, _, _, _, _, _, _, _, _, _, _, rfl, rfl, h377, h352, h405⟩ h
                  ·
                    have S424 : St H402 (A401 :: (one p_arrows48 (.lst ws_arrows48)) :: m406 :: (one p373 (.lst ws374)) :: (one p367 (.lst ws368)) :: (one p361 (.lst ws362)) :: m353 :: (one p315 (.lst ws316)) :: (one p99 (.lst ws100)) :: (one p85 (.lst ws86)) :: R) := S404.pick 6 (Nat.le_of_ble_eq_true rfl)
                    have S425 : St H402 (A401 :: m353 :: (one p_arrows48 (.lst ws_arrows48)) :: m406 :: (one p373 (.lst ws374)) :: (one p367 (.lst ws368)) :: (one p361 (.lst ws362)) :: (one p315 (.lst ws316)) :: (one p99 (.lst ws100)) :: (one p85 (.lst ws86)) :: R) := S424.pick 5 (Nat.le_of_ble_eq_true rfl)
                    have S426 : St H402 (A401 :: m353 :: (one p_arrows48 (.lst ws_arrows48)) :: m406 :: (one p367 (.lst ws368)) :: (one p361 (.lst ws362)) :: (one p315 (.lst ws316)) :: (one p99 (.lst ws100)) :: (one p85 (.lst ws86)) :: R) := S425.drop 3 (Nat.le_of_ble_eq_true rfl)
                    have S427 : St H402 (A401 :: m353 :: (one p_arrows48 (.lst ws_arrows48)) :: m406 :: (one p361 (.lst ws362)) :: (one p315 (.lst ws316)) :: (one p99 (.lst ws100)) :: (one p85 (.lst ws86)) :: R) := S426.drop 3 (Nat.le_of_ble_eq_true rfl)
                    have S428 : St H402 (A401 :: m353 :: (one p_arrows48 (.lst ws_arrows48)) :: m406 :: (one p315 (.lst ws316)) :: (one p99 (.lst ws100)) :: (one p85 (.lst ws86)) :: R) := S427.drop 3 (Nat.le_of_ble_eq_true rfl)
                    have S429 : St H402 (A401 :: m353 :: (one p_arrows48 (.lst ws_arrows48)) :: m406 :: (one p99 (.lst ws100)) :: (one p85 (.lst ws86)) :: R) := S428.drop 3 (Nat.le_of_ble_eq_true rfl)
                    have S430 : St H402 (A401 :: m353 :: (one p_arrows48 (.lst ws_arrows48)) :: m406 :: (one p85 (.lst ws86)) :: R) := S429.drop 3 (Nat.le_of_ble_eq_true rfl)
                    have S431 : St H402 (A401 :: m353 :: (one p_arrows48 (.lst ws_arrows48)) :: m406 :: R) := S430.drop 3 (Nat.le_of_ble_eq_true rfl)
                    exact hN62 _ _ _ _ (s54.1, y347.2, y400.2) eL72 S431 ⟨p_arrows48, ws_arrows48, m353, m406, _, _, _, _, _, _, _, _, _, _, rfl, rfl, h73, h352, h405⟩ h
            ·
              have S432 : St H317 (A243 :: m_field48 :: (one p315 (.lst ws316)) :: (one p_arrows48 (.lst ws_arrows48)) :: (one p99 (.lst ws100)) :: (one p85 (.lst ws86)) :: m_bag_here239 :: R) := S318.pick 5 (Nat.le_of_ble_eq_true rfl)
              have S433 : St H317 (A243 :: (one p_arrows48 (.lst ws_arrows48)) :: m_field48 :: (one p315 (.lst ws316)) :: (one p99 (.lst ws100)) :: (one p85 (.lst ws86)) :: m_bag_here239 :: R) := S432.pick 2 (Nat.le_of_ble_eq_true rfl)
              have S434 : St H317 (A243 :: m_bag_here239 :: (one p_arrows48 (.lst ws_arrows48)) :: m_field48 :: (one p315 (.lst ws316)) :: (one p99 (.lst ws100)) :: (one p85 (.lst ws86)) :: R) := S433.pick 5 (Nat.le_of_ble_eq_true rfl)
              have S435 : St H317 (A243 :: m_bag_here239 :: (one p_arrows48 (.lst ws_arrows48)) :: m_field48 :: (one p99 (.lst ws100)) :: (one p85 (.lst ws86)) :: R) := S434.drop 3 (Nat.le_of_ble_eq_true rfl)
              have S436 : St H317 (A243 :: m_bag_here239 :: (one p_arrows48 (.lst ws_arrows48)) :: m_field48 :: (one p85 (.lst ws86)) :: R) := S435.drop 3 (Nat.le_of_ble_eq_true rfl)
              have S437 : St H317 (A243 :: m_bag_here239 :: (one p_arrows48 (.lst ws_arrows48)) :: m_field48 :: R) := S436.drop 3 (Nat.le_of_ble_eq_true rfl)
              exact hN62 _ _ _ _ (s54.1, b242.2, s54.2.2) eL72 S437 ⟨p_arrows48, ws_arrows48, m_bag_here239, m_field48, _, _, _, _, _, _, _, _, _, _, rfl, rfl, h73, h275, h75⟩ h
  ·
    refine nx_mk ?_
    obtain ⟨p_arrows48, ws_arrows48, m_bag_here48, m_field48, y_bound48, y_lone48, y_highs48, y_gone48, y_high48, y_lows48, y_low48, y_there48, y_due48, y_k48, rfl, rfl, h438, h439, h440⟩ := hR70
    have e0 := e0.trans e68
    have h_rows_here := up h_rows_here e68
    have S441 : St H65 (A64 :: m_field48 :: m_bag_here48 :: (one p_arrows48 (.lst ws_arrows48)) :: R) := S69.pick 2 (Nat.le_of_ble_eq_true rfl)
    have S442 : St H65 (A64 :: (one p_arrows48 (.lst ws_arrows48)) :: m_field48 :: m_bag_here48 :: R) := S441.pick 2 (Nat.le_of_ble_eq_true rfl)
    have S443 : St H65 (A64 :: (one p_arrows48 (.lst ws_arrows48)) :: m_field48 :: R) := S442.drop 2 (Nat.le_of_ble_eq_true rfl)
    exact wk_law_s2 (T := T) (K := K) (E := E)  e0 S443 h_rows_here h440 h438 h
theorem wk_law {T : Cs} {K : PySem.W.Frag} {vs : List V} {H : Hp} {Q : VK} {E : XK} (kl_true : Kl K (T.cls true) true) (h : sp_law T K vs H Q E) : rd_law T K E { nx := fun _ H' => Q .non H', rt := Q } (L2.start ["_law_script", "_law_bag_here", "_law_rows_here", "_law_field", "_law_arrows", "_law_k", "_law_bound", "_law_lone", "_law_highs", "_law_gone", "_law_high", "_law_lows", "_law_low", "_law_there", "_law_due", "_law_x"] vs) H := by
  obtain ⟨A, R, v_script, x_script, rfl, S, h_script, h⟩ := h
  unfold m_law at h
  unfold rd_law
  have e0 : Same A A := Same.refl _
  refine q_asg ?_
  refine c_call (c_cons (c_var rfl (c_nil (⟨A, (R), v_script, x_script, rfl, S, h_script, ?_⟩))))
  refine Res.wp_mono (Res.wp_noex (Res.wp_bind h)) (fun y1 h A2 H3 v6 m7 e4 S5 h8 => ?_) (fun _ _ h => h.elim)
  have e0 := e0.trans e4
  have h_script := upS h_script e4
  refine q_asg ?_
  refine c_call (c_cons (c_var rfl (c_cons (c_c (c_nil (⟨A2, (R), m7, v6, y1, (12 : Int), rfl, S5, h8, ?_⟩))))))
  refine Res.wp_mono (Res.wp_noex (Res.wp_bind h)) (fun y9 h A10 H11 p14 ws15 m18 e12 S13 h16 h17 => ?_) (fun _ _ h => h.elim)
  have e0 := e0.trans e12
  have h_script := upS h_script e12
  have h20 := frz_is h16 S13
  have S21 := S13.frz
  have e19 := same_join_l (A := A10) (B := (one p14 (.lst ws15)))
  generalize hjA22 : join A10 (one p14 (.lst ws15)) = A22 at h20 S21 e19
  clear hjA22
  have e0 := e0.trans e19
  have h_script := upS h_script e19
  have h17 := upO h17 e19
  refine q_asg ?_
  refine c_call (c_cons (c_new (t := true) S21 fun p23 m24 H25 S26 h27 => ?_))
  refine c_cons (c_var rfl (c_nil (⟨A22, (m18 :: R), m24, (.ref p23), (emptyF true), (.ref p14), y9.1, rfl, S26, h27, h20, ?_⟩)))
  refine Res.wp_mono (Res.wp_noex (Res.wp_bind h)) (fun y28 h A29 H30 m34 e31 S32 h33 => ?_) (fun _ _ h => h.elim)
  have e0 := e0.trans e31
  have h_script := upS h_script e31
  have h17 := upO h17 e31
  have h20 := up h20 e31
  refine q_asg ?_
  refine c_tlst (c_nil (c_lst (α := (Int × Int)) (vs := []) (xs := []) (Nat.le_of_ble_eq_true rfl) trivial (ow S32 fun p35 ws36 H37 S38 h39 => ?_)))
  exact wk_law_s1 (T := T) (K := K) (E := E) kl_true e0 S38 h17 h20 h33 h39 h
abbrev s_law : Stmt := topS 51
theorem sc_law : FnScope ["_law_script", "_law_bag_here", "_law_rows_here", "_law_field", "_law_arrows", "_law_k", "_law_bound", "_law_lone", "_law_highs", "_law_gone", "_law_high", "_law_lows", "_law_low", "_law_there", "_law_due", "_law_x"] ["_law_script"] (defScope s_law) := ⟨rfl, rfl, rfl, by decide +kernel, rfl, by decide +kernel, by decide +kernel⟩
theorem ok_law {P : Program} {w : World} {K : PySem.W.Frag} {mg : Str → Option Value} {base : Heap} {T : Cs} {f : Addr} {fd : FuncData} {f_law_bag : Addr} {fd_law_bag : FuncData} {f_law_rows : Addr} {fd_law_rows : FuncData} {fN_Field : Addr} {fdN_Field : FuncData} {f_law_fill_true : Addr} {fd_law_fill_true : FuncData} {f_law_pull : Addr} {fd_law_pull : FuncData} {f_law_tails : Addr} {fd_law_tails : FuncData} {f_law_heads : Addr} {fd_law_heads : FuncData} {f_law_here : Addr} {fd_law_here : FuncData} {f_law_parted : Addr} {fd_law_parted : FuncData} {f_Field_untie : Addr} {fd_Field_untie : FuncData} {f_law_ringed : Addr} {fd_law_ringed : FuncData} {f_law_tied_or_ring : Addr} {fd_law_tied_or_ring : FuncData} {f_law_kept : Addr} {fd_law_kept : FuncData} (F : Fun K "law" "law" s_law f fd) (bi : Bi mg) (G_law_bag : Glob P w K mg base CX0 1 "_law_bag" ["_law_script"] (sp_law_bag T K) f_law_bag fd_law_bag) (G_law_rows : Glob P w K mg base CX0 4 "_law_rows" ["_law_bag_here", "_law_most"] (sp_law_rows T K) f_law_rows fd_law_rows) (N_Field : NGlob P w K mg base 2 (T.cls true) "Field" (sp_new true T K) fN_Field fdN_Field) (G_law_fill_true : Glob P w K mg base CX0 5 "_law_fill" ["_law_body", "_law_rows_here"] (sp_law_fill true T K) f_law_fill_true fd_law_fill_true) (G_law_pull : Glob P w K mg base CX0 1 "_law_pull" ["_law_bag_here", "_law_many"] (sp_law_pull T K) f_law_pull fd_law_pull) (G_law_tails : Glob P w K mg base CX0 1 "_law_tails" ["_law_arrows"] (sp_law_tails T K) f_law_tails fd_law_tails) (G_law_heads : Glob P w K mg base CX0 1 "_law_heads" ["_law_arrows"] (sp_law_heads T K) f_law_heads fd_law_heads) (G_law_here : Glob P w K mg base CX0 1 "_law_here" ["_law_rows_here"] (sp_law_here T K) f_law_here fd_law_here) (G_law_parted : Glob P w K mg base CX0 1 "_law_parted" ["_law_row_here", "_law_keep"] (sp_law_parted T K) f_law_parted fd_law_parted) (G_Field_untie : MGlob P w K mg base (L2.CX P w) 2 (T.cls true) "untie" ["self", "low"] (sp_Field_untie T K) f_Field_untie fd_Field_untie) (G_law_ringed : Glob P w K mg base CX0 3 "_law_ringed" ["_law_rows_here", "_law_arrows"] (sp_law_ringed T K) f_law_ringed fd_law_ringed) (G_law_tied_or_ring : Glob P w K mg base CX0 4 "_law_tied_or_ring" ["_law_field", "_law_low", "_law_high"] (sp_law_tied_or_ring T K) f_law_tied_or_ring fd_law_tied_or_ring) (G_law_kept : Glob P w K mg base CX0 5 "_law_kept" ["_law_field", "_law_rows_here", "_law_arrows"] (sp_law_kept T K) f_law_kept fd_law_kept)  (kl_true : Kl K (T.cls true) true) : FnOk P w K mg base CX0 6 f fd ["_law_script"] (sp_law T K) := by
  refine F.ok sc_law (fun vs H Q E h => ?_) (fun cdv A outer s H vs Q E hr h => ⟨rd_law T K E, ?_, wk_law kl_true h⟩)
  · obtain ⟨_, _, _, _, rfl, _⟩ := h
    rfl
  · exact (pss_cons (ps_set (i := 1) sc_law.nd rfl (Or.inl rfl) (pe_call G_law_bag.ok (hr.mono (Nat.le_of_ble_eq_true rfl)) (by rfl) G_law_bag.g G_law_bag.kp G_law_bag.b .nil pass0 (pa_cons (pv 0) pa_nil)))
      (pss_cons (ps_set (i := 2) sc_law.nd rfl (Or.inr rfl) (pe_call G_law_rows.ok (hr.mono (Nat.le_of_ble_eq_true rfl)) (by rfl) G_law_rows.g G_law_rows.kp G_law_rows.b .nil pass0 (pa_cons (pv 1) (pa_cons pe_int pa_nil))))
      (pss_cons (ps_set (i := 3) sc_law.nd rfl (Or.inl rfl) (pe_call G_law_fill_true.ok (hr.mono (Nat.le_of_ble_eq_true rfl)) (by rfl) G_law_fill_true.g G_law_fill_true.kp G_law_fill_true.b .nil pass0 (pa_cons (pe_make0 N_Field.made N_Field.ok (hr.mono (Nat.le_of_ble_eq_true rfl)) (by rfl) N_Field.g N_Field.b .nil pass0) (pa_cons (pv 2) pa_nil))))
      (pss_cons (ps_set (i := 4) sc_law.nd rfl (Or.inl rfl) (pe_lst pa_nil))
      (pss_cons (ps_for PassesOwn.never rfl (pi_range1 (by rfl) bi.range (pa_cons (pe_call G_law_pull.ok (hr.mono (Nat.le_of_ble_eq_true rfl)) (by rfl) G_law_pull.g G_law_pull.kp G_law_pull.b .nil pass0 (pa_cons (pv 1) (pa_cons pe_int pa_nil))) pa_nil)) (pg_name (i := 5) sc_law.nd rfl (Or.inl rfl)) (pss_cons (ps_set (i := 6) sc_law.nd rfl (Or.inr rfl) (pe_op op_cat (pe_call G_law_tails.ok (hr.mono (Nat.le_of_ble_eq_true rfl)) (by rfl) G_law_tails.g G_law_tails.kp G_law_tails.b .nil pass0 (pa_cons (pv 4) pa_nil)) (pe_call G_law_heads.ok (hr.mono (Nat.le_of_ble_eq_true rfl)) (by rfl) G_law_heads.g G_law_heads.kp G_law_heads.b .nil pass0 (pa_cons (pv 4) pa_nil))))
      (pss_cons (ps_set (i := 7) sc_law.nd rfl (Or.inr rfl) (pe_lc (own := [("_law_x", 15)]) (g := gName 15) (tt := (tTest (tOp (rIn K true) (tVar 15) (tVar 6)))) (te := (tVar 15)) rfl sc_law.nd (pi_list (pe_call G_law_here.ok (hr.mono (Nat.le_of_ble_eq_true rfl)) (by rfl) G_law_here.g G_law_here.kp G_law_here.b .nil pass0 (pa_cons (pv 2) pa_nil))) (blkOk_by (own := [("_law_x", 15)]) (N := ["_law_script", "_law_bag_here", "_law_rows_here", "_law_field", "_law_arrows", "_law_k", "_law_bound", "_law_lone", "_law_highs", "_law_gone", "_law_high", "_law_lows", "_law_low", "_law_there", "_law_due", "_law_x"]) (sc := defScope s_law) (by decide +kernel)) (fun _ _ _ _ _ => pg_name (i := 15) sc_law.nd rfl (Or.inl rfl)) (fun _ _ _ _ _ => pts_one (pt_cmpR op_notIn_seq (pv 15) (pv 6) rfl)) (fun _ _ _ _ _ => (pv 15))))
      (pss_cons (ps_setLc (i := 8) (own := [("_law_x", 15)]) (g := (gName 15)) (tt := (tTest (tOp (rNeD K) (tCall (sp_law_parted T K) [] E0 (tCons (tOp (rIxT K) (tOp (rIxL K) (tVar 2) (tVar 15)) (tC (.int 1))) (tCons (tVar 7) tNil))) (tLst tNil)))) (te := (tVar 15)) rfl sc_law.nd rfl rfl (sw_true rfl rfl rfl (by decide +kernel)) (pi_list (pv 7)) (blkOk_by (own := [("_law_x", 15)]) (N := ["_law_script", "_law_bag_here", "_law_rows_here", "_law_field", "_law_arrows", "_law_k", "_law_bound", "_law_lone", "_law_highs", "_law_gone", "_law_high", "_law_lows", "_law_low", "_law_there", "_law_due", "_law_x"]) (sc := defScope s_law) (by decide +kernel)) (fun _ _ _ _ _ => pg_name (i := 15) sc_law.nd rfl (Or.inl rfl)) (fun _ _ _ _ _ => pts_one (pt_cmpR (op_neD hr.units) (pe_call G_law_parted.ok (hr.mono (Nat.le_of_ble_eq_true rfl)) (by rfl) G_law_parted.g G_law_parted.kp G_law_parted.b .nil pass0 (pa_cons (pe_ix ix_tup (pe_ix ix_list (pv 2) (pv 15) (fun _ _ => rfl)) pe_int (fun _ _ => rfl)) (pa_cons (pv 7) pa_nil))) (pe_lst pa_nil) (nomark _))) (fun _ _ _ _ _ => (pv 15)))
      (pss_one (ps_if (PW.pt (pw_and (pt_cmpR (op_neD hr.units) (pv 4) (pe_lst pa_nil) (nomark _)) (pw_and1 (pt_cmpR op_eq (pe_call G_law_pull.ok (hr.mono (Nat.le_of_ble_eq_true rfl)) (by rfl) G_law_pull.g G_law_pull.kp G_law_pull.b .nil pass0 (pa_cons (pv 1) (pa_cons pe_int pa_nil))) pe_int (nomark _))))) (pss_cons (ps_set (i := 9) sc_law.nd rfl (Or.inl rfl) (pe_bm PySem.F.plainAttrs_list PySem.F.slot_list_pop PySem.F.type_list_pop mt_popAt (pv 4) (pa_cons (pe_call G_law_pull.ok (hr.mono (Nat.le_of_ble_eq_true rfl)) (by rfl) G_law_pull.g G_law_pull.kp G_law_pull.b .nil pass0 (pa_cons (pv 1) (pa_cons (pe_callB call_len_seq (by rfl) bi.len PySem.boot_len (pa_cons (pv 4) pa_nil)) pa_nil))) pa_nil)))
      (pss_one (ps_if (pt_cmpR op_ne (pe_meth (pv 3) kl_true.cl G_Field_untie.mt G_Field_untie.ok (hr.mono (Nat.le_of_ble_eq_true rfl)) G_Field_untie.b .nil passL (pa_cons (pe_ix ix_tup (pv 9) pe_int (fun _ _ => rfl)) pa_nil)) (pe_ix ix_tup (pv 9) pe_int (fun _ _ => rfl)) (nomark _)) (pss_one (ps_ret pe_bl)) pss_nil))) (pss_one (ps_if (pt_cmpR (op_neD hr.units) (pv 8) (pe_lst pa_nil) (nomark _)) (pss_cons (ps_set (i := 10) sc_law.nd rfl (Or.inl rfl) (pe_ix ix_list (pv 8) (pe_call G_law_pull.ok (hr.mono (Nat.le_of_ble_eq_true rfl)) (by rfl) G_law_pull.g G_law_pull.kp G_law_pull.b .nil pass0 (pa_cons (pv 1) (pa_cons (pe_callB call_len_seq (by rfl) bi.len PySem.boot_len (pa_cons (pv 8) pa_nil)) pa_nil))) (fun _ _ => rfl)))
      (pss_cons (ps_set (i := 11) sc_law.nd rfl (Or.inl rfl) (pe_call G_law_parted.ok (hr.mono (Nat.le_of_ble_eq_true rfl)) (by rfl) G_law_parted.g G_law_parted.kp G_law_parted.b .nil pass0 (pa_cons (pe_ix ix_tup (pe_ix ix_list (pv 2) (pv 10) (fun _ _ => rfl)) pe_int (fun _ _ => rfl)) (pa_cons (pv 7) pa_nil))))
      (pss_cons (ps_set (i := 12) sc_law.nd rfl (Or.inl rfl) (pe_ix ix_list (pv 11) (pe_call G_law_pull.ok (hr.mono (Nat.le_of_ble_eq_true rfl)) (by rfl) G_law_pull.g G_law_pull.kp G_law_pull.b .nil pass0 (pa_cons (pv 1) (pa_cons (pe_callB call_len_seq (by rfl) bi.len PySem.boot_len (pa_cons (pv 11) pa_nil)) pa_nil))) (fun _ _ => rfl)))
      (pss_cons (ps_set (i := 13) sc_law.nd rfl (Or.inl rfl) (pe_callB cr_sortedPO (by rfl) bi.sorted boot_sorted (pa_cons (pe_op op_cat (pv 4) (pe_lst (pa_cons (pe_tup (pa_cons (pv 12) (pa_cons (pv 10) pa_nil))) pa_nil))) pa_nil)))
      (pss_cons (ps_set (i := 14) sc_law.nd rfl (Or.inl rfl) (pe_ifExp (pt_val (pe_call G_law_ringed.ok (hr.mono (Nat.le_of_ble_eq_true rfl)) (by rfl) G_law_ringed.g G_law_ringed.kp G_law_ringed.b .nil pass0 (pa_cons (pv 2) (pa_cons (pv 13) pa_nil)))) pe_str pe_str))
      (pss_cons (ps_if (pt_cmpR op_ne (pe_call G_law_tied_or_ring.ok (hr.mono (Nat.le_of_ble_eq_true rfl)) (by rfl) G_law_tied_or_ring.g G_law_tied_or_ring.kp G_law_tied_or_ring.b .nil pass0 (pa_cons (pv 3) (pa_cons (pv 12) (pa_cons (pv 10) pa_nil)))) (pv 14) (nomark _)) (pss_one (ps_ret pe_bl)) pss_nil)
      (pss_one (ps_if (pt_cmpR op_eq (pv 14) pe_str (nomark _)) (pss_one (ps_set (i := 4) sc_law.nd rfl (Or.inl rfl) (pv 13))) pss_nil)))))))) pss_nil))))))))
      (pss_one (ps_ret (pe_call G_law_kept.ok (hr.mono (Nat.le_of_ble_eq_true rfl)) (by rfl) G_law_kept.g G_law_kept.kp G_law_kept.b .nil pass0 (pa_cons (pv 3) (pa_cons (pv 2) (pa_cons (pv 4) pa_nil)))))))))))
abbrev s_Body_init : Stmt := inClass (topS 21) 0
theorem sc_Body_init : FnScope ["self"] ["self"] (defScope s_Body_init) := ⟨rfl, rfl, rfl, by decide +kernel, rfl, by decide +kernel, by decide +kernel⟩
theorem ok_Body_init {P : Program} {w : World} {K : PySem.W.Frag} {mg : Str → Option Value} {base : Heap} {T : Cs} {f : Addr} {fd : FuncData} (F : Fun K "__init__" "Body.__init__" s_Body_init f fd) (bi : Bi mg) (kl : Kl K (T.cls false) false) : FnOk P w K mg base CX0 1 f fd ["self"] (sp_new false T K) := by
  refine F.ok sc_Body_init (fun vs H Q E h => ?_) (fun cdv A outer s H vs Q E hr h => ⟨rd_Body_init T K E, ?_, wk_Body_init kl h⟩)
  · obtain ⟨_, _, _, _, rfl, _⟩ := h
    rfl
  · exact (pss_cons (ps_fld (pv 0) pe_dnewK rfl) (pss_cons (ps_fld (pv 0) pe_dnewK rfl) (pss_one (ps_fld (pv 0) pe_int rfl))))
theorem ok_bini {P : Program} {w : World} {K : PySem.W.Frag} {mg : Str → Option Value} {base : Heap} {T : Cs} {f : Addr} {fd : FuncData} (F : Fun K "__init__" "Body.__init__" s_Body_init f fd) (bi : Bi mg) (kl : Kl K (T.cls true) true) : FnOk P w K mg base CX0 1 f fd ["self"] (sp_bini T K) := by
  refine F.ok sc_Body_init (fun vs H Q E h => ?_) (fun cdv A outer s H vs Q E hr h => ⟨rd_Body_init T K E, ?_, wk_bini kl h⟩)
  · obtain ⟨_, _, _, _, rfl, _⟩ := h
    rfl
  · exact (pss_cons (ps_fld (pv 0) pe_dnewK rfl) (pss_cons (ps_fld (pv 0) pe_dnewK rfl) (pss_one (ps_fld (pv 0) pe_int rfl))))
abbrev s_Field_init : Stmt := inClass (topS 23) 0
theorem sc_Field_init : FnScope ["self"] ["self"] (defScope s_Field_init) := ⟨rfl, rfl, rfl, by decide +kernel, rfl, by decide +kernel, by decide +kernel⟩
theorem ok_Field_init {P : Program} {w : World} {K : PySem.W.Frag} {mg : Str → Option Value} {base : Heap} {T : Cs} {f f1 : Addr} {fd fd1 : FuncData} {mc : Value} (F : Fun K "__init__" "Field.__init__" s_Field_init f fd) (bi : Bi mg) (F1 : Fun K "__init__" "Body.__init__" s_Body_init f1 fd1) (b1 : Binds K fd1 ["self"] []) (gB : mg "Body" = some (.ref (T.cls false))) (r : ClX.CRead K (T.cls false) mc) (at1 : PySem.W.findCls K (.ref (T.cls false)) mc "__init__" = some (.val (.ref f1))) (kp : PySem.W.keepIn K (.ref f1) = true) (kl : Kl K (T.cls true) true) : FnOk P w K mg base CX0 2 f fd ["self"] (sp_new true T K) := by
  refine F.ok sc_Field_init (fun vs H Q E h => ?_) (fun cdv A outer s H vs Q E hr h => ⟨rd_Field_init T K E, ?_, wk_Field_init kl h⟩)
  · obtain ⟨_, _, _, _, rfl, _⟩ := h
    rfl
  · exact (pss_cons (ps_expr (pe_cc (pe_glob rfl gB rfl) r at1 kp (ok_bini F1 bi kl) (hr.mono (Nat.le_of_ble_eq_true rfl)) b1 pass0 (pa_cons (pv 0) pa_nil))) (pss_cons (ps_fld (pv 0) pe_dnewK rfl) (pss_one (ps_fld (pv 0) pe_dnewK rfl))))
end SB

namespace SB
open PySem PySem.Spec PyProof.Rows L2 Res
theorem joined_eq {a b : List Int} (h : a.length + b.length ≤ 16777216) : m_joined a b = .ok (joinF a b) := by
  unfold m_joined
  show Res.bind (catR (_ : List Int) (_ : List Int)) _ = _
  rw [map_id_fun, map_id_fun, cat_eq (Nat.le_trans (Nat.add_le_add (List.length_filter_le _ _) (List.length_filter_le _ _)) h)]
  rfl
theorem sm_iff_next : ∀ {l : List Int}, Sm l ↔ ∀ i x y, l[i]? = some x → l[i + 1]? = some y → x < y
  | [] => by
    constructor
    · intro _ i x y h
      cases h
    · intro _
      exact .nil
  | a :: l => by
    constructor
    · intro h i x y h1 h2
      cases h with
      | cons h3 h4 =>
        cases i with
        | zero =>
          cases h1
          exact h3 y (List.mem_of_getElem? h2)
        | succ i => exact sm_iff_next.mp h4 i x y h1 h2
    · intro h
      have ih : Sm l := sm_iff_next.mpr fun i x y h1 h2 => h (i + 1) x y h1 h2
      refine .cons (fun y hy => ?_) ih
      cases l with
      | nil => cases hy
      | cons b l =>
        have hab : a < b := h 0 a b rfl rfl
        cases hy with
        | head => exact hab
        | tail _ hy =>
          cases ih with
          | cons h3 _ => exact Int.lt_trans hab (h3 y hy)
theorem is_sum_eq {l : List Int} (h : l.length ≤ 16777216) : m_is_sum l = .ok (decide (Sm l)) := by
  unfold m_is_sum
  rw [rg_eq (by omega)]
  refine okk_is (okk_bind (P := fun f => match f with | .next _ => Sm l | .ret y => y = decide (Sm l)) ?_ fun f hf => ?_)
  · refine okk_mono (okk_for (Qr := fun y => y = decide (Sm l)) (fun (p : List Int) (_ : Unit) => ∀ (i : Nat) (x y : Int), i < p.length → l[i]? = some x → l[i + 1]? = some y → x < y) (rangeL 1 l.length) [] () (by intro i x y hi; exact absurd hi (Nat.not_lt_zero _)) ?_) fun f hf => ?_
    · intro p z r s hp hI
      have hz : z = 1 + (p.length : Int) := by
        have e : (rangeL 1 (l.length : Int))[p.length]? = some z := by
          rw [List.nil_append] at hp
          rw [hp, List.getElem?_append_right (Nat.le_refl _), Nat.sub_self]
          rfl
        unfold rangeL at e
        rw [List.getElem?_map] at e
        cases q : (List.range ((l.length : Int) - 1).toNat)[p.length]? with
        | none =>
          rw [q] at e
          cases e
        | some k =>
          rw [q] at e
          obtain ⟨hk, hk'⟩ := List.getElem?_eq_some_iff.mp q
          rw [List.getElem_range] at hk'
          have e' : (1 : Int) + (k : Int) = z := Option.some.inj e
          omega
      have hzm : z ∈ rangeL 1 (l.length : Int) := by
        rw [List.nil_append] at hp
        rw [hp]
        simp
      have hzr := mem_range.mp hzm
      refine okk_bind (P := fun t => l[p.length]? = some t) (okk_ix (by omega) (by omega) fun x hx => ?_) fun t1 h1 => ?_
      · have e : (z - 1).toNat = p.length := by omega
        rw [e] at hx
        exact hx
      refine okk_bind (P := fun t => l[p.length + 1]? = some t) (okk_ix (by omega) (by omega) fun x hx => ?_) fun t2 h2 => ?_
      · have e : z.toNat = p.length + 1 := by omega
        rw [e] at hx
        exact hx
      refine okk_if (fun hc => okk_ok ?_) (fun hc => okk_ok ?_)
      · have hle : t2 ≤ t1 := of_decide_eq_true hc
        show false = decide (Sm l)
        symm
        refine decide_eq_false fun hs => ?_
        have := sm_iff_next.mp hs _ _ _ h1 h2
        omega
      · have hle : ¬ t2 ≤ t1 := of_decide_eq_false hc
        intro i x y hi hx hy
        rw [List.length_append, List.length_singleton] at hi
        by_cases hi' : i < p.length
        · exact hI i x y hi' hx hy
        · have e : i = p.length := by omega
          subst e
          rw [h1] at hx
          rw [h2] at hy
          cases hx
          cases hy
          omega
    · cases f with
      | ret y => exact hf
      | next _ =>
        have hf : ∀ (i : Nat) (x y : Int), i < ([] ++ rangeL 1 (l.length : Int)).length → l[i]? = some x → l[i + 1]? = some y → x < y := hf
        rw [List.nil_append, range_len] at hf
        exact sm_iff_next.mpr fun i x y hx hy => hf i x y (by have := (List.getElem?_eq_some_iff.mp hy).1; omega) hx hy
  · cases f with
    | next _ =>
      have hf : Sm l := hf
      exact okk_ok (decide_eq_true hf).symm
    | ret y => exact okk_ok hf
theorem checked_eq {l : List Int} (h : l.length ≤ 16777216) (hs : Sm l) : m_checked l = .ok l := by
  unfold m_checked
  rw [is_sum_eq h, decide_eq_true hs]
  rfl
theorem law_join_eq {a b : List Int} (h : a.length + b.length ≤ 16777216) : m_law_join a b = .ok (joinF a b) := by
  unfold m_law_join
  show Res.bind (catR (_ : List Int) (_ : List Int)) _ = _
  rw [map_id_fun, map_id_fun, cat_eq (Nat.le_trans (Nat.add_le_add (List.length_filter_le _ _) (List.length_filter_le _ _)) h)]
  rfl
theorem law_row_eq (l : List Int) : m_law_row l = .ok true := by
  unfold m_law_row
  refine okk_is (okk_bind (P := fun f => ∃ s, f = .next s) (okk_each (fun _ => True) trivial (fun x s _ _ => ?_) fun s _ => ⟨s, rfl⟩) fun f hf => ?_)
  · unfold m_law_whole
    exact okk_ok ⟨(), rfl, trivial⟩
  · obtain ⟨s, rfl⟩ := hf
    exact okk_ok rfl
theorem law_same_eq (a b : List Int) : m_law_same a b = .ok (decide (a = b)) := by
  unfold m_law_same
  rw [law_row_eq]
  rfl
theorem law_bag_ok (ns : List Int) : Okk (m_law_bag ns) (fun b => 0 ≤ b.i) := by
  unfold m_law_bag
  refine okk_bind (P := fun f => ∃ s, f = .next s) (okk_each (fun _ => True) trivial (fun x s _ _ => ?_) fun s _ => ⟨s, rfl⟩) fun f hf => ?_
  · rw [mul_eq (.inr ⟨by decide, by decide⟩)]
    show Okk (Res.bind (modR _ _) _) _
    rw [mod_eq (by decide)]
    exact okk_ok ⟨_, rfl, trivial⟩
  · obtain ⟨s, rfl⟩ := hf
    exact okk_ok (Int.le_refl 0)
theorem pull_okk {ω : Type} {b : Bag} {many : Int} (hi : 0 ≤ b.i) (h : 0 < many) (h' : many < 1073741824) : Okk (Res.noex (m_law_pull b many) : Res ω _) (fun y => 0 ≤ y.1 ∧ y.1 < many ∧ 0 ≤ y.2.i) := by
  obtain ⟨r, b', e, h1, h2, h3⟩ := pull_ok hi h h'
  exact okk_noex ⟨_, e, h1, h2, h3⟩
end SB

namespace SB
open PySem PySem.Spec PyProof.Rows L2 Res
theorem known_ok {t : Bool} {s : FS t} {R : Rows} (h : Bd R s) {row : List Int} (hr : ∀ x ∈ row, (rowAt R x).isSome = true) : m_Body_known s row = .ok () := by
  unfold m_Body_known
  refine okk_is (okk_bind (P := fun f => f = .next ()) (okk_each (fun _ => True) trivial (fun x s' hx _ => ?_) fun s' _ => rfl) fun f hf => ?_)
  · refine okk_no ?_ (okk_ok ⟨(), rfl, trivial⟩)
    rw [h.rk, Option.isSome_map, hr x hx]
    rfl
  · subst hf
    exact okk_ok rfl
theorem asked_ok {t : Bool} {s : FS t} {R : Rows} (h : Bd R s) {row : List Int} (hl : row.length ≤ 16777216) (hs : Sm row) (hr : ∀ x ∈ row, (rowAt R x).isSome = true) : m_Body_asked s row = .ok row := by
  unfold m_Body_asked
  refine okk_is (okk_stL (checked_eq hl hs) (okk_stL (known_ok h hr) (okk_ok rfl)))
theorem ranked_ok {t : Bool} {s : FS t} {R : Rows} (h : Bd R s) {row : List Int} {k : Int} (hr : ∀ x ∈ row, ∃ e, rowAt R x = some (k, e)) : m_Body_ranked s row k = .ok () := by
  unfold m_Body_ranked
  refine okk_is (okk_bind (P := fun f => f = .next ()) (okk_each (fun _ => True) trivial (fun x s' hx _ => ?_) fun s' _ => rfl) fun f hf => ?_)
  · obtain ⟨e, he⟩ := hr x hx
    refine okk_st (ag_eq (x := k) (by rw [h.rk, he]; rfl)) (okk_no ?_ (okk_ok ⟨(), rfl, trivial⟩))
    rw [decide_eq_true rfl]
    rfl
  · subst hf
    exact okk_ok rfl
theorem sub_len {R : Rows} {l : List Int} (hs : Sm l) (h : ∀ x ∈ l, (rowAt R x).isSome = true) : l.length ≤ R.length := sm_len hs fun x hx => here_lt (here_mem.mpr (h x hx))
theorem edgeAt_len {R : Rows} (hw : Wf R) (c : Int) : (edgeAt R c).length ≤ R.length := sub_len (edgeAt_sm hw c) fun x hx => by
  obtain ⟨_, _, _, _, e', h⟩ := edgeAt_mem hw hx
  rw [h]
  rfl
theorem edge_of_ok {t : Bool} {s : FS t} {R : Rows} (h : Bd R s) (hw : Wf R) (hl : R.length ≤ 100000) {row : List Int} (hr : ∀ x ∈ row, (rowAt R x).isSome = true) : m_Body_edge_of s row = .ok (edgeF R row) := by
  unfold m_Body_edge_of
  refine okk_is (okk_st (for_fold (f := fun s c => joinF s (edgeAt R c)) (fun _ (z : List Int) => Sm z ∧ ∀ x ∈ z, (rowAt R x).isSome = true) row [] [] ⟨.nil, fun _ h => nomatch h⟩ fun p x r z hp hz => ?_) (okk_ok rfl))
  have hx : x ∈ row := by
    rw [List.nil_append] at hp
    rw [hp]
    simp
  have e1 : agt s.edges x = some (edgeAt R x) := by
    rw [h.ed]
    unfold edgeAt
    have := hr x hx
    cases e : rowAt R x with
    | none =>
      rw [e] at this
      cases this
    | some y => rfl
  have h1 := sub_len hz.1 hz.2
  have h2 := edgeAt_len hw x
  refine ⟨st_st (ag_eq e1) (st_N (joined_eq (by omega)) rfl), sm_join hz.1 (edgeAt_sm hw x), fun y hy => ?_⟩
  rcases mem_join.mp hy with h3 | h3
  · exact hz.2 y h3.1
  · obtain ⟨_, _, _, _, e', h⟩ := edgeAt_mem hw h3.1
    rw [h]
    rfl
theorem cells_ok {t : Bool} {s : FS t} {R : Rows} (h : Bd R s) (hl : R.length ≤ 100000) : m_Body_cells s = .ok (hereF R) := by
  unfold m_Body_cells
  have := tab_len (fun x : Row => x.1) 0 R
  refine okk_is (okk_st (keys_eq (by rw [h.1]; omega)) (okk_ok ?_))
  show sortI (s.ranks.map (·.1)) = _
  rw [h.keys, sort_sm (here_sm R)]
def overF (R : Rows) (c : Int) : List Int := (hereF R).filter fun k => decide (c ∈ edgeAt R k)
theorem filterMap_if {α : Type} (p : α → Bool) : ∀ l : List α, l.filterMap (fun x => if p x = true then some x else none) = l.filter p
  | [] => rfl
  | x :: l => by
    rw [List.filterMap_cons, List.filter_cons, filterMap_if p l]
    cases p x <;> rfl
theorem if_res {ω α : Type} {c : Bool} {x : α} : (if c = true then (Res.ok (some x, ()) : Res ω _) else .ok (none, ())) = .ok ((if c = true then some x else none), ()) := by
  cases c <;> rfl
theorem here_some {R : Rows} {c : Int} (h : c ∈ hereF R) : ∃ x, rowAt R c = some x := by
  rw [here_mem] at h
  exact Option.isSome_iff_exists.mp h
theorem Bd.edAt {t : Bool} {s : FS t} {R : Rows} (h : Bd R s) {c : Int} (hc : (rowAt R c).isSome = true) : agt s.edges c = some (edgeAt R c) := by
  rw [h.ed]
  unfold edgeAt
  cases e : rowAt R c with
  | none =>
    rw [e] at hc
    cases hc
  | some y => rfl
def rankAt (R : Rows) (c : Int) : Int := match rowAt R c with
  | some x => x.1
  | none => 0
theorem Bd.rkAt {t : Bool} {s : FS t} {R : Rows} (h : Bd R s) {c : Int} (hc : (rowAt R c).isSome = true) : agt s.ranks c = some (rankAt R c) := by
  rw [h.rk]
  unfold rankAt
  cases e : rowAt R c with
  | none =>
    rw [e] at hc
    cases hc
  | some y => rfl
theorem over_ok {t : Bool} {s : FS t} {R : Rows} (h : Bd R s) (hl : R.length ≤ 100000) {c : Int} (hc : (rowAt R c).isSome = true) : m_Body_over s c = .ok (overF R c) := by
  unfold m_Body_over
  refine okk_is (okk_stL (known_ok h fun x hx => ?_) (okk_stN (cells_ok h hl) (okk_st (comp_eq (g := fun k => if decide (c ∈ edgeAt R k) = true then some k else none) _ fun x hx => ?_) (okk_ok ?_))))
  · rw [List.mem_singleton] at hx
    rw [hx]
    exact hc
  · rw [ag_eq (h.edAt (here_mem.mp hx))]
    exact if_res
  · exact filterMap_if _ _
theorem drop_ok {t : Bool} {s : FS t} {R : Rows} (h : Bd R s) {c : Int} (hc : (rowAt R c).isSome = true) :
    Okk (m_Body_drop s c) (fun y => Bd (R.set c.toNat none) y.2 ∧ y.2.ahead = s.ahead ∧ y.2.behind = s.behind) := by
  unfold m_Body_drop
  have hn := (here_lt (here_mem.mpr hc)).1
  refine okk_st (apop_eq (h.rkAt hc)) (okk_st (apop_eq (h.edAt hc)) (okk_ok ⟨⟨?_, ?_, ?_⟩, rfl, rfl⟩))
  · show adrop s.ranks c = _
    rw [h.1, tab_drop _ _ _ _ hn, Int.sub_zero]
  · show adrop s.edges c = _
    rw [h.2.1, tab_drop _ _ _ _ hn, Int.sub_zero]
  · show s.after = _
    rw [h.2.2, List.length_set]
theorem one_known {R : Rows} {c : Int} (hc : (rowAt R c).isSome = true) : ∀ x ∈ [c], (rowAt R x).isSome = true := fun x hx => by
  rw [List.mem_singleton] at hx
  rw [hx]
  exact hc
theorem border_ok {t : Bool} {s : FS t} {R : Rows} (h : Bd R s) {c : Int} (hc : (rowAt R c).isSome = true) : m_Body_border s c = .ok (edgeAt R c) := by
  unfold m_Body_border
  exact okk_is (okk_stL (known_ok h (one_known hc)) (okk_st (ag_eq (h.edAt hc)) (okk_ok rfl)))
theorem rank_ok {t : Bool} {s : FS t} {R : Rows} (h : Bd R s) {c : Int} (hc : (rowAt R c).isSome = true) : m_Body_rank s c = .ok (rankAt R c) := by
  unfold m_Body_rank
  exact okk_is (okk_stL (known_ok h (one_known hc)) (okk_st (ag_eq (h.rkAt hc)) (okk_ok rfl)))
theorem coming_ok {t : Bool} {s : FS t} {R : Rows} (h : Bd R s) : m_Body_coming s = .ok (R.length : Int) := by
  unfold m_Body_coming
  rw [h.2.2]
theorem stands_ok {t : Bool} {s : FS t} {R : Rows} (h : Bd R s) (c : Int) : m_Body_stands s c = .ok (decide (c ∈ hereF R)) := by
  unfold m_Body_stands
  rw [h.rk, Option.isSome_map]
  refine congrArg Res.ok ?_
  rw [Bool.eq_iff_iff, decide_eq_true_iff, here_mem]
end SB

namespace SB
open PySem PySem.Spec PyProof.Rows L2 Res
theorem put_ok {t : Bool} {s : FS t} {R : Rows} (h : Bd R s) (hw : Wf R) (hl : R.length < 120) {r : Int} {e : List Int} (g : Good R R.length r e) :
    Okk (m_Body_put s r e) (fun y => y.1 = (R.length : Int) ∧ Bd (R ++ [some (r, e)]) y.2 ∧ y.2.ahead = s.ahead ∧ y.2.behind = s.behind) := by
  have hk : ∀ x ∈ e, (rowAt R x).isSome = true := fun x hx => by
    obtain ⟨e', h⟩ := g.kin x hx
    rw [h]
    rfl
  have hel := sub_len g.sm hk
  unfold m_Body_put
  refine okk_bind (P := fun b => b = false) ?_ fun b hb => ?_
  · refine okk_or (fun hc => ?_) (fun _ => okk_ok ?_)
    · have := of_decide_eq_true hc
      have := g.lo
      omega
    · have := g.hi
      exact decide_eq_false (by omega)
  refine okk_no hb (okk_stL (asked_ok h (by omega) g.sm hk) (okk_stL (ranked_ok h g.kin) (okk_stN (edge_of_ok h hw (by omega) hk) (okk_no (by rw [g.round]; rfl) (okk_no ?_ ?_)))))
  · have := tab_len (fun x : Row => x.1) 0 R
    rw [h.1]
    exact decide_eq_false (by omega)
  · have h1 := tab_len (fun x : Row => x.1) 0 R
    have h2 := tab_len (fun x : Row => x.2) 0 R
    refine okk_st (aput_eq (by rw [h.1]; omega)) (okk_st (aput_eq (by rw [h.2.1]; omega)) (okk_ok ⟨h.2.2, ⟨?_, ?_, ?_⟩, rfl, rfl⟩))
    · show aput s.ranks s.after r = _
      rw [h.1, h.2.2]
      exact tab_put (fun x : Row => x.1) R (r, e)
    · show aput s.edges s.after e = _
      rw [h.2.1, h.2.2]
      exact tab_put (fun x : Row => x.2) R (r, e)
    · show s.after + 1 = _
      rw [h.2.2, List.length_append, List.length_singleton]
      omega
end SB

namespace SB
open PySem PySem.Spec PyProof.Rows L2 Res
theorem ix_row {ω : Type} {R : Rows} {c : Int} (h0 : 0 ≤ c) (h1 : c < (R.length : Int)) : (ixR R c : Res ω _) = .ok (rowAt R c) := by
  have hlt : c.toNat < R.length := by omega
  refine ix_eq ?_
  rw [atI_of h0 h1, List.getElem?_eq_getElem hlt, rowAt_of h0 (List.getElem?_eq_getElem hlt)]
theorem range_sm (lo hi : Int) : Sm (rangeL lo hi) := by
  unfold Sm rangeL
  rw [List.pairwise_map]
  exact List.pairwise_lt_range.imp fun h => by omega
theorem filter_sm {l : List Int} (h : Sm l) (p : Int → Bool) : Sm (l.filter p) := List.Pairwise.filter p h
theorem law_here_ok {R : Rows} (hl : R.length ≤ 100000) : m_law_here R = .ok (hereF R) := by
  unfold m_law_here
  rw [rl_eq (by omega)]
  refine okk_is (okk_bind (P := fun y => y.1 = hereF R) (okk_eq (comp_eq (g := fun z => if (!(rowAt R z).isNone) = true then some z else none) _ fun x hx => ?_) ?_) fun y hy => okk_ok hy)
  · have h := mem_range.mp hx
    rw [ix_row h.1 h.2]
    exact if_res
  · show (rangeL 0 (R.length : Int)).filterMap _ = _
    rw [filterMap_if]
    refine (filter_sm (range_sm _ _) _).ext (here_sm R) fun x => ?_
    rw [List.mem_filter, mem_range, here_mem]
    constructor
    · rintro ⟨_, h⟩
      cases e : rowAt R x with
      | none =>
        rw [e] at h
        cases h
      | some y => rfl
    · intro h
      have h1 := here_lt (here_mem.mpr h)
      refine ⟨h1, ?_⟩
      cases e : rowAt R x with
      | none =>
        rw [e] at h
        cases h
      | some y => rfl
theorem law_whole_ok (x : Int) : m_law_whole x = .ok true := by
  unfold m_law_whole
  rfl
theorem law_truth_ok (a b : Bool) : m_law_truth a b = .ok (decide (a = b)) := by
  unfold m_law_truth
  rfl
theorem row_get {R : Rows} {c : Int} (h : (rowAt R c).isSome = true) : rowAt R c = some (rankAt R c, edgeAt R c) := by
  unfold rankAt edgeAt
  cases e : rowAt R c with
  | none =>
    rw [e] at h
    cases h
  | some x => rfl
theorem cells_kept_ok {t : Bool} {s : FS t} {R : Rows} (h : Bd R s) (hl : R.length ≤ 100000) : m_law_cells_kept s R = .ok true := by
  unfold m_law_cells_kept
  refine okk_is (okk_bind (P := fun b => b = false) (okk_stN (cells_ok h hl) (okk_stN (law_here_ok hl) (okk_stN (law_same_eq _ _) (okk_or (fun hc => ?_) fun _ => okk_stN (coming_ok h) (okk_ok ?_))))) fun b hb => okk_no hb ?_)
  · rw [decide_eq_true rfl] at hc
    exact hc.symm
  · rw [decide_eq_true rfl]
    rfl
  · unfold m_law_cells_kept_s1
    rw [rg_eq (by omega)]
    refine okk_bind (P := fun f => f = .next ()) (okk_each (fun _ => True) trivial (fun x s' hx _ => ?_) fun s' _ => rfl) fun f hf => ?_
    · refine okk_stN (stands_ok h x) (okk_stN (law_here_ok hl) (okk_stN (law_truth_ok _ _) (okk_no ?_ (okk_ok ⟨(), rfl, trivial⟩))))
      rw [decide_eq_true rfl]
      rfl
    · subst hf
      show Okk (m_law_cells_kept_s2 s R) _
      unfold m_law_cells_kept_s2
      refine okk_stN (law_here_ok hl) (okk_bind (P := fun f => f = .next ()) (okk_each (fun _ => True) trivial (fun x s' hx _ => ?_) fun s' _ => rfl) fun f hf => ?_)
      · have hs := here_mem.mp hx
        have hb := here_lt hx
        refine okk_bind (P := fun b => b = false) (okk_stN (rank_ok h hs) (okk_st (ix_row hb.1 hb.2) (okk_st (get_eq (row_get hs)) (okk_or (fun hc => ?_) fun _ => okk_stN (rank_ok h hs) (okk_stN (law_whole_ok _) (okk_ok rfl)))))) fun b hb' => okk_no hb' ?_
        · rw [show (rankAt R x, edgeAt R x).1 = rankAt R x from rfl, decide_eq_true rfl] at hc
          exact hc.symm
        · refine okk_stN (border_ok h hs) (okk_st (ix_row hb.1 hb.2) (okk_st (get_eq (row_get hs)) (okk_stN (law_same_eq _ _) (okk_no ?_ (okk_ok ⟨(), rfl, trivial⟩)))))
          rw [show (rankAt R x, edgeAt R x).2 = edgeAt R x from rfl, decide_eq_true rfl]
          rfl
      · subst hf
        show Okk (m_law_cells_kept_s3 s) _
        unfold m_law_cells_kept_s3
        exact okk_ok rfl
/-! ## counts -/
theorem fuel_eq : fuel = 100000 := by
  unfold fuel
  rfl
def pad (s : List Int) (r : Int) : List Int := s ++ List.replicate (r + 1 - (s.length : Int)).toNat 0
theorem while_pad {ω β : Type} {test : List Int → Res ω Bool} {body : List Int → Res ω (Fl β (List Int))} {r : Int} (ht : ∀ s, test s = .ok (decide ((s.length : Int) ≤ r))) (hb : ∀ s, s.length ≤ 1000 → body s = .ok (.next (s ++ [0]))) (hr : r ≤ 900) :
    ∀ (n : Nat) (s : List Int), s.length ≤ 1000 → (r + 1 - (s.length : Int)).toNat < n → whileM test body n s = .ok (.next (pad s r))
  | 0, s, _, h => absurd h (Nat.not_lt_zero _)
  | n + 1, s, hs, h => by
    unfold whileM
    rw [ht s]
    by_cases hc : (s.length : Int) ≤ r
    · rw [decide_eq_true hc]
      show Res.bind (body s) _ = _
      rw [hb s hs]
      show whileM test body n (s ++ [0]) = _
      rw [while_pad ht hb hr n (s ++ [0]) (by rw [List.length_append, List.length_singleton]; omega) (by rw [List.length_append, List.length_singleton]; omega)]
      unfold pad
      rw [List.length_append, List.length_singleton, List.append_assoc, show (r + 1 - (s.length : Int)).toNat = (r + 1 - ((s.length + 1 : Nat) : Int)).toNat + 1 by omega, List.replicate_succ]
      rfl
    · rw [decide_eq_false hc]
      unfold pad
      rw [show (r + 1 - (s.length : Int)).toNat = 0 by omega, List.replicate_zero, List.append_nil]
      rfl
def bump (s : List Int) (r : Int) : List Int := (pad s r).set r.toNat ((pad s r).getD r.toNat 0 + 1)
theorem pad_len {s : List Int} {r : Int} : (pad s r).length = max s.length (r + 1).toNat := by
  unfold pad
  rw [List.length_append, List.length_replicate]
  omega
theorem bump_len {s : List Int} {r : Int} : (bump s r).length = max s.length (r + 1).toNat := by
  unfold bump
  rw [List.length_set, pad_len]
theorem ix_getD {ω : Type} {xs : List Int} {i : Int} (h0 : 0 ≤ i) (h1 : i < (xs.length : Int)) : (ixR xs i : Res ω Int) = .ok (xs.getD i.toNat 0) := by
  have hlt : i.toNat < xs.length := by omega
  refine ix_eq ?_
  rw [atI_of h0 h1, List.getD_eq_getElem?_getD, List.getElem?_eq_getElem hlt]
  rfl
theorem set_eq {ω α : Type} {xs : List α} {i : Int} {x : α} (h0 : 0 ≤ i) (h1 : i < (xs.length : Int)) : (setR xs i x : Res ω _) = .ok (xs.set i.toNat x) := by
  unfold setR ixN
  rw [if_pos h0, if_pos h1]
def countsF (R : Rows) : List Int := (hereF R).foldl (fun s c => bump s (rankAt R c)) []
theorem wf_rank {R : Rows} (hw : Wf R) {c : Int} (hc : (rowAt R c).isSome = true) : 0 ≤ rankAt R c ∧ rankAt R c ≤ 12 := by
  have g := hw c _ _ (row_get hc)
  exact ⟨g.lo, g.hi⟩
theorem bump13 {s : List Int} {r : Int} (hs : s.length ≤ 13) (hr : 0 ≤ r ∧ r ≤ 12) : (bump s r).length ≤ 13 := by
  rw [bump_len]
  omega
theorem fold13 {R : Rows} (hw : Wf R) : ∀ (l : List Int), (∀ x ∈ l, (rowAt R x).isSome = true) → ∀ s : List Int, s.length ≤ 13 → (l.foldl (fun s c => bump s (rankAt R c)) s).length ≤ 13
  | [], _, s, hs => hs
  | x :: l, h, s, hs => fold13 hw l (fun y hy => h y (List.mem_cons_of_mem _ hy)) _ (bump13 hs (wf_rank hw (h x List.mem_cons_self)))
theorem counts_len {R : Rows} (hw : Wf R) : (countsF R).length ≤ 13 := fold13 hw (hereF R) (fun x hx => here_mem.mp hx) [] (by decide)
end SB

namespace SB
open PySem PySem.Spec PyProof.Rows L2 Res
/-! ## the drawn rows -/
def LoopsOk (R : Rows) (L : List Row) : Prop := ∀ p ∈ L, Sm p.2 ∧ (∀ x ∈ p.2, ∃ e, rowAt R x = some (p.1, e)) ∧ edgeF R p.2 = []
def goodB (R : Rows) (c r : Int) (e : List Int) : Bool := decide (0 ≤ r) && decide (r ≤ 12) && decide (Sm e) && e.all (fun x => decide (x < c) && (match rowAt R x with | some y => decide (y.1 = r - 1) | none => false)) && decide (edgeF R e = [])
def wfB (R : Rows) : Bool := (List.range R.length).all fun i => match R[i]? with
  | some (some (r, e)) => goodB R i r e
  | _ => true
def loopsB (R : Rows) (L : List Row) : Bool := L.all fun p => decide (Sm p.2) && p.2.all (fun x => match rowAt R x with | some y => decide (y.1 = p.1) | none => false) && decide (edgeF R p.2 = [])
theorem rank_of {R : Rows} {x k : Int} (h : (match rowAt R x with | some y => decide (y.1 = k) | none => false) = true) : ∃ e, rowAt R x = some (k, e) := by
  cases e : rowAt R x with
  | none =>
    rw [e] at h
    cases h
  | some y =>
    rw [e] at h
    have h : y.1 = k := of_decide_eq_true h
    exact ⟨y.2, by rw [← h]⟩
theorem good_of {R : Rows} {c r : Int} {e : List Int} (h : goodB R c r e = true) : Good R c r e := by
  unfold goodB at h
  simp only [Bool.and_eq_true, decide_eq_true_eq, List.all_eq_true] at h
  obtain ⟨⟨⟨⟨h1, h2⟩, h3⟩, h4⟩, h5⟩ := h
  exact ⟨h1, h2, h3, fun x hx => (h4 x hx).1, fun x hx => rank_of (h4 x hx).2, h5⟩
theorem wf_of {R : Rows} (h : wfB R = true) : Wf R := by
  intro c r e hc
  unfold wfB at h
  rw [List.all_eq_true] at h
  obtain ⟨h0, h1, h2⟩ := rowAt_some hc
  have := h c.toNat (by rw [List.mem_range]; omega)
  rw [h2] at this
  have := good_of (show goodB R (c.toNat : Int) r e = true from this)
  rw [show (c.toNat : Int) = c by omega] at this
  exact this
theorem loops_of {R : Rows} {L : List Row} (h : loopsB R L = true) : LoopsOk R L := by
  intro p hp
  unfold loopsB at h
  rw [List.all_eq_true] at h
  have := h p hp
  simp only [Bool.and_eq_true, decide_eq_true_eq, List.all_eq_true] at this
  exact ⟨this.1.1, fun x hx => rank_of (this.1.2 x hx), this.2⟩
theorem LoopsOk.append {R S : Rows} {L : List Row} (h : LoopsOk R L) : LoopsOk (R ++ S) L := fun p hp => by
  obtain ⟨h1, h2, h3⟩ := h p hp
  have hl : ∀ x ∈ p.2, x < (R.length : Int) := fun x hx => by
    obtain ⟨e, he⟩ := h2 x hx
    exact (rowAt_some he).2.1
  refine ⟨h1, fun x hx => ?_, by rw [edgeF_append hl]; exact h3⟩
  rw [rowAt_append (hl x hx)]
  exact h2 x hx
theorem LoopsOk.snoc {R : Rows} {L : List Row} {p : Row} (h : LoopsOk R L) (h1 : Sm p.2) (h2 : ∀ x ∈ p.2, ∃ e, rowAt R x = some (p.1, e)) (h3 : edgeF R p.2 = []) : LoopsOk R (L ++ [p]) := fun q hq => by
  rcases List.mem_append.mp hq with hq | hq
  · exact h q hq
  · rw [List.mem_singleton] at hq
    subst hq
    exact ⟨h1, h2, h3⟩
theorem law_rank_ok {b : Bag} (hi : 0 ≤ b.i) : Okk (m_law_rank b) (fun y => 0 ≤ y.1 ∧ y.1 ≤ 12 ∧ 0 ≤ y.2.i) := by
  unfold m_law_rank
  refine okk_bind (pull_okk hi (by decide) (by decide)) fun y hy => okk_if (fun _ => ?_) fun _ => ?_
  · exact okk_bind (pull_okk hy.2.2 (by decide) (by decide)) fun z hz => okk_ok ⟨hz.1, by have := hz.2.1; omega, hz.2.2⟩
  · refine okk_bind (pull_okk hy.2.2 (by decide) (by decide)) fun z hz => okk_bind (P := fun t => 0 ≤ t ∧ t ≤ 12) (okk_mem hz.1 hz.2.1 (by decide)) fun t ht => okk_ok ⟨ht.1, ht.2, hz.2.2⟩
theorem law_some_ok {b : Bag} (hi : 0 ≤ b.i) {row : List Int} (hl : row.length ≤ 1000) : Okk (m_law_some b row) (fun y => Sm y.1 ∧ (∀ x ∈ y.1, x ∈ row) ∧ 0 ≤ y.2.i) := by
  unfold m_law_some
  refine okk_if (fun _ => okk_ok ⟨.nil, fun _ h => (nomatch h), hi⟩) fun hne => ?_
  have hne : row ≠ [] := of_decide_eq_false hne
  have hpos : 0 < row.length := List.length_pos_iff.mpr hne
  refine okk_bind (pull_okk hi (by decide) (by decide)) fun y hy => ?_
  refine okk_bind (P := fun f => ∃ s : Int × Bag, f = .next s ∧ 0 ≤ s.1 ∧ s.1 ≤ 2000 ∧ 0 ≤ s.2.i) (okk_if (fun _ => ?_) fun _ => okk_ok ⟨_, rfl, hy.1, by have := hy.2.1; show y.1 ≤ 2000; omega, hy.2.2⟩) fun f hf => ?_
  · refine okk_bind (pull_okk hy.2.2 (by decide) (by decide)) fun z hz => okk_st (mul_eq (.inl ⟨by omega, by omega⟩)) (okk_ok ⟨_, rfl, ?_, ?_, hz.2.2⟩)
    · exact Int.mul_nonneg hz.1 (by omega)
    · show z.1 * (row.length : Int) ≤ 2000
      have h1 : z.1 * (row.length : Int) ≤ 2 * (row.length : Int) := Int.mul_le_mul_of_nonneg_right (by have := hz.2.1; omega) (by omega)
      omega
  · obtain ⟨s, rfl, h1, h2, h3⟩ := hf
    show Okk (m_law_some_s1 s.2 row [] s.1) _
    unfold m_law_some_s1
    rw [rg_eq (by omega)]
    refine okk_bind (P := fun f => ∃ s : List Int × Bag, f = .next s ∧ Sm s.1 ∧ (∀ x ∈ s.1, x ∈ row) ∧ 0 ≤ s.2.i) (okk_loop (fun p (s : List Int × Bag) => Sm s.1 ∧ (∀ x ∈ s.1, x ∈ row) ∧ 0 ≤ s.2.i ∧ s.1.length ≤ p.length) ⟨.nil, fun _ h => (nomatch h), h3, Nat.le_refl _⟩ (fun p x r s hp hs => ?_) fun s hs => ⟨s, rfl, hs.1, hs.2.1, hs.2.2.1⟩) fun f hf => ?_
    · have hpl : p.length < 2000 := by
        have e := congrArg List.length hp
        rw [range_len, List.length_append, List.length_cons] at e
        omega
      refine okk_bind (pull_okk hs.2.2.1 (by omega) (by omega)) fun z hz => okk_bind (okk_mem (P := fun t => t ∈ row) hz.1 hz.2.1 fun x hx => hx) fun t ht => okk_stN (law_join_eq (by rw [List.length_singleton]; omega)) (okk_ok ⟨_, rfl, sm_join hs.1 (List.pairwise_singleton _ _), fun x hx => ?_, hz.2.2, ?_⟩)
      · rcases mem_join.mp hx with h | h
        · exact hs.2.1 x h.1
        · rw [List.mem_singleton.mp h.1]
          exact ht
      · have := join_len s.1 [t]
        rw [List.length_singleton] at this
        rw [List.length_append, List.length_singleton]
        show (joinF s.1 [t]).length ≤ _
        omega
    · obtain ⟨s, rfl, hs⟩ := hf
      exact okk_ok hs
theorem law_edge_ok {R : Rows} (hw : Wf R) (hl : R.length ≤ 100000) {row : List Int} (hr : ∀ x ∈ row, (rowAt R x).isSome = true) : m_law_edge R row = .ok (edgeF R row) := by
  unfold m_law_edge
  refine okk_is (okk_st (for_fold (f := fun s c => joinF s (edgeAt R c)) (fun _ (z : List Int) => Sm z ∧ ∀ x ∈ z, (rowAt R x).isSome = true) row [] [] ⟨.nil, fun _ h => nomatch h⟩ fun p x r z hp hz => ?_) (okk_ok rfl))
  have hx : x ∈ row := by
    rw [List.nil_append] at hp
    rw [hp]
    simp
  have hb := here_lt (here_mem.mpr (hr x hx))
  have h1 := sub_len hz.1 hz.2
  have h2 := edgeAt_len hw x
  refine ⟨st_st (ix_row hb.1 hb.2) (st_st (get_eq (row_get (hr x hx))) (st_N (law_join_eq (by show z.length + (edgeAt R x).length ≤ _; omega)) rfl)), sm_join hz.1 (edgeAt_sm hw x), fun y hy => ?_⟩
  rcases mem_join.mp hy with h3 | h3
  · exact hz.2 y h3.1
  · obtain ⟨_, _, _, _, e', h⟩ := edgeAt_mem hw h3.1
    rw [h]
    rfl
theorem edgeAt_last {R : Rows} {r : Int} {e : List Int} : edgeAt (R ++ [some (r, e)]) (R.length : Int) = e := by
  unfold edgeAt
  rw [rowAt_last]
theorem law_edge_by_ok {R : Rows} {L : List Row} {r : Int} {b : Bag} (hw : Wf R) (hL : LoopsOk R L) (hr : 0 ≤ r ∧ r ≤ 12) (hi : 0 ≤ b.i) (hl : R.length ≤ 1000) (hll : L.length ≤ 1000) :
    Okk (m_law_edge_by R L r b) (fun y => Good R R.length r y.1 ∧ LoopsOk (R ++ [some (r, y.1)]) y.2.1 ∧ y.2.1.length ≤ L.length + 1 ∧ 0 ≤ y.2.2.i) := by
  have hone : ∀ e : List Int, e = [] → ∀ (L' : List Row), LoopsOk R L' → LoopsOk (R ++ [some (r, e)]) (L' ++ [(r, [(R.length : Int)])]) := fun e he L' hL' => by
    refine LoopsOk.snoc hL'.append (List.pairwise_singleton _ _) (fun x hx => ?_) ?_
    · have hx : x = (R.length : Int) := List.mem_singleton.mp hx
      rw [hx, rowAt_last]
      exact ⟨_, rfl⟩
    · show joinF [] (edgeAt _ _) = []
      rw [edgeAt_last, he]
      rfl
  unfold m_law_edge_by
  refine okk_if (fun hc => ?_) fun hc => ?_
  · have hc : r = 0 := of_decide_eq_true hc
    subst hc
    refine okk_st (app_eq (by omega)) (okk_ok ⟨⟨hr.1, hr.2, .nil, fun _ h => (nomatch h), fun _ h => (nomatch h), rfl⟩, hone [] rfl L hL, ?_, hi⟩)
    show (L ++ [_]).length ≤ _
    rw [List.length_append, List.length_singleton]
    omega
  · refine okk_bind (pull_okk hi (by decide) (by decide)) fun y hy => okk_if (fun _ => ?_) fun _ => ?_
    · refine okk_bind (okk_comp (fun _ => True) (fun q : List Int => (r - 1, q) ∈ L) L () trivial fun p s hp _ => okk_if (fun hc => okk_ok ⟨fun w hw => ?_, trivial⟩) fun _ => okk_ok ⟨fun w hw => (nomatch hw), trivial⟩) fun B hB => ?_
      · cases hw
        have hc : p.1 = r - 1 := of_decide_eq_true hc
        rw [← hc]
        exact hp
      · show Okk (m_law_edge_by_s1 R L r y.2 (R.length : Int) [] B.1) _
        have hBl : B.1.length ≤ 1000 := Nat.le_trans hB.2.1 hll
        unfold m_law_edge_by_s1
        refine okk_bind (pull_okk hy.2.2 (by decide) (by decide)) fun z hz => okk_bind (P := fun t => 0 ≤ t ∧ t ≤ 4) (okk_mem hz.1 hz.2.1 (by decide)) fun t ht => ?_
        rw [rg_eq (by omega)]
        refine okk_bind (P := fun f => ∃ s : List Int × Bag, f = .next s ∧ Good R R.length r s.1 ∧ 0 ≤ s.2.i) (okk_each (fun s : List Int × Bag => Good R R.length r s.1 ∧ 0 ≤ s.2.i) ⟨⟨hr.1, hr.2, .nil, fun _ h => (nomatch h), fun _ h => (nomatch h), rfl⟩, hz.2.2⟩ (fun x s _ hs => okk_if (fun hne => ?_) fun _ => okk_ok ⟨_, rfl, hs⟩) fun s hs => ⟨s, rfl, hs⟩) fun f hf => ?_
        · have hpos : 0 < B.1.length := by
            cases hB1 : B.1 with
            | nil =>
              rw [hB1] at hne
              cases hne
            | cons _ _ => exact Nat.succ_pos _
          refine okk_bind (pull_okk hs.2 (by omega) (by omega)) fun u hu => okk_bind (okk_mem (P := fun q => (r - 1, q) ∈ L) hu.1 hu.2.1 hB.1) fun q hq => ?_
          obtain ⟨g1, g2, g3⟩ := hL _ hq
          have g1 : Sm q := g1
          have g2 : ∀ x ∈ q, ∃ e, rowAt R x = some (r - 1, e) := g2
          have g3 : edgeF R q = [] := g3
          have hst : ∀ {l : List Int}, (∀ x ∈ l, ∃ e, rowAt R x = some (r - 1, e)) → ∀ x ∈ l, (rowAt R x).isSome = true := fun h x hx => by
            obtain ⟨e, he⟩ := h x hx
            rw [he]
            rfl
          have l1 := sub_len g1 (hst g2)
          have l2 := sub_len hs.1.sm (hst hs.1.kin)
          have hk : ∀ x ∈ joinF s.1 q, ∃ e, rowAt R x = some (r - 1, e) := fun x hx => by
            rcases mem_join.mp hx with h | h
            · exact hs.1.kin x h.1
            · exact g2 x h.1
          refine okk_stN (law_join_eq (by omega)) (okk_ok ⟨_, rfl, ⟨hr.1, hr.2, sm_join hs.1.sm g1, fun x hx => ?_, hk, ?_⟩, hu.2.2⟩)
          · obtain ⟨e, he⟩ := hk x hx
            exact (rowAt_some he).2.1
          · show edgeF R (joinF s.1 q) = []
            rw [edgeF_join hw hs.1.sm g1, hs.1.round, g3]
            rfl
        · obtain ⟨s, rfl, hs⟩ := hf
          refine okk_bind (P := fun f => ∃ L', f = .next L' ∧ LoopsOk (R ++ [some (r, s.1)]) L' ∧ L'.length ≤ L.length + 1) (okk_if (fun hc => okk_st (app_eq (by omega)) (okk_ok ⟨_, rfl, hone s.1 (of_decide_eq_true hc) L hL, ?_⟩)) fun _ => okk_ok ⟨_, rfl, hL.append, Nat.le_succ _⟩) fun f hf => ?_
          · rw [List.length_append, List.length_singleton]
            exact Nat.le_refl _
          · obtain ⟨L', rfl, h1, h2⟩ := hf
            show Okk (m_law_edge_by_s2 R L' s.2 s.1) _
            unfold m_law_edge_by_s2
            exact okk_ok ⟨hs.1, h1, h2, hs.2⟩
    · refine okk_stN (law_here_ok (by omega)) (okk_st (comp_eq (g := fun k => if decide (rankAt R k = r) = true then some k else none) _ fun x hx => ?_) ?_)
      · have hs := here_mem.mp hx
        have hb := here_lt hx
        exact st_st (ix_row hb.1 hb.2) (st_st (get_eq (row_get hs)) if_res)
      · show Okk (m_law_edge_by_s3 R L r y.2 (R.length : Int) ((hereF R).filterMap _)) _
        rw [filterMap_if]
        unfold m_law_edge_by_s3
        have hkin : ∀ x ∈ (hereF R).filter (fun k => decide (rankAt R k = r)), (rowAt R x).isSome = true ∧ rankAt R x = r := fun x hx => by
          rw [List.mem_filter, decide_eq_true_eq] at hx
          exact ⟨here_mem.mp hx.1, hx.2⟩
        have hkl : ((hereF R).filter (fun k => decide (rankAt R k = r))).length ≤ 1000 := by
          have h1 := List.length_filter_le (fun k => decide (rankAt R k = r)) (hereF R)
          have h2 : (hereF R).length ≤ R.length := sub_len (here_sm R) fun x hx => here_mem.mp hx
          omega
        refine okk_bind (okk_noex (law_some_ok hy.2.2 hkl)) fun c hc => ?_
        have hcs : ∀ x ∈ c.1, (rowAt R x).isSome = true := fun x hx => (hkin x (hc.2.1 x hx)).1
        have hcl := sub_len hc.1 hcs
        refine okk_st (cat_eq (by rw [List.length_singleton]; omega)) (okk_st (app_eq (by omega)) (okk_stN (law_edge_ok hw (by omega) hcs) (okk_ok ?_)))
        have hround : edgeF R (edgeF R c.1) = [] := by
          -- the border of a sum's border
          have : ∀ l : List Int, edgeF R (edgeF R l) = [] := fun l => by
            induction l with
            | nil => rfl
            | cons x l ih =>
              rw [edgeF_cons hw, edgeF_join hw (edgeAt_sm hw x) (edgeF_sm hw l), ih]
              have : edgeF R (edgeAt R x) = [] := by
                unfold edgeAt
                cases e : rowAt R x with
                | none => rfl
                | some y => exact (hw x y.1 y.2 e).round
              rw [this]
              rfl
          exact this c.1
        have hk : ∀ x ∈ edgeF R c.1, ∃ e, rowAt R x = some (r - 1, e) := fun x hx => by
          obtain ⟨d, hd, hxd⟩ := edgeF_mem hx
          obtain ⟨r', e, h1, _, h2⟩ := edgeAt_mem hw hxd
          have h3 := (hkin d (hc.2.1 d hd)).2
          unfold rankAt at h3
          rw [h1] at h3
          have h3 : r' = r := h3
          rw [← h3]
          exact h2
        have hg : Good R R.length r (edgeF R c.1) := ⟨hr.1, hr.2, edgeF_sm hw _, fun x hx => by
          obtain ⟨e, he⟩ := hk x hx
          exact (rowAt_some he).2.1, hk, hround⟩
        refine ⟨hg, ?_, ?_, hc.2.2⟩
        · have hw2 : Wf (R ++ [some (r, edgeF R c.1)]) := hw.snoc fun r' e' h => by
            cases h
            exact hg
          have hlt : ∀ x ∈ c.1, x < (R.length : Int) := fun x hx => (here_lt (here_mem.mpr (hcs x hx))).2
          refine LoopsOk.snoc hL.append (sm_snoc hc.1 hlt) (fun x hx => ?_) ?_
          · rcases List.mem_append.mp hx with h | h
            · rw [rowAt_append (hlt x h), row_get (hcs x h), (hkin x (hc.2.1 x h)).2]
              exact ⟨_, rfl⟩
            · rw [List.mem_singleton.mp h, rowAt_last]
              exact ⟨_, rfl⟩
          · show edgeF _ (c.1 ++ [(R.length : Int)]) = []
            rw [edgeF_append_row hw2, edgeF_append hlt]
            show joinF _ (joinF [] (edgeAt _ _)) = []
            rw [edgeAt_last, nil_join _ (edgeF_sm hw _), join_self]
        · show (L ++ [_]).length ≤ _
          rw [List.length_append, List.length_singleton]
          exact Nat.le_refl _
end SB

namespace SB
open PySem PySem.Spec PyProof.Rows L2 Res
def fullRows : List Row := [(0, []), (0, []), (0, []), (0, []), (1, [0, 1]), (1, [0, 2]), (1, [0, 3]), (1, [1, 2]), (1, [1, 3]), (1, [2, 3]), (2, [4, 5, 7]), (2, [4, 6, 8]), (2, [5, 6, 9]), (2, [7, 8, 9]), (3, [10, 11, 12, 13])]
theorem law_stock_ok (n : Int) : m_law_stock n = .ok ((cutL fullRows none (some n)).map some) := by
  unfold m_law_stock m_law_stock_s1
  refine okk_is ?_
  rw [rl_eq (by decide)]
  refine okk_st rfl (okk_st rfl (okk_st (cat_eq (by decide)) (okk_st rfl (okk_st (cat_eq (by decide)) (okk_st (cat_eq (by decide)) ?_)))))
  unfold m_law_stock_s2
  exact okk_ok rfl
def stockR (n : Nat) : Rows := (cutL fullRows none (some (n : Int))).map some
def loops0 (R : Rows) : List Row := ((rangeL 0 (R.length : Int)).filter (fun z => decide (z < 4))).map (fun z => ((0 : Int), [z]))
def loops1 (R : Rows) : List Row := if (9 : Int) < (R.length : Int) then loops0 R ++ [(1, [4, 5, 7]), (1, [4, 6, 8]), (1, [5, 6, 9])] else loops0 R
theorem stock_all : ∀ n : Fin 16, (wfB (stockR n.val) && loopsB (stockR n.val) (loops1 (stockR n.val)) && decide ((stockR n.val).length ≤ 15) && decide ((loops1 (stockR n.val)).length ≤ 100) && decide ((loops0 (stockR n.val)).length ≤ 100)) = true := by decide +kernel
theorem stock_good {n : Int} (h0 : 0 ≤ n) (h1 : n < 16) : Wf ((cutL fullRows none (some n)).map some) ∧ LoopsOk ((cutL fullRows none (some n)).map some) (loops1 ((cutL fullRows none (some n)).map some)) ∧ ((cutL fullRows none (some n)).map some).length ≤ 15 ∧ (loops1 ((cutL fullRows none (some n)).map some)).length ≤ 100 ∧ (loops0 ((cutL fullRows none (some n)).map some)).length ≤ 100 := by
  have h := stock_all ⟨n.toNat, by omega⟩
  have e : stockR n.toNat = (cutL fullRows none (some n)).map some := by
    unfold stockR
    rw [show (n.toNat : Int) = n by omega]
  simp only [Bool.and_eq_true, decide_eq_true_eq, e] at h
  exact ⟨wf_of h.1.1.1.1, loops_of h.1.1.1.2, h.1.1.2, h.1.2, h.2⟩
theorem law_rows_ok {b : Bag} {most : Int} (hi : 0 ≤ b.i) (hm : 0 ≤ most ∧ most ≤ 100) : Okk (m_law_rows b most) (fun y => Wf y.1 ∧ (y.1.length : Int) ≤ 15 + most ∧ 0 ≤ y.2.i) := by
  unfold m_law_rows
  refine okk_bind (P := fun f => ∃ s : Rows × Bag, f = .next s ∧ (Wf s.1 ∧ LoopsOk s.1 (loops1 s.1) ∧ s.1.length ≤ 15 ∧ (loops1 s.1).length ≤ 100 ∧ (loops0 s.1).length ≤ 100) ∧ 0 ≤ s.2.i) (okk_bind (pull_okk hi (by decide) (by decide)) fun y hy => okk_if (fun _ => ?_) fun _ => okk_ok ⟨_, rfl, ⟨wf_nil, fun _ h => (nomatch h), Nat.zero_le _, Nat.zero_le _, Nat.zero_le _⟩, hy.2.2⟩) fun f hf => ?_
  · exact okk_bind (pull_okk hy.2.2 (by decide) (by decide)) fun z hz => okk_stN (law_stock_ok z.1) (okk_ok ⟨_, rfl, stock_good hz.1 hz.2.1, hz.2.2⟩)
  · obtain ⟨s, rfl, hs, hb⟩ := hf
    show Okk (Res.bind (Res.bind (rlR (s.1.length : Int)) _) _) _
    have hlen := hs.2.2.1
    rw [rl_eq (by omega)]
    refine okk_st (a := loops0 s.1) rfl (okk_bind (P := fun f => f = .next (loops1 s.1)) (okk_if (fun hc => ?_) fun hc => okk_ok ?_) fun f hf => ?_)
    · refine okk_st (cat_eq ?_) (okk_ok ?_)
      · have := hs.2.2.2.2
        show (loops0 s.1).length + 3 ≤ _
        omega
      · unfold loops1
        rw [if_pos (of_decide_eq_true hc)]
    · unfold loops1
      rw [if_neg (of_decide_eq_false hc)]
    · subst hf
      show Okk (m_law_rows_s1 s.2 most s.1 (loops1 s.1)) _
      unfold m_law_rows_s1
      refine okk_bind (pull_okk hb (by omega) (by omega)) fun y hy => ?_
      rw [rg_eq (by omega)]
      refine okk_bind (P := fun f => ∃ z : Bag × Rows × List Row, f = .next z ∧ Wf z.2.1 ∧ (z.2.1.length : Int) ≤ 15 + most ∧ 0 ≤ z.1.i) (okk_loop (fun p (z : Bag × Rows × List Row) => Wf z.2.1 ∧ LoopsOk z.2.1 z.2.2 ∧ z.2.1.length ≤ 15 + p.length ∧ z.2.2.length ≤ 100 + p.length ∧ 0 ≤ z.1.i) ⟨hs.1, hs.2.1, by show s.1.length ≤ _; omega, by have := hs.2.2.2.1; show (loops1 s.1).length ≤ _; omega, hy.2.2⟩ (fun p x r z hp hz => ?_) fun z hz => ⟨z, rfl, hz.1, ?_, hz.2.2.2.2⟩) fun f hf => ?_
      · have hpl : p.length < 101 := by
          have e := congrArg List.length hp
          rw [range_len, List.length_append, List.length_cons] at e
          omega
        have h3 := hz.2.2.1
        have h4 := hz.2.2.2.1
        refine okk_bind (pull_okk hz.2.2.2.2 (by decide) (by decide)) fun u hu => okk_if (fun _ => ?_) fun _ => ?_
        · refine okk_st (app_eq (by omega)) (okk_ok ⟨_, rfl, hz.1.snoc (fun _ _ h => (nomatch h)), hz.2.1.append, ?_, ?_, hu.2.2⟩)
          · show (z.2.1 ++ [none]).length ≤ _
            rw [List.length_append, List.length_append, List.length_singleton, List.length_singleton]
            omega
          · show z.2.2.length ≤ _
            rw [List.length_append]
            omega
        · refine okk_bind (okk_noex (law_rank_ok hu.2.2)) fun k hk => okk_bind (okk_noex (law_edge_by_ok hz.1 hz.2.1 ⟨hk.1, hk.2.1⟩ hk.2.2 (by omega) (by omega))) fun e he => okk_st (app_eq (by omega)) (okk_ok ⟨_, rfl, hz.1.snoc (fun r' e' h => ?_), he.2.1, ?_, ?_, he.2.2.2⟩)
          · cases h
            exact he.1
          · show (z.2.1 ++ [_]).length ≤ _
            rw [List.length_append, List.length_append, List.length_singleton, List.length_singleton]
            omega
          · have := he.2.2.1
            show e.2.1.length ≤ _
            rw [List.length_append, List.length_singleton]
            omega
      · have := hz.2.2.1
        rw [range_len] at this
        have h2 := hy.2.1
        have h3 := hy.1
        omega
      · obtain ⟨z, rfl, h1, h2, h3⟩ := hf
        exact okk_ok ⟨h1, h2, h3⟩
end SB

namespace SB
open PySem PySem.Spec PyProof.Rows L2 Res
theorem rowAt_take {R : Rows} {n : Nat} {c : Int} (h : c < (n : Int)) : rowAt (R.take n) c = rowAt R c := by
  unfold rowAt
  by_cases h0 : 0 ≤ c
  · rw [if_pos h0, if_pos h0, List.getElem?_take, if_pos (by omega)]
  · rw [if_neg h0, if_neg h0]
theorem Good.cut {R : Rows} {n : Nat} {c r : Int} {e : List Int} (g : Good R c r e) (h : c ≤ (n : Int)) : Good (R.take n) c r e := by
  have hl : ∀ x ∈ e, x < (n : Int) := fun x hx => by have := g.lt x hx; omega
  refine ⟨g.lo, g.hi, g.sm, g.lt, fun x hx => ?_, ?_⟩
  · rw [rowAt_take (hl x hx)]
    exact g.kin x hx
  · rw [← g.round]
    refine edgeF_congr fun x hx => ?_
    unfold edgeAt
    rw [rowAt_take (hl x hx)]
theorem Wf.cut {R : Rows} (h : Wf R) (n : Nat) : Wf (R.take n) := fun c r e hc => by
  have h1 := rowAt_some hc
  rw [List.length_take] at h1
  have h2 : c < (n : Int) := by omega
  rw [rowAt_take h2] at hc
  exact (h c r e hc).cut (by omega)
theorem enum_at {α : Type} {xs : List α} {p r : List (Int × α)} {x : Int × α} (h : enumL xs = p ++ x :: r) : p.length < xs.length ∧ x.1 = (p.length : Int) ∧ xs[p.length]? = some x.2 := by
  have hl : p.length < xs.length := by
    rw [← enumF_len 0 xs]
    show _ < (enumL xs).length
    rw [h, List.length_append, List.length_cons]
    omega
  have h1 := enum_get (List.getElem?_eq_getElem hl)
  rw [h, List.getElem?_append_right (Nat.le_refl _), Nat.sub_self] at h1
  have h1 : x = ((p.length : Int), xs[p.length]) := Option.some.inj h1
  rw [h1]
  exact ⟨hl, rfl, List.getElem?_eq_getElem hl⟩
theorem over_none {R : Rows} (hw : Wf R) {c : Int} (hc : (R.length : Int) ≤ c + 1) : overF R c = [] := by
  unfold overF
  rw [List.filter_eq_nil_iff]
  intro k hk h
  have h := of_decide_eq_true h
  have hb := here_lt hk
  obtain ⟨r, e, h1, h2, _⟩ := edgeAt_mem hw h
  have := (hw k r e h1).lt c h2
  omega
theorem set_last {R : Rows} {x y : Option Row} : (R ++ [x]).set R.length y = R ++ [y] := by
  rw [List.set_append_right _ _ (Nat.le_refl _), Nat.sub_self]
  rfl
theorem good_point (R : Rows) (c : Int) : Good R c 0 [] := ⟨by decide, by decide, .nil, fun _ h => (nomatch h), fun _ h => (nomatch h), rfl⟩
theorem wf_points : ∀ (l : Rows) {R : Rows}, (∀ x ∈ l, x = some (0, [])) → Wf R → Wf (R ++ l)
  | [], R, _, h => by
    rw [List.append_nil]
    exact h
  | x :: l, R, hl, h => by
    rw [show R ++ x :: l = (R ++ [x]) ++ l by simp]
    refine wf_points l (fun y hy => hl y (List.mem_cons_of_mem _ hy)) (h.snoc fun r e hx => ?_)
    rw [hl x List.mem_cons_self] at hx
    cases hx
    exact good_point _ _
/-- one turn of the filling: a row is put in -/
theorem fill_turn {t : Bool} {s : FS t} {R : Rows} {p : List (Int × Option Row)} {x : Int × Option Row} {r : List (Int × Option Row)} (hw : Wf R) (hl : R.length ≤ 120) (hp : enumL R = p ++ x :: r) (hs : Bd (R.take p.length) s) (ha : s.ahead = []) (hb : s.behind = []) :
    p.length < R.length ∧ R.take (p.length + 1) = R.take p.length ++ [x.2] ∧ x.1 = (p.length : Int) ∧ (R.take p.length).length = p.length ∧ (∀ rk ed, x.2 = some (rk, ed) → Good (R.take p.length) p.length rk ed) := by
  obtain ⟨h1, h2, h3⟩ := enum_at hp
  have hT : (R.take p.length).length = p.length := by
    rw [List.length_take]
    omega
  refine ⟨h1, ?_, h2, hT, fun rk ed h => ?_⟩
  · rw [List.take_add_one, h3]
    rfl
  · rw [h] at h3
    have hrow : rowAt R (p.length : Int) = some (rk, ed) := rowAt_of (by omega) (by rw [show ((p.length : Int)).toNat = p.length by omega]; exact h3)
    exact (hw _ rk ed hrow).cut (Int.le_refl _)
end SB

namespace SB
open PySem PySem.Spec PyProof.Rows L2 Res
theorem okk_ws {ω β σT : Type} {test : σT → Res ω (Bool × σT)} {body : σT → Res ω (Fl β σT)} {Q : Fl β σT → Prop} (I : σT → Prop) (μ : σT → Nat) (ht : ∀ s, I s → Okk (test s) (fun r => I r.2 ∧ μ r.2 ≤ μ s ∧ (r.1 = false → Q (.next r.2))))
    (hb : ∀ s, I s → Okk (body s) (fun f => match f with | .next s' => I s' ∧ μ s' < μ s | .ret y => Q (.ret y))) : ∀ (n : Nat) (s : σT), I s → μ s < n → Okk (whileS test body n s) Q
  | 0, s, _, h => absurd h (Nat.not_lt_zero _)
  | n + 1, s, hs, h => by
    obtain ⟨⟨b, s1⟩, e, h1, h2, h3⟩ := ht s hs
    unfold whileS
    refine okk_st e ?_
    cases b with
    | false => exact okk_ok (h3 rfl)
    | true =>
      refine okk_yes rfl (okk_bind (hb s1 h1) fun f hf => ?_)
      cases f with
      | ret y => exact okk_ok hf
      | next s2 => exact okk_ws I μ ht hb n s2 hf.1 (by have := hf.2; have : μ s1 ≤ μ s := h2; omega)
theorem okk_wm {ω β σT : Type} {test : σT → Res ω Bool} {body : σT → Res ω (Fl β σT)} {Q : Fl β σT → Prop} (I : σT → Prop) (μ : σT → Nat) (ht : ∀ s, I s → Okk (test s) (fun b => b = false → Q (.next s)))
    (hb : ∀ s, I s → test s = .ok true → Okk (body s) (fun f => match f with | .next s' => I s' ∧ μ s' < μ s | .ret y => Q (.ret y))) : ∀ (n : Nat) (s : σT), I s → μ s < n → Okk (whileM test body n s) Q
  | 0, s, _, h => absurd h (Nat.not_lt_zero _)
  | n + 1, s, hs, h => by
    obtain ⟨b, e, h3⟩ := ht s hs
    unfold whileM
    refine okk_st e ?_
    cases b with
    | false => exact okk_ok (h3 rfl)
    | true =>
      refine okk_yes rfl (okk_bind (hb s hs e) fun f hf => ?_)
      cases f with
      | ret y => exact okk_ok hf
      | next s2 => exact okk_wm I μ ht hb n s2 hf.1 (by have := hf.2; omega)
end SB

namespace SB
open PySem PySem.Spec PyProof.Rows L2 Res
theorem in_arrow_ok (s : FS true) (c : Int) : m_Field_in_arrow s c = .ok ((agt s.ahead c).isSome || (agt s.behind c).isSome) := by
  unfold m_Field_in_arrow
  cases (agt s.ahead c).isSome <;> rfl
theorem loose_ok {s : FS true} {R : Rows} (h : Bd R s) {c : Int} (hc : (rowAt R c).isSome = true) (ha : agt s.ahead c = none) (hb : agt s.behind c = none) : m_Field_loose s c = .ok () := by
  unfold m_Field_loose
  refine okk_is (okk_stL (known_ok h (one_known hc)) (okk_stN (in_arrow_ok s c) (okk_no ?_ (okk_ok rfl))))
  rw [ha, hb]
  rfl
theorem take_ok {t : Bool} {s : FS t} {R : Rows} (h : Bd R s) (hl : R.length ≤ 100000) {c : Int} (hc : (rowAt R c).isSome = true) (ho : overF R c = []) (ha : agt s.ahead c = none) (hb : agt s.behind c = none) :
    Okk (m_Body_take s c) (fun y => Bd (R.set c.toNat none) y.2 ∧ y.2.ahead = s.ahead ∧ y.2.behind = s.behind) := by
  unfold m_Body_take
  refine okk_stL (known_ok h (one_known hc)) (okk_stL (a := ()) ?_ (okk_stL (over_ok h hl hc) (okk_no (by rw [ho]; rfl) (okk_bind (okk_noex (drop_ok h hc)) fun y hy => okk_ok hy))))
  cases t with
  | false =>
    show m_Body_loose s c = _
    unfold m_Body_loose
    exact okk_is (okk_stL (known_ok h (one_known hc)) (okk_ok rfl))
  | true => exact loose_ok h hc ha hb
theorem steps_ok {s : FS true} {R : Rows} (h : Bd R s) (hw : Wf R) (f : Fd R s.ahead s.behind) {t : Int} (ht : (agt s.ahead t).isSome = true) : m_Field_steps s t = .ok (stepsF R s.ahead t) := by
  obtain ⟨y, e⟩ := Option.isSome_iff_exists.mp ht
  have hy := (edge_here hw (f.face t y e)).2.1
  unfold m_Field_steps
  refine okk_is (okk_st (ag_eq e) (okk_st (ag_eq (h.edAt hy)) (okk_st (a := (stepsF R s.ahead t, ())) ?_ (okk_ok rfl))))
  rw [comp_eq (g := fun z => if (!decide (z = t) && (agt s.ahead z).isSome) = true then some z else none) _ fun x hx => ?_, filterMap_if, steps_at e]
  cases e1 : (!decide (x = t)) with
  | false => rfl
  | true =>
    cases e2 : (agt s.ahead x).isSome with
    | false => rfl
    | true => rfl
theorem list_neg1 {ω : Type} {l : List Int} {x : Int} : (ixR (l ++ [x]) (-(1 : Int)) : Res ω Int) = .ok x := by
  refine ix_eq ?_
  have e : ixN (l ++ [x]).length (-1) = some l.length := by
    rw [List.length_append, List.length_singleton]
    unfold ixN
    rw [if_neg (by decide), if_pos (by omega)]
    exact congrArg some (by omega)
  unfold atI
  rw [e]
  show (l ++ [x])[l.length]? = _
  rw [List.getElem?_append_right (Nat.le_refl _), Nat.sub_self]
  rfl
/-- the row of tails from the first one to here -/
theorem led_ok {R : Rows} {a came : Ar} {low here : Int} {S : List Int} (hl : a.length ≤ 1000) (hr : ∃ rk, Rk R a rk) (hc : ∀ x ∈ S, ∃ p, agt came x = some p ∧ (p = low ∨ (p ∈ S ∧ x ∈ stepsF R a p))) (hh : here ∈ S) :
    Okk (m_led came low here) (fun _ => True) := by
  obtain ⟨rk, hr, hb⟩ := rk_norm hr
  unfold m_led
  have fu := fuel_eq
  refine okk_bind (P := fun f => ∃ s : List Int, f = .next s ∧ s.length ≤ 1001) (okk_wm (fun s : List Int => ∃ q x, s = q ++ [x] ∧ x ∈ S ∧ q.length ≤ rk x) (fun s => 2000 - s.length) (fun s hs => ?_) (fun s hs ht => ?_) _ _ ⟨[], here, rfl, hh, Nat.zero_le _⟩ ?_) fun f hf => ?_
  · obtain ⟨q, x, rfl, hx, hq⟩ := hs
    obtain ⟨p, e, _⟩ := hc x hx
    refine okk_st list_neg1 (okk_st (ag_eq e) (okk_ok fun _ => ⟨_, rfl, ?_⟩))
    rw [List.length_append, List.length_singleton]
    have := hb x
    omega
  · obtain ⟨q, x, rfl, hx, hq⟩ := hs
    obtain ⟨p, e, hp⟩ := hc x hx
    have hp : p ∈ S ∧ x ∈ stepsF R a p := by
      rcases hp with hp | hp
      · rw [list_neg1] at ht
        change Res.bind (agR came x) _ = _ at ht
        rw [ag_eq e] at ht
        change Res.ok (!decide (p = low)) = _ at ht
        rw [decide_eq_true hp] at ht
        cases ht
      · exact hp
    have h1 := hr p x hp.2
    have h2 := hb x
    refine okk_st list_neg1 (okk_st (ag_eq e) (okk_st (app_eq (by rw [List.length_append, List.length_singleton]; omega)) (okk_ok ⟨⟨q ++ [x], p, rfl, hp.1, ?_⟩, ?_⟩)))
    · rw [List.length_append, List.length_singleton]
      omega
    · show 2000 - (q ++ [x] ++ [p]).length < 2000 - (q ++ [x]).length
      rw [List.length_append, List.length_append, List.length_singleton, List.length_singleton]
      omega
  · show 2000 - 1 < fuel
    omega
  · obtain ⟨s, rfl, h⟩ := hf
    exact okk_st (app_eq (by omega)) (okk_ok trivial)
structure RW (R : Rows) (a : Ar) (low high : Int) (came : Ar) (row : List Int) : Prop where
  nd : row.Nodup
  tl : ∀ x ∈ row, (agt a x).isSome = true
  keys : came.map (·.1) = row
  val : ∀ x ∈ row, ∃ p, agt came x = some p ∧ (p = low ∨ (p ∈ row ∧ x ∈ stepsF R a p))
  comp : ∀ rk, Rk R (a ++ [(low, high)]) rk → ∀ x ∈ row, rk x < rk low
theorem steps_snoc {R : Rows} {a : Ar} {low high p x : Int} (hl : agt a low = none) (h : x ∈ stepsF R a p) : x ∈ stepsF R (a ++ [(low, high)]) p := by
  obtain ⟨y, e, h1, h2, h3⟩ := steps_mem.mp h
  refine steps_mem.mpr ⟨y, ?_, h1, h2, ?_⟩
  · rw [agt_snoc hl, if_neg fun z => by rw [← z, hl] at e; cases e]
    exact e
  · rw [agt_snoc hl]
    by_cases z : low = x
    · rw [if_pos z]
      rfl
    · rw [if_neg z]
      exact h3
theorem RW.len {R : Rows} {a : Ar} {low high : Int} {came : Ar} {row : List Int} (w : RW R a low high came row) : row.length ≤ a.length ∧ came.length = row.length := by
  refine ⟨?_, by rw [← w.keys, List.length_map]⟩
  have h := w.nd.length_le_of_subset (l₂ := a.map (·.1)) fun x hx => agt_some.mp (w.tl x hx)
  rw [List.length_map] at h
  exact h
theorem RW.grow {R : Rows} {a : Ar} {low high here x : Int} {came : Ar} {row : List Int} (w : RW R a low high came row) (hl : agt a low = none) (hh : here ∈ row) (hx : x ∈ stepsF R a here) (hn : agt came x = none) : RW R a low high (aput came x here) (row ++ [x]) := by
  have hnr : x ∉ row := fun z => agt_none.mp hn (by rw [w.keys]; exact z)
  obtain ⟨_, _, _, _, hxt⟩ := steps_mem.mp hx
  refine ⟨?_, fun y hy => ?_, ?_, fun y hy => ?_, fun rk hr y hy => ?_⟩
  · rw [List.nodup_append]
    refine ⟨w.nd, List.pairwise_singleton _ _, fun y hy z hz e => ?_⟩
    rw [List.mem_singleton] at hz
    subst hz
    subst e
    exact hnr hy
  · rcases List.mem_append.mp hy with h | h
    · exact w.tl y h
    · rw [List.mem_singleton] at h
      rw [h]
      exact hxt
  · rw [aput_new hn, List.map_append, w.keys]
    rfl
  · rw [agt_aput]
    rcases List.mem_append.mp hy with h | h
    · rw [if_neg fun e => hnr (by rw [e]; exact h)]
      obtain ⟨p, e, hp⟩ := w.val y h
      exact ⟨p, e, hp.imp id fun hp => ⟨List.mem_append_left _ hp.1, hp.2⟩⟩
    · rw [List.mem_singleton] at h
      rw [h, if_pos rfl]
      exact ⟨here, rfl, .inr ⟨List.mem_append_left _ hh, hx⟩⟩
  · rcases List.mem_append.mp hy with h | h
    · exact w.comp rk hr y h
    · rw [List.mem_singleton] at h
      rw [h]
      exact Nat.lt_trans (hr here x (steps_snoc hl hx)) (w.comp rk hr here hh)
theorem ring_ok {s : FS true} {R : Rows} (h : Bd R s) (hw : Wf R) (hl : R.length ≤ 1000) (f : Fd R s.ahead s.behind) {low high : Int} (hf : low ∈ edgeAt R high) (hn : agt s.ahead low = none) :
    Okk (m_Field_ring_with s low high) (fun y => (y = none ∧ ∃ rk, Rk R (s.ahead ++ [(low, high)]) rk) ∨ (∃ l, y = some l ∧ ¬ ∃ rk, Rk R (s.ahead ++ [(low, high)]) rk)) := by
  have hal := f.len hw
  have hhi := (edge_here hw hf).2.1
  have fu := fuel_eq
  have row0_mem : ∀ x, x ∈ (edgeAt R high).filter (fun z => !decide (z = low) && (agt s.ahead z).isSome) ↔ x ∈ edgeAt R high ∧ x ≠ low ∧ (agt s.ahead x).isSome = true := fun x => by
    rw [List.mem_filter, Bool.and_eq_true]
    refine ⟨fun ⟨h1, h2, h3⟩ => ⟨h1, fun z => ?_, h3⟩, fun ⟨h1, h2, h3⟩ => ⟨h1, by rw [decide_eq_false h2]; rfl, h3⟩⟩
    rw [decide_eq_true z] at h2
    cases h2
  have row0_sm : Sm ((edgeAt R high).filter (fun z => !decide (z = low) && (agt s.ahead z).isSome)) := List.Pairwise.filter _ (edgeAt_sm hw high)
  unfold m_Field_ring_with
  refine okk_st (ag_eq (h.edAt hhi)) (okk_st (a := ((edgeAt R high).filter (fun z => !decide (z = low) && (agt s.ahead z).isSome), ())) ?_ ?_)
  · rw [comp_eq (g := fun z => if (!decide (z = low) && (agt s.ahead z).isSome) = true then some z else none) _ fun x hx => ?_, filterMap_if]
    cases e1 : (!decide (x = low)) with
    | false => rfl
    | true =>
      cases e2 : (agt s.ahead x).isSome with
      | false => rfl
      | true => rfl
  generalize hrow : (edgeAt R high).filter (fun z => !decide (z = low) && (agt s.ahead z).isSome) = row0 at row0_mem row0_sm
  show Okk (m_Field_ring_with_s1 s low row0 []) _
  have hr0l : row0.length ≤ R.length := by
    rw [← hrow]
    exact Nat.le_trans (List.length_filter_le _ _) (edgeAt_len hw high)
  unfold m_Field_ring_with_s1
  refine okk_bind (P := fun g => ∃ came, g = Fl.next came ∧ RW R s.ahead low high came row0) (okk_loop (fun p (came : Ar) => came.map (·.1) = p ∧ ∀ x ∈ p, agt came x = some low) ⟨rfl, fun _ z => (nomatch z)⟩ (fun p x r came hp hI => ?_) fun came hI => ⟨came, rfl, ?_⟩) fun g hg => ?_
  · have hx : agt came x = none := agt_none.mpr fun z => by
      rw [hI.1] at z
      rw [hp] at row0_sm
      have := (List.pairwise_append.mp row0_sm).2.2 x z x List.mem_cons_self
      omega
    have hlen := congrArg List.length hp
    rw [List.length_append, List.length_cons] at hlen
    have hcl : came.length = p.length := by rw [← hI.1, List.length_map]
    refine okk_st (aput_eq (by omega)) (okk_ok ⟨_, rfl, ?_, fun y hy => ?_⟩)
    · rw [aput_new hx, List.map_append, hI.1]
      rfl
    · rw [agt_aput]
      by_cases e : x = y
      · rw [if_pos e]
      · rw [if_neg e]
        rcases List.mem_append.mp hy with z | z
        · exact hI.2 y z
        · exact absurd (List.mem_singleton.mp z).symm e
  · refine ⟨row0_sm.nodup, fun x hx => ((row0_mem x).mp hx).2.2, hI.1, fun x hx => ⟨low, hI.2 x hx, .inl rfl⟩, fun rk hr x hx => hr low x (steps_mem.mpr ⟨high, ?_, ((row0_mem x).mp hx).1, ((row0_mem x).mp hx).2.1, ?_⟩)⟩
    · rw [agt_snoc hn, if_pos rfl]
    · rw [agt_snoc hn, if_neg (Ne.symm ((row0_mem x).mp hx).2.1)]
      exact ((row0_mem x).mp hx).2.2
  · obtain ⟨came, rfl, hc⟩ := hg
    refine okk_bind (P := fun g => match g with
        | Fl.next _ => ∃ rk, Rk R (s.ahead ++ [(low, high)]) rk
        | Fl.ret y => ∃ l, y = some l ∧ ¬ ∃ rk, Rk R (s.ahead ++ [(low, high)]) rk)
      (okk_wm (fun (st : Int × Ar × List Int) => 0 ≤ st.1 ∧ st.1 ≤ (st.2.2.length : Int) ∧ RW R s.ahead low high st.2.1 st.2.2 ∧ (∀ x ∈ row0, x ∈ st.2.2) ∧ ∀ x ∈ st.2.2.take st.1.toNat, (∀ y, agt s.ahead x = some y → low ∉ edgeAt R y) ∧ ∀ z ∈ stepsF R s.ahead x, z ∈ st.2.2)
        (fun st => 2000 - st.1.toNat) (fun st hs => ?_) (fun st hs ht => ?_) _ _ ⟨Int.le_refl _, Int.natCast_nonneg _, hc, fun _ z => z, fun x hx => (nomatch hx)⟩ ?_) fun g hg => ?_
    · obtain ⟨at', came, row⟩ := st
      obtain ⟨h1, h2, h3, h4, h5⟩ := hs
      refine okk_ok fun hb => ?_
      have hb := of_decide_eq_false hb
      have e : row.take at'.toNat = row := List.take_of_length_le (by show row.length ≤ at'.toNat; have : ¬ at' < (row.length : Int) := hb; omega)
      have h5 : ∀ x ∈ row, _ := fun x hx => h5 x (by show x ∈ row.take at'.toNat; rw [e]; exact hx)
      exact rk_tie f.acy hn (fun x hx hne hs => h4 x ((row0_mem x).mpr ⟨hx, hne, hs⟩)) (fun t ht => (h5 t ht).1) (fun t ht => (h5 t ht).2) fun t ht z => by
        have := h3.tl t ht
        rw [z, hn] at this
        cases this
    · obtain ⟨at', came, row⟩ := st
      obtain ⟨h1, h2, h3, h4, h5⟩ := hs
      have h1 : 0 ≤ at' := h1
      have h3 : RW R s.ahead low high came row := h3
      have h4 : ∀ x ∈ row0, x ∈ row := h4
      have h5 : ∀ x ∈ row.take at'.toNat, (∀ y, agt s.ahead x = some y → low ∉ edgeAt R y) ∧ ∀ z ∈ stepsF R s.ahead x, z ∈ row := h5
      have hlt : at' < (row.length : Int) := by
        have : decide (at' < (row.length : Int)) = true := Res.ok.inj ht
        exact of_decide_eq_true this
      have hL := h3.len
      have hg : row[at'.toNat]? = some row[at'.toNat] := List.getElem?_eq_getElem (by omega)
      generalize hhere : row[at'.toNat] = here at hg
      have hm : here ∈ row := List.mem_of_getElem? hg
      obtain ⟨y, ey⟩ := Option.isSome_iff_exists.mp (h3.tl here hm)
      have hyr := (edge_here hw (f.face here y ey)).2.1
      refine okk_st (ix_eq (x := here) (by rw [atI_of h1 hlt]; exact hg)) (okk_st (ag_eq ey) (okk_st (ag_eq (h.edAt hyr)) ?_))
      refine okk_if (fun hd => ?_) fun hd => ?_
      · have hlow := of_decide_eq_true hd
        refine okk_bind (okk_noex (led_ok (by omega) f.acy h3.val hm)) fun l _ => okk_ok ⟨l, rfl, fun ⟨rk, hr⟩ => ?_⟩
        have q1 := h3.comp rk hr here hm
        have hne : low ≠ here := fun z => by rw [← z, hn] at ey; cases ey
        have q2 := hr here low (steps_mem.mpr ⟨y, by rw [agt_snoc hn, if_neg hne]; exact ey, hlow, hne, by rw [agt_snoc hn, if_pos rfl]; rfl⟩)
        omega
      · have hlow := of_decide_eq_false hd
        refine okk_stN (steps_ok h hw f (h3.tl here hm)) ?_
        refine okk_bind (P := fun g => ∃ st : Ar × List Int, g = .next st ∧ RW R s.ahead low high st.1 st.2 ∧ (∃ ext, st.2 = row ++ ext) ∧ ∀ z ∈ stepsF R s.ahead here, z ∈ st.2)
          (okk_loop (fun p (st : Ar × List Int) => RW R s.ahead low high st.1 st.2 ∧ (∃ ext, st.2 = row ++ ext) ∧ ∀ z ∈ p, z ∈ st.2) ⟨h3, ⟨[], (List.append_nil _).symm⟩, fun _ z => (nomatch z)⟩ (fun p x r st hp hI => ?_) fun st hI => ⟨st, rfl, hI⟩) fun g hg => ?_
        · obtain ⟨cm, rw'⟩ := st
          obtain ⟨g1, ⟨ext, g2⟩, g3⟩ := hI
          have g1 : RW R s.ahead low high cm rw' := g1
          have g2 : rw' = row ++ ext := g2
          have g3 : ∀ z ∈ p, z ∈ rw' := g3
          have hx : x ∈ stepsF R s.ahead here := by rw [hp]; simp
          have hmr : here ∈ rw' := by rw [g2]; exact List.mem_append_left _ hm
          have gl := g1.len
          cases e : agt cm x with
          | none =>
            refine okk_yes rfl (okk_st (aput_eq (by show cm.length < _; omega)) (okk_st (app_eq (by show rw'.length < _; omega)) (okk_ok ⟨_, rfl, g1.grow hn hmr hx e, ⟨ext ++ [x], ?_⟩, fun z hz => ?_⟩)))
            · show rw' ++ [x] = _
              rw [g2, List.append_assoc]
            · rcases List.mem_append.mp hz with z1 | z1
              · exact List.mem_append_left _ (g3 z z1)
              · exact List.mem_append_right _ z1
          | some v =>
            refine okk_no rfl (okk_ok ⟨_, rfl, g1, ⟨ext, g2⟩, fun z hz => ?_⟩)
            rcases List.mem_append.mp hz with z1 | z1
            · exact g3 z z1
            · rw [List.mem_singleton] at z1
              rw [z1]
              show x ∈ rw'
              rw [← g1.keys]
              exact agt_some_key e
        · obtain ⟨⟨cm, rw'⟩, rfl, g1, ⟨ext, g2⟩, g3⟩ := hg
          have g2 : rw' = row ++ ext := g2
          refine okk_ok ⟨⟨by show 0 ≤ at' + 1; omega, ?_, g1, fun x hx => ?_, fun x hx => ?_⟩, ?_⟩
          · show at' + 1 ≤ (rw'.length : Int)
            rw [g2, List.length_append]
            omega
          · show x ∈ rw'
            rw [g2]
            exact List.mem_append_left _ (h4 x hx)
          · have hx : x ∈ rw'.take (at' + 1).toNat := hx
            rw [show (at' + 1).toNat = at'.toNat + 1 by omega, g2, List.take_append_of_le_length (by omega), List.take_succ, hg] at hx
            rcases List.mem_append.mp hx with z | z
            · refine ⟨(h5 x z).1, fun w hw' => ?_⟩
              show w ∈ rw'
              rw [g2]
              exact List.mem_append_left _ ((h5 x z).2 w hw')
            · have z : x = here := List.mem_singleton.mp z
              subst z
              refine ⟨fun y' e' => ?_, g3⟩
              rw [ey] at e'
              cases e'
              exact hlow
          · show 2000 - (at' + 1).toNat < 2000 - at'.toNat
            omega
    · show 2000 - (0 : Int).toNat < fuel
      omega
    · cases g with
      | next st =>
        show Okk (m_Field_ring_with_s2 s) _
        unfold m_Field_ring_with_s2
        exact okk_ok (.inl ⟨rfl, hg⟩)
      | ret y => exact okk_ok (.inr hg)
end SB

namespace SB
open PySem PySem.Spec PyProof.Rows L2 Res
theorem bd_empty {t : Bool} : Bd [] (emptyF t) := ⟨rfl, rfl, rfl⟩
theorem law_fill_ok {t : Bool} {s : FS t} {R : Rows} (hw : Wf R) (hl : R.length ≤ 120) (hs : Bd [] s) (ha : s.ahead = []) (hb : s.behind = []) : Okk (m_law_fill s R) (fun y => Bd R y.2 ∧ y.2.ahead = [] ∧ y.2.behind = []) := by
  unfold m_law_fill
  refine okk_bind (P := fun f => ∃ s' : FS t, f = .next s' ∧ Bd R s' ∧ s'.ahead = [] ∧ s'.behind = []) (okk_loop (fun p (s : FS t) => Bd (R.take p.length) s ∧ s.ahead = [] ∧ s.behind = []) ⟨hs, ha, hb⟩ (fun p x r s hp hI => ?_) fun s hI => ⟨s, rfl, ?_, hI.2⟩) fun f hf => ?_
  · obtain ⟨h1, h2, h3, h4, h5⟩ := fill_turn hw hl hp hI.1 hI.2.1 hI.2.2
    have hwT := hw.cut p.length
    rw [List.length_append, List.length_singleton]
    show Okk _ (fun f => ∃ s', f = Fl.next s' ∧ Bd (R.take (p.length + 1)) s' ∧ s'.ahead = [] ∧ s'.behind = [])
    rw [h2]
    cases hy : x.2 with
    | none =>
      have hw2 : Wf (R.take p.length ++ [some (0, [])]) := hwT.snoc fun r e h => by
        cases h
        exact good_point _ _
      refine okk_yes rfl (okk_bind (okk_noex (put_ok hI.1 hwT (by omega) (r := 0) (e := []) (by rw [h4]; exact good_point _ _))) fun y h => ?_)
      have hst : (rowAt (R.take p.length ++ [some (0, [])]) x.1).isSome = true := by
        have := rowAt_last (R := R.take p.length) (x := some (0, []))
        rw [h4] at this
        rw [h3, this]
        rfl
      refine okk_bind (okk_noex (take_ok h.2.1 (by rw [List.length_append, h4, List.length_singleton]; omega) hst (over_none hw2 (by rw [List.length_append, h4, List.length_singleton]; omega)) (by rw [h.2.2.1, hI.2.1]; rfl) (by rw [h.2.2.2, hI.2.2]; rfl))) fun z hz => okk_ok ⟨_, rfl, ?_, ?_, ?_⟩
      · have := hz.1
        rw [h3, show ((p.length : Int)).toNat = (R.take p.length).length by omega, set_last] at this
        exact this
      · show z.2.ahead = []
        rw [hz.2.1, h.2.2.1, hI.2.1]
      · show z.2.behind = []
        rw [hz.2.2, h.2.2.2, hI.2.2]
    | some row =>
      obtain ⟨rk, ed⟩ := row
      have g := h5 rk ed hy
      refine okk_no rfl (okk_st (get_eq rfl) (okk_st (get_eq rfl) (okk_bind (okk_noex (put_ok hI.1 hwT (by omega) (r := rk) (e := ed) (by rw [h4]; exact g))) fun y h => okk_ok ⟨_, rfl, h.2.1, ?_, ?_⟩)))
      · show y.2.ahead = []
        rw [h.2.2.1, hI.2.1]
      · show y.2.behind = []
        rw [h.2.2.2, hI.2.2]
  · have h := hI.1
    have e : (enumL R).length = R.length := enumF_len 0 R
    rw [e, List.take_length] at h
    exact h
  · obtain ⟨s', rfl, h⟩ := hf
    exact okk_ok h
end SB

namespace SB
open PySem PySem.Spec PyProof.Rows L2 Res
/-! ## refusals -/
theorem ex_L {ω ω' α β : Type} {m : Res ω' α} {g : ω' → ω} {f : α → Res ω β} {e : Exn} {w : ω'} (h : m = .ex e w) : Res.bind (Res.lift g m) f = .ex e (g w) := by
  rw [h]
  rfl
theorem ok_L {ω ω' α β : Type} {m : Res ω' α} {g : ω' → ω} {f : α → Res ω β} {a : α} {r : Res ω β} (h : m = .ok a) (k : f a = r) : Res.bind (Res.lift g m) f = r := by
  rw [h]
  exact k
theorem ok_N {ω ω' α β : Type} {m : Res ω' α} {f : α → Res ω β} {a : α} {r : Res ω β} (h : m = .ok a) (k : f a = r) : Res.bind (Res.noex m) f = r := by
  rw [h]
  exact k
theorem ok_S {ω α β : Type} {m : Res ω α} {f : α → Res ω β} {a : α} {r : Res ω β} (h : m = .ok a) (k : f a = r) : Res.bind m f = r := by
  rw [h]
  exact k
theorem ex_S {ω α β : Type} {m : Res ω α} {f : α → Res ω β} {e : Exn} {w : ω} (h : m = .ex e w) : Res.bind m f = .ex e w := by
  rw [h]
  rfl
theorem ite_y {ω α : Type} {c : Bool} {m n r : Res ω α} (h : c = true) (k : m = r) : (if c = true then m else n) = r := by
  rw [h]
  exact k
theorem ite_n {ω α : Type} {c : Bool} {m n r : Res ω α} (h : c = false) (k : n = r) : (if c = true then m else n) = r := by
  rw [h]
  exact k
theorem okk_try {ωb ω σT γ : Type} {mb : Res ωb σT} {mh : Exn → ωb → Res ω σT} {f : σT → Res ω γ} {s : σT} {P : γ → Prop} (h : mb = .ok s) (k : Okk (f s) P) : Okk (Res.bind (tryM mb mh) f) P := by
  rw [h]
  exact k
theorem okk_tryX {ωb ω σT γ : Type} {mb : Res ωb σT} {mh : Exn → ωb → Res ω σT} {f : σT → Res ω γ} {e : Exn} {w : ωb} {P : γ → Prop} (h : mb = .ex e w) (k : Okk (Res.bind (mh e w) f) P) : Okk (Res.bind (tryM mb mh) f) P := by
  rw [h]
  exact k
theorem for_ex {ω α β : Type} {body : α → Unit → Res ω (Fl β Unit)} {bad : α → Prop} {e : Exn} {w : ω} (h1 : ∀ x, bad x → body x () = .ex e w) (h2 : ∀ x, ¬ bad x → body x () = .ok (.next ())) : ∀ {xs : List α}, (∃ x ∈ xs, bad x) → forM body xs () = .ex e w
  | [], h => by
    obtain ⟨x, hx, _⟩ := h
    cases hx
  | x :: xs, h => by
    unfold forM
    by_cases hx : bad x
    · rw [h1 x hx]
      rfl
    · rw [h2 x hx]
      obtain ⟨y, hy, hb⟩ := h
      cases hy with
      | head => exact absurd hb hx
      | tail _ hy => exact for_ex h1 h2 ⟨y, hy, hb⟩
theorem checked_no {l : List Int} (h : l.length ≤ 16777216) (hs : ¬ Sm l) : m_checked l = .ex (.plain 0) () := by
  unfold m_checked
  rw [is_sum_eq h, decide_eq_false hs]
  rfl
theorem known_no {t : Bool} {s : FS t} {R : Rows} (h : Bd R s) {row : List Int} (hr : ∃ x ∈ row, rowAt R x = none) : m_Body_known s row = .ex (.plain 1) () := by
  unfold m_Body_known
  refine ex_S (for_ex (bad := fun x => rowAt R x = none) (fun x hx => ?_) (fun x hx => ?_) hr)
  · rw [h.rk, hx]
    rfl
  · rw [h.rk]
    cases e : rowAt R x with
    | none => exact absurd e hx
    | some y => rfl
theorem known1_no {t : Bool} {s : FS t} {R : Rows} (h : Bd R s) {c : Int} (hr : rowAt R c = none) : m_Body_known s [c] = .ex (.plain 1) () := known_no h ⟨c, List.mem_singleton.mpr rfl, hr⟩
theorem asked_no0 {t : Bool} {s : FS t} {row : List Int} (hl : row.length ≤ 16777216) (hs : ¬ Sm row) : m_Body_asked s row = .ex (.plain 0) () := by
  unfold m_Body_asked
  exact ex_L (checked_no hl hs)
theorem asked_no1 {t : Bool} {s : FS t} {R : Rows} (h : Bd R s) {row : List Int} (hl : row.length ≤ 16777216) (hs : Sm row) (hr : ∃ x ∈ row, rowAt R x = none) : m_Body_asked s row = .ex (.plain 1) () := by
  unfold m_Body_asked
  exact ok_L (checked_eq hl hs) (ex_L (known_no h hr))
theorem rank_no {t : Bool} {s : FS t} {R : Rows} (h : Bd R s) {c : Int} (hc : rowAt R c = none) : m_Body_rank s c = .ex (.plain 1) () := by
  unfold m_Body_rank
  exact ex_L (known1_no h hc)
theorem border_no {t : Bool} {s : FS t} {R : Rows} (h : Bd R s) {c : Int} (hc : rowAt R c = none) : m_Body_border s c = .ex (.plain 1) () := by
  unfold m_Body_border
  exact ex_L (known1_no h hc)
theorem over_no {t : Bool} {s : FS t} {R : Rows} (h : Bd R s) {c : Int} (hc : rowAt R c = none) : m_Body_over s c = .ex (.plain 1) () := by
  unfold m_Body_over
  exact ex_L (known1_no h hc)
theorem take_no1 {t : Bool} {s : FS t} {R : Rows} (h : Bd R s) {c : Int} (hc : rowAt R c = none) : m_Body_take s c = .ex (.plain 1) s := by
  unfold m_Body_take
  exact ex_L (known1_no h hc)
end SB

namespace SB
open PySem PySem.Spec PyProof.Rows L2 Res
theorem bool_or_none {a b : Option Int} (h : (a.isSome || b.isSome) = false) : a = none ∧ b = none := by
  cases a with
  | some x => cases h
  | none =>
    cases b with
    | some x => cases h
    | none => exact ⟨rfl, rfl⟩
/-- a tying of two cells that stand, the low one in the border -/
theorem tie_cases {s : FS true} {R : Rows} (h : Bd R s) (hw : Wf R) (hl : R.length ≤ 1000) (f : Fd R s.ahead s.behind) {low high : Int} (hf : low ∈ edgeAt R high) :
    (((agt s.ahead low).isSome || (agt s.behind low).isSome || ((agt s.ahead high).isSome || (agt s.behind high).isSome)) = true ∧ m_Field_tie s low high = .ex (.plain 8) s)
    ∨ (agt s.ahead low = none ∧ agt s.behind low = none ∧ agt s.ahead high = none ∧ agt s.behind high = none ∧ (¬ ∃ rk, Rk R (s.ahead ++ [(low, high)]) rk) ∧ ∃ l, m_Field_tie s low high = .ex (.ring l) s)
    ∨ (agt s.ahead low = none ∧ agt s.behind low = none ∧ agt s.ahead high = none ∧ agt s.behind high = none ∧ ∃ s' : FS true, m_Field_tie s low high = .ok ((), s') ∧ Bd R s' ∧ Fd R s'.ahead s'.behind ∧ s'.ahead = s.ahead ++ [(low, high)]) := by
  have hh := edge_here hw hf
  have hal := f.len hw
  have hbl := f.lenb hw
  have key : ∀ {r : Res (FS true) (Unit × FS true)}, ((if ((agt s.ahead low).isSome || (agt s.behind low).isSome || ((agt s.ahead high).isSome || (agt s.behind high).isSome)) = true then Res.ex (.plain 8) s else Res.bind (Res.noex (m_Field_ring_with s low high)) fun y41 => if (!(y41).isNone) = true then Res.bind (getR y41) fun t49 => .ex (.ring t49) s else Res.bind (aputR s.ahead low high) fun l62 => Res.bind (aputR s.behind high low) fun l74 => .ok ((), (FS.mk s.ranks s.edges s.after l62 l74 : FS true))) = r) → m_Field_tie s low high = r := fun {r} e => by
    unfold m_Field_tie
    refine ok_L (known_ok h (row := [low, high]) fun x hx => ?_) (ok_S (ag_eq (h.edAt hh.2.1)) (ite_n (by rw [decide_eq_true hf]; rfl) ?_))
    · simp only [List.mem_cons, List.not_mem_nil, or_false] at hx
      rcases hx with rfl | rfl
      · exact hh.1
      · exact hh.2.1
    · refine ok_S (a := ((agt s.ahead low).isSome || (agt s.behind low).isSome || ((agt s.ahead high).isSome || (agt s.behind high).isSome))) (ok_N (in_arrow_ok s low) ?_) e
      cases ((agt s.ahead low).isSome || (agt s.behind low).isSome) with
      | true => rfl
      | false =>
        rw [or_no rfl]
        exact ok_N (in_arrow_ok s high) rfl
  cases hb : ((agt s.ahead low).isSome || (agt s.behind low).isSome || ((agt s.ahead high).isSome || (agt s.behind high).isSome)) with
  | true => exact .inl ⟨rfl, key (ite_y hb rfl)⟩
  | false =>
    rw [Bool.or_eq_false_iff] at hb
    obtain ⟨a1, a2⟩ := bool_or_none hb.1
    obtain ⟨b1, b2⟩ := bool_or_none hb.2
    have hb : ((agt s.ahead low).isSome || (agt s.behind low).isSome || ((agt s.ahead high).isSome || (agt s.behind high).isSome)) = false := by rw [a1, a2, b1, b2]; rfl
    refine .inr ?_
    obtain ⟨y, e, hy⟩ := ring_ok h hw hl f hf a1
    rcases hy with ⟨rfl, hr⟩ | ⟨l, rfl, hr⟩
    · refine .inr ⟨a1, a2, b1, b2, ⟨s.ranks, s.edges, s.after, s.ahead ++ [(low, high)], s.behind ++ [(high, low)]⟩, key (ite_n hb (ok_N e (ite_n rfl (ok_S (aput_eq (by omega)) (ok_S (aput_eq (by omega)) ?_))))), h, f.tie hw hf a1 a2 b1 b2 hr, rfl⟩
      rw [aput_new a1, aput_new b2]
    · exact .inl ⟨a1, a2, b1, b2, hr, l, key (ite_n hb (ok_N e (ite_y rfl (ok_S (get_eq rfl) rfl))))⟩
theorem untie_ok {s : FS true} {R : Rows} (h : Bd R s) (hw : Wf R) (f : Fd R s.ahead s.behind) {low high : Int} (e : agt s.ahead low = some high) :
    Okk (m_Field_untie s low) (fun y => y.1 = high ∧ Bd R y.2 ∧ Fd R y.2.ahead y.2.behind ∧ y.2.ahead = adrop s.ahead low) := by
  unfold m_Field_untie
  have hh := edge_here hw (f.face low high e)
  refine okk_stL (known_ok h (one_known hh.1)) (okk_no (by rw [e]; rfl) (okk_st (apop_eq e) (okk_st (apop_eq ((f.ab low high).mp e)) (okk_ok ⟨rfl, h, f.untie e, rfl⟩))))
theorem pop_eq {ω α : Type} {xs : List α} {i : Int} {x : α} (h0 : 0 ≤ i) (h1 : i < 1000000) (h : xs[i.toNat]? = some x) : (popR xs i : Res ω _) = .ok (x, xs.eraseIdx i.toNat) := by
  unfold popR
  have hlt := (List.getElem?_eq_some_iff.mp h).1
  have e : seqIndex? i xs.length = some i.toNat := (ixN_seq (by
    unfold ixN
    rw [if_pos h0, if_pos (by omega)])).1
  rw [if_pos (by omega), e]
  show (match xs[i.toNat]? with | some x => Res.ok (x, xs.eraseIdx i.toNat) | none => .bad) = _
  rw [h]
theorem erase_drop : ∀ {a : Ar} {i : Nat} {x : Int × Int}, (a.map (·.1)).Nodup → a[i]? = some x → a.eraseIdx i = adrop a x.1
  | [], _, _, _, h => by cases h
  | p :: a, 0, x, hn, h => by
    cases h
    rw [List.map_cons, List.nodup_cons] at hn
    unfold adrop
    rw [List.filter_cons, if_neg (by rw [decide_eq_true_iff]; exact fun z => z rfl), List.filter_eq_self.mpr fun q hq => decide_eq_true (show q.1 ≠ p.1 from fun z => hn.1 (by rw [← z]; exact List.mem_map.mpr ⟨q, hq, rfl⟩))]
    rfl
  | p :: a, i + 1, x, hn, h => by
    rw [List.map_cons, List.nodup_cons] at hn
    have h : a[i]? = some x := h
    have hm : x ∈ a := List.mem_of_getElem? h
    have ih := erase_drop hn.2 h
    unfold adrop at ih ⊢
    rw [List.filter_cons, if_pos (decide_eq_true (show p.1 ≠ x.1 from fun z => hn.1 (by rw [z]; exact List.mem_map.mpr ⟨x, hm, rfl⟩))), ← ih]
    rfl
/-- the law's own list of arrows, rising -/
structure Pr (a P : Ar) : Prop where
  perm : P.Perm a
  sm : Sm (P.map (·.1))
theorem pr_sort {a : Ar} (h : (a.map (·.1)).Nodup) : Pr a (sortP a) := by
  have hp := sortP_perm a
  refine ⟨hp, sm_of ?_ ((hp.map _).nodup_iff.mpr h)⟩
  rw [List.pairwise_map]
  refine List.Pairwise.imp (fun {x y} z => ?_) (sortP_sorted a)
  unfold leP at z
  omega
def highsF (R : Rows) : List Int := (hereF R).filter fun k => !decide (edgeAt R k = [])
theorem highs_mem {R : Rows} {x : Int} (h : x ∈ highsF R) : x ∈ hereF R ∧ edgeAt R x ≠ [] := by
  unfold highsF at h
  rw [List.mem_filter] at h
  refine ⟨h.1, fun z => ?_⟩
  have := h.2
  rw [decide_eq_true z] at this
  cases this
theorem highs_comp {ω : Type} {R : Rows} {B : Int → Unit → Res ω (Option Int × Unit)} (hB : ∀ z, B z () = Res.bind (ixR R z) fun t => Res.bind (getR t) fun u => if (!(decide (u.2 = ([] : List Int)))) = true then .ok (some z, ()) else .ok (none, ())) : compG B (hereF R) () = .ok (highsF R, ()) := by
  rw [comp_eq (g := fun z => if (!decide (edgeAt R z = [])) = true then some z else none) _ fun x hx => ?_, filterMap_if]
  · rfl
  · have hb := here_lt hx
    rw [hB, ix_row hb.1 hb.2, row_get (here_mem.mp hx)]
    exact st_st rfl (st_st (get_eq rfl) if_res)
end SB

namespace SB
open PySem PySem.Spec PyProof.Rows L2 Res
theorem tails_ok {s : FS true} {R : Rows} (hw : Wf R) (hl : R.length ≤ 1000) (f : Fd R s.ahead s.behind) : m_Field_tails s = .ok (sortI (s.ahead.map (·.1))) := by
  unfold m_Field_tails
  have := f.len hw
  exact okk_is (okk_st (keys_eq (by omega)) (okk_ok rfl))
/-- a dict of numbers, its keys fixed -/
structure Wt (T : List Int) (d : Ar) (w : Int → Int) : Prop where
  keys : d.map (·.1) = T
  val : ∀ x ∈ T, agt d x = some (w x)
theorem Wt.put {T : List Int} {d : Ar} {w : Int → Int} (h : Wt T d w) {k v : Int} (hk : k ∈ T) : Wt T (aput d k v) (fun x => if k = x then v else w x) := by
  refine ⟨?_, fun x hx => ?_⟩
  · rw [aput_keys (h.val k hk)]
    exact h.keys
  · rw [agt_aput]
    by_cases e : k = x
    · rw [if_pos e, if_pos e]
    · rw [if_neg e, if_neg e]
      exact h.val x hx
theorem Wt.congr {T : List Int} {d : Ar} {w w' : Int → Int} (h : Wt T d w) (e : ∀ x ∈ T, w x = w' x) : Wt T d w' := ⟨h.keys, fun x hx => by rw [h.val x hx, e x hx]⟩
theorem Wt.len {T : List Int} {d : Ar} {w : Int → Int} (h : Wt T d w) : d.length = T.length := by rw [← h.keys, List.length_map]
end SB

namespace SB
open PySem PySem.Spec PyProof.Rows L2 Res
theorem heads_perm {a b P : Ar} {R : Rows} (f : Fd R a b) (p : Pr a P) : (P.map (·.2)).Perm (b.map (·.1)) := by
  have h1 : (a.map (·.2)).Perm (b.map (·.1)) := by
    refine perm_of ?_ f.kb fun x => ?_
    · have hb : ∀ q ∈ a, agt b q.2 = some q.1 := fun q hq => (f.ab _ _).mp ((agt_iff f.ka).mpr hq)
      have hk := f.ka
      rw [List.nodup_iff_pairwise_ne, List.pairwise_map] at hk ⊢
      refine List.Pairwise.imp_of_mem (fun {x y} hx hy z e => z ?_) hk
      have e1 := hb x hx
      have e2 := hb y hy
      rw [e, e2] at e1
      exact (Option.some.inj e1).symm
    · rw [List.mem_map]
      constructor
      · rintro ⟨q, hq, rfl⟩
        exact agt_some_key ((f.ab _ _).mp ((agt_iff f.ka).mpr hq))
      · intro hx
        obtain ⟨t, e⟩ := Option.isSome_iff_exists.mp (agt_some.mpr hx)
        exact ⟨(t, x), agt_mem_of ((f.ab t x).mpr e), rfl⟩
  exact (p.perm.map _).trans h1
theorem heads_sm {a b P : Ar} {R : Rows} (f : Fd R a b) (p : Pr a P) : Sm (sortI (P.map (·.2))) ∧ ∀ x, x ∈ sortI (P.map (·.2)) ↔ (agt b x).isSome = true := by
  refine ⟨sm_sort ((heads_perm f p).nodup_iff.mpr f.kb), fun x => ?_⟩
  rw [mem_sort, (heads_perm f p).mem_iff, agt_some]
theorem law_heads_ok {P : Ar} : m_law_heads P = .ok (sortI (P.map (·.2))) := by
  unfold m_law_heads
  refine okk_is (okk_st (a := (P.map (·.2), ())) ?_ (okk_ok rfl))
  rw [comp_eq (g := fun z => some z.2) _ fun x hx => rfl, ← List.filterMap_eq_map]
  rfl
theorem law_tails_ok {P : Ar} : m_law_tails P = .ok (P.map (·.1)) := by
  unfold m_law_tails
  refine okk_is (okk_st (a := (P.map (·.1), ())) ?_ (okk_ok rfl))
  rw [comp_eq (g := fun z => some z.1) _ fun x hx => rfl, ← List.filterMap_eq_map]
  rfl
theorem tails_mem {a P : Ar} (p : Pr a P) {x : Int} : x ∈ P.map (·.1) ↔ (agt a x).isSome = true := by rw [(p.perm.map _).mem_iff, agt_some]
theorem Pr.at {a P : Ar} (p : Pr a P) (ka : (a.map (·.1)).Nodup) (x : Int) : agt P x = agt a x := (agt_perm p.perm.symm ka x).symm
theorem Pr.len {a P : Ar} (p : Pr a P) : P.length = a.length := p.perm.length_eq
theorem head_loop {t : Int} : ∀ P : Ar, (forM (ω := Unit) (β := Int) (fun (z : Int × Int) (s : Unit) => if (decide (z.1 = t)) = true then .ok (.ret (z.2)) else .ok (.next ())) P ()) = .ok (match agt P t with | some h => .ret h | none => .next ())
  | [] => rfl
  | (x, y) :: P => by
    unfold forM
    rw [agt_cons]
    by_cases e : x = t
    · rw [if_pos e]
      show Res.bind (if decide (x = t) = true then _ else _) _ = _
      rw [if_pos (decide_eq_true e)]
      rfl
    · rw [if_neg e]
      show Res.bind (if decide (x = t) = true then _ else _) _ = _
      rw [if_neg (by rw [decide_eq_false e]; decide)]
      exact head_loop P
theorem law_head_ok {P : Ar} {t : Int} : m_law_head P t = .ok ((agt P t).getD (-1)) := by
  unfold m_law_head
  refine okk_is (okk_st (head_loop P) ?_)
  cases agt P t with
  | none => exact okk_ok rfl
  | some y => exact okk_ok rfl
theorem law_next_ok {R : Rows} {a b P : Ar} (hw : Wf R) (f : Fd R a b) (p : Pr a P) (t : Int) : m_law_next R P t = .ok (stepsF R a t) := by
  unfold m_law_next
  refine okk_is (okk_stN law_head_ok ?_)
  rw [p.at f.ka]
  cases e : agt a t with
  | none =>
    refine okk_yes rfl (okk_ok ?_)
    unfold stepsF
    rw [e]
  | some h =>
    have hr := (edge_here hw (f.face t h e)).2.1
    have hb := here_lt (here_mem.mpr hr)
    refine okk_no (decide_eq_false (by show ¬ h < 0; omega)) (okk_stN law_tails_ok (okk_st (ix_row hb.1 hb.2) (okk_st (get_eq (row_get hr)) (okk_st (a := (stepsF R a t, ())) ?_ (okk_ok rfl)))))
    rw [comp_eq (g := fun z => if (!decide (z = t) && (agt a z).isSome) = true then some z else none) _ fun x hx => ?_, filterMap_if, steps_at e]
    · rfl
    have e2 : decide (x ∈ P.map (·.1)) = (agt a x).isSome := by
      cases c : (agt a x).isSome with
      | true => exact decide_eq_true ((tails_mem p).mpr c)
      | false => exact decide_eq_false fun z => by rw [(tails_mem p).mp z] at c; cases c
    rw [e2]
    cases e1 : (!decide (x = t)) with
    | false => rfl
    | true =>
      cases e2 : (agt a x).isSome with
      | false => rfl
      | true => rfl
theorem tails_eq {a b P : Ar} {R : Rows} (f : Fd R a b) (p : Pr a P) : sortI (a.map (·.1)) = P.map (·.1) := (sm_sort f.ka).ext p.sm fun x => by rw [mem_sort, (p.perm.map _).mem_iff]
theorem arrows_list {a : Ar} : ∀ {l : Ar}, (∀ q ∈ l, agt a q.1 = some q.2) → (l.map (·.1)).filterMap (fun z => (agt a z).map fun y => (z, y)) = l
  | [], _ => rfl
  | (x, y) :: l, h => by
    have h1 : agt a x = some y := h (x, y) List.mem_cons_self
    rw [List.map_cons, List.filterMap_cons_some (b := (x, y)) (by
      show (agt a x).map (fun y => (x, y)) = _
      rw [h1]
      rfl)]
    exact congrArg _ (arrows_list fun q hq => h q (List.mem_cons_of_mem _ hq))
theorem arrows_ok {s : FS true} {R : Rows} {P : Ar} (hw : Wf R) (hl : R.length ≤ 1000) (f : Fd R s.ahead s.behind) (p : Pr s.ahead P) : m_Field_arrows s = .ok P := by
  unfold m_Field_arrows
  have hP : ∀ q ∈ P, agt s.ahead q.1 = some q.2 := fun q hq => (agt_iff f.ka).mpr (p.perm.mem_iff.mp hq)
  refine okk_is (okk_stN (tails_ok hw hl f) (okk_st (a := (P, ())) ?_ (okk_ok rfl)))
  rw [tails_eq f p, comp_eq (g := fun z => (agt s.ahead z).map fun y => (z, y)) _ fun x hx => ?_, arrows_list hP]
  obtain ⟨y, e⟩ := Option.isSome_iff_exists.mp ((tails_mem p).mp hx)
  rw [e]
  exact st_st (ag_eq e) rfl
theorem law_pairs_ok {P : Ar} (h : P.length ≤ 100000) : m_law_pairs P P = .ok true := by
  unfold m_law_pairs
  refine okk_is (okk_bind (P := fun b => b = false) (okk_or (fun z => (nomatch z)) fun _ => okk_ok (by rw [decide_eq_true rfl]; rfl)) fun b hb => okk_no hb ?_)
  unfold m_law_pairs_s1
  rw [rg_eq (by omega)]
  refine okk_bind (P := fun g => g = Fl.next ()) (okk_each (fun _ => True) trivial (fun x s' hx _ => ?_) fun s' _ => rfl) fun g hg => by
    rw [hg]
    exact okk_ok rfl
  have hb := mem_range.mp hx
  have e := List.getElem?_eq_getElem (l := P) (i := x.toNat) (by omega)
  generalize P[x.toNat] = q at e
  have ix : ∀ {ω : Type}, (ixR P x : Res ω _) = .ok q := fun {ω} => ix_eq (by rw [atI_of hb.1 hb.2]; exact e)
  refine okk_bind (P := fun b => b = false) (okk_st ix (okk_or (fun z => (nomatch z)) fun _ => okk_st ix (okk_ok rfl))) fun b hb => okk_no hb (okk_bind (P := fun b => b = false) (okk_st ix (okk_stN (law_whole_ok _) (okk_or (fun z => (nomatch z)) fun _ => okk_st ix (okk_stN (law_whole_ok _) (okk_or (fun z => (nomatch z)) fun _ => okk_st ix (okk_st ix (okk_ok ?_))))))) fun b hb => okk_no hb (okk_ok ⟨(), rfl, trivial⟩))
  rw [decide_eq_true rfl]
  rfl
theorem kept_ok {s : FS true} {R : Rows} {P : Ar} (h : Bd R s) (hw : Wf R) (hl : R.length ≤ 1000) (f : Fd R s.ahead s.behind) (p : Pr s.ahead P) : m_law_kept s R P = .ok true := by
  unfold m_law_kept
  have := f.len hw
  have := p.len
  exact okk_is (okk_stN (cells_kept_ok h (by omega)) (okk_yes rfl (okk_stN (arrows_ok hw hl f p) (okk_stN (law_pairs_ok (by omega)) (okk_ok rfl)))))
theorem bound_mem {R : Rows} {a b P : Ar} (f : Fd R a b) (p : Pr a P) {x : Int} : x ∈ P.map (·.1) ++ sortI (P.map (·.2)) ↔ ((agt a x).isSome || (agt b x).isSome) = true := by
  rw [List.mem_append, tails_mem p, (heads_sm f p).2, Bool.or_eq_true]
theorem bound_dec {R : Rows} {a b P : Ar} (f : Fd R a b) (p : Pr a P) (x : Int) : decide (x ∈ P.map (·.1) ++ sortI (P.map (·.2))) = ((agt a x).isSome || (agt b x).isSome) := by
  cases c : ((agt a x).isSome || (agt b x).isSome) with
  | true => exact decide_eq_true ((bound_mem f p).mpr c)
  | false => exact decide_eq_false fun z => by rw [(bound_mem f p).mp z] at c; cases c
theorem lone_comp {s : FS true} {row : List Int} {ω : Type} {B : Int → Unit → Res ω (Option Int × Unit)} (hB : ∀ z, B z () = Res.bind (Res.noex (m_Field_in_arrow s z)) fun y => if (!y) = true then .ok (some z, ()) else .ok (none, ())) : compG B row () = .ok (loneF s.ahead s.behind row, ()) := by
  rw [comp_eq (g := fun z => if (!((agt s.ahead z).isSome || (agt s.behind z).isSome)) = true then some z else none) _ fun x hx => ?_, filterMap_if]
  · rfl
  · rw [hB, in_arrow_ok]
    exact if_res
theorem law_parted_ok {r k : List Int} : m_law_parted r k = .ok (r.filter fun x => decide (x ∈ k)) := by
  unfold m_law_parted
  refine okk_is (okk_ok ?_)
  show List.map (fun z => z) (List.filter _ _) = _
  rw [map_id_fun]
theorem filter_all {r k : List Int} (h : ∀ x ∈ r, x ∈ k) : (r.filter fun x => decide (x ∈ k)) = r := List.filter_eq_self.mpr fun x hx => decide_eq_true (h x hx)
theorem cut_from {l p q : List Int} {x : Int} (h : l = p ++ x :: q) : cutL l (some ((p.length : Int) + 1)) none = q := by
  subst h
  unfold cutL
  have e1 : HT.sIx (p ++ x :: q).length 0 (some ((p.length : Int) + 1)) = p.length + 1 := by
    unfold HT.sIx
    simp
    omega
  have e2 : HT.sIx (p ++ x :: q).length (p ++ x :: q).length none = (p ++ x :: q).length := rfl
  rw [e1, e2, List.length_append, List.length_cons, show p.length + (q.length + 1) - (p.length + 1) = q.length by omega]
  have : (p ++ x :: q).drop (p.length + 1) = q := by
    rw [show p ++ x :: q = (p ++ [x]) ++ q by simp, show p.length + 1 = (p ++ [x]).length by simp, List.drop_left]
  rw [this, List.take_length]
theorem Pr.drop {a P : Ar} (p : Pr a P) (t : Int) : Pr (adrop a t) (adrop P t) := ⟨p.perm.filter _, p.sm.sublist ((List.filter_sublist).map _)⟩
end SB

namespace SB
open PySem PySem.Spec PyProof.Rows L2 Res
/-- arrows of which nothing is known but that they are faces -/
structure Fa (R : Rows) (a : Ar) : Prop where
  ka : (a.map (·.1)).Nodup
  face : ∀ t h, agt a t = some h → t ∈ edgeAt R h
theorem Fa.len {R : Rows} {a : Ar} (f : Fa R a) (hw : Wf R) : a.length ≤ R.length := by
  have := nodup_len f.ka (R := R) fun x hx => by
    obtain ⟨y, e⟩ := Option.isSome_iff_exists.mp (agt_some.mpr hx)
    exact (edge_here hw (f.face x y e)).1
  rw [List.length_map] at this
  exact this
theorem next_ok {R : Rows} {a P : Ar} (hw : Wf R) (f : Fa R a) (p : Pr a P) (t : Int) : m_law_next R P t = .ok (stepsF R a t) := by
  unfold m_law_next
  refine okk_is (okk_stN law_head_ok ?_)
  rw [p.at f.ka]
  cases e : agt a t with
  | none =>
    refine okk_yes rfl (okk_ok ?_)
    unfold stepsF
    rw [e]
  | some h =>
    have hr := (edge_here hw (f.face t h e)).2.1
    have hb := here_lt (here_mem.mpr hr)
    refine okk_no (decide_eq_false (by show ¬ h < 0; omega)) (okk_stN law_tails_ok (okk_st (ix_row hb.1 hb.2) (okk_st (get_eq (row_get hr)) (okk_st (a := (stepsF R a t, ())) ?_ (okk_ok rfl)))))
    rw [comp_eq (g := fun z => if (!decide (z = t) && (agt a z).isSome) = true then some z else none) _ fun x hx => ?_, filterMap_if, steps_at e]
    · rfl
    have e2 : decide (x ∈ P.map (·.1)) = (agt a x).isSome := by
      cases c : (agt a x).isSome with
      | true => exact decide_eq_true ((tails_mem p).mpr c)
      | false => exact decide_eq_false fun z => by rw [(tails_mem p).mp z] at c; cases c
    rw [e2]
    cases e1 : (!decide (x = t)) with
    | false => rfl
    | true =>
      cases e2 : (agt a x).isSome with
      | false => rfl
      | true => rfl
def leftF (R : Rows) (a : Ar) (T : List Int) : Nat → List Int
  | 0 => T
  | k + 1 => (leftF R a T k).filter fun x => !decide ((stepsF R a x).filter (fun y => decide (y ∈ leftF R a T k)) = [])
theorem left_mem {R : Rows} {a : Ar} {T : List Int} {k : Nat} {x : Int} : x ∈ leftF R a T (k + 1) ↔ x ∈ leftF R a T k ∧ ∃ y ∈ stepsF R a x, y ∈ leftF R a T k := by
  show x ∈ List.filter _ _ ↔ _
  rw [List.mem_filter]
  refine and_congr_right fun _ => ⟨fun h => ?_, fun ⟨y, h1, h2⟩ => ?_⟩
  · have hne : (stepsF R a x).filter (fun y => decide (y ∈ leftF R a T k)) ≠ [] := fun z => by
      rw [decide_eq_true z] at h
      cases h
    obtain ⟨y, hy⟩ := List.exists_mem_of_ne_nil _ hne
    exact ⟨y, (List.mem_filter.mp hy).1, of_decide_eq_true (List.mem_filter.mp hy).2⟩
  · rw [decide_eq_false fun z => by
      have : y ∈ (stepsF R a x).filter (fun y => decide (y ∈ leftF R a T k)) := List.mem_filter.mpr ⟨h1, decide_eq_true h2⟩
      rw [z] at this
      cases this]
    rfl
def fstN : Nat → (Nat → Bool) → Nat
  | 0, _ => 0
  | n + 1, p => if p 0 = true then 1 + fstN n (fun k => p (k + 1)) else 0
theorem fst_lt : ∀ (n : Nat) (p q : Nat → Bool), q 0 = true → (∀ k, p k = true → q (k + 1) = true) → (∀ k, n ≤ k → q k = false) → fstN n p < fstN n q
  | 0, p, q, h0, _, h2 => by
    rw [h2 0 (Nat.le_refl _)] at h0
    cases h0
  | n + 1, p, q, h0, h1, h2 => by
    unfold fstN
    rw [if_pos h0]
    by_cases c : p 0 = true
    · rw [if_pos c]
      have := fst_lt n (fun k => p (k + 1)) (fun k => q (k + 1)) (h1 0 c) (fun k hk => h1 (k + 1) hk) fun k hk => h2 (k + 1) (by omega)
      omega
    · rw [if_neg c]
      omega
theorem left_down {R : Rows} {a : Ar} {T : List Int} {k m : Nat} {x : Int} (h : x ∈ leftF R a T (k + m)) : x ∈ leftF R a T k := by
  induction m with
  | zero => exact h
  | succ m ih => exact ih (left_mem.mp h).1
/-- nothing is left where there is no ring, and there alone -/
theorem left_iff {R : Rows} {a : Ar} {T : List Int} (ka : (a.map (·.1)).Nodup) (hT : ∀ x, x ∈ T ↔ (agt a x).isSome = true) : leftF R a T a.length = [] ↔ ∃ rk, Rk R a rk := by
  constructor
  · intro h
    have hz : ∀ k, a.length ≤ k → ∀ x, x ∉ leftF R a T k := fun k hk x hx => by
      obtain ⟨m, rfl⟩ : ∃ m, k = a.length + m := ⟨k - a.length, by omega⟩
      have := left_down hx
      rw [h] at this
      cases this
    refine ⟨fun x => fstN a.length fun k => decide (x ∈ leftF R a T k), fun t y hy => ?_⟩
    obtain ⟨_, et, _, _, hyt⟩ := steps_mem.mp hy
    have ht : t ∈ T := (hT t).mpr (by rw [et]; rfl)
    have key : ∀ k, y ∈ leftF R a T k → t ∈ leftF R a T (k + 1) := by
      intro k
      induction k with
      | zero => exact fun hk => left_mem.mpr ⟨ht, y, hy, hk⟩
      | succ k ih => exact fun hk => left_mem.mpr ⟨ih (left_mem.mp hk).1, y, hy, hk⟩
    exact fst_lt _ _ _ (decide_eq_true ht) (fun k hk => decide_eq_true (key k (of_decide_eq_true hk))) fun k hk => decide_eq_false (hz k hk t)
  · intro hr
    obtain ⟨rk, hr⟩ := hr
    have hr' : Rk R a fun x => ((a.map (·.1)).filter fun u => decide (rk u < rk x)).length := fun t x hx => by
      have hlt := hr t x hx
      obtain ⟨_, _, _, _, hk⟩ := steps_mem.mp hx
      exact filter_lt (fun u hu => decide_eq_true (Nat.lt_trans (of_decide_eq_true hu) hlt)) ⟨x, agt_some.mp hk, decide_eq_true hlt, decide_eq_false (Nat.lt_irrefl _)⟩
    have hb : ∀ x, (agt a x).isSome = true → ((a.map (·.1)).filter fun u => decide (rk u < rk x)).length < a.length := fun x hx => by
      have := filter_lt (p := fun u => decide (rk u < rk x)) (q := fun _ => true) (l := a.map (·.1)) (fun _ _ => rfl) ⟨x, agt_some.mp hx, rfl, decide_eq_false (Nat.lt_irrefl _)⟩
      rw [List.filter_eq_self.mpr fun _ _ => rfl, List.length_map] at this
      exact this
    have key : ∀ k x, x ∈ leftF R a T k → k ≤ ((a.map (·.1)).filter fun u => decide (rk u < rk x)).length := by
      intro k
      induction k with
      | zero => exact fun x _ => Nat.zero_le _
      | succ k ih =>
        intro x hx
        obtain ⟨_, y, hy, hyk⟩ := left_mem.mp hx
        have h1 := ih y hyk
        have h2 := hr' x y hy
        have h2 : ((a.map (·.1)).filter fun u => decide (rk u < rk y)).length < ((a.map (·.1)).filter fun u => decide (rk u < rk x)).length := h2
        omega
    refine List.eq_nil_iff_forall_not_mem.mpr fun x hx => ?_
    have h1 := key _ x hx
    have h2 := hb x ((hT x).mp (left_down (k := 0) (by rw [Nat.zero_add]; exact hx)))
    omega
theorem ringed_ok {R : Rows} {a P : Ar} (hw : Wf R) (hl : R.length ≤ 1000) (f : Fa R a) (p : Pr a P) : Okk (m_law_ringed R P) (fun y => y = false ↔ ∃ rk, Rk R a rk) := by
  have hal := f.len hw
  have hpl := p.len
  have hTs := p.sm
  unfold m_law_ringed
  refine okk_stN law_tails_ok ?_
  have hTm : ∀ x, x ∈ P.map (·.1) ↔ (agt a x).isSome = true := fun x => tails_mem p
  have hTl : (P.map (·.1)).length = a.length := by rw [List.length_map, hpl]
  generalize P.map (·.1) = T at hTs hTm hTl
  refine okk_bind (P := fun g => ∃ d : List (Int × List Int), g = Fl.next d ∧ ∀ x ∈ T, agt d x = some (stepsF R a x)) (okk_loop (fun q (d : List (Int × List Int)) => d.map (·.1) = q ∧ ∀ x ∈ q, agt d x = some (stepsF R a x)) ⟨rfl, fun _ z => (nomatch z)⟩ (fun q x r d hq hI => ?_) fun d hI => ⟨d, rfl, hI.2⟩) fun g hg => ?_
  · have hx : agt d x = none := agt_none.mpr fun z => by
      rw [hI.1] at z
      rw [hq] at hTs
      have := (List.pairwise_append.mp hTs).2.2 x z x List.mem_cons_self
      omega
    have hlen := congrArg List.length hq
    rw [List.length_append, List.length_cons] at hlen
    have hcl : d.length = q.length := by rw [← hI.1, List.length_map]
    refine okk_stN (next_ok hw f p x) (okk_st (aput_eq (by omega)) (okk_ok ⟨_, rfl, ?_, fun y hy => ?_⟩))
    · rw [aput_new hx, List.map_append, hI.1]
      rfl
    · rw [agt_aput]
      by_cases e : x = y
      · rw [if_pos e, e]
      · rw [if_neg e]
        rcases List.mem_append.mp hy with z | z
        · exact hI.2 y z
        · exact absurd (List.mem_singleton.mp z).symm e
  · obtain ⟨d, rfl, hd⟩ := hg
    show Okk (m_law_ringed_s1 P T d) _
    unfold m_law_ringed_s1
    rw [rg_eq (by omega)]
    refine okk_bind (P := fun g => g = Fl.next (leftF R a T a.length)) (okk_loop (fun q (l : List Int) => l = leftF R a T q.length) rfl (fun q x r l hq hI => ?_) fun l hI => ?_) fun g hg => ?_
    · refine okk_st (a := (leftF R a T (q.length + 1), ())) ?_ (okk_ok ⟨_, rfl, by rw [List.length_append]; rfl⟩)
      rw [hI, comp_eq (g := fun z => if (!decide ((stepsF R a z).filter (fun y => decide (y ∈ leftF R a T q.length)) = [])) = true then some z else none) _ fun z hz => ?_, filterMap_if]
      · rfl
      · exact st_st (ag_eq (hd z (left_down (k := 0) (by rw [Nat.zero_add]; exact hz)))) (st_N law_parted_ok if_res)
    · rw [hI, range_len, hpl, show ((a.length : Int) - 0).toNat = a.length by omega]
    · rw [hg]
      refine okk_ok ?_
      rw [← left_iff f.ka hTm]
      constructor
      · intro z
        by_cases c : leftF R a T a.length = []
        · exact c
        · rw [decide_eq_false c] at z
          cases z
      · intro z
        rw [decide_eq_true z]
        rfl
/-- one arrow more among the law's own -/
theorem pr_more {a P : Ar} {q : Int × Int} (p : Pr a P) (h : ((a ++ [q]).map (·.1)).Nodup) : Pr (a ++ [q]) (sortP (P ++ [q])) := by
  have hp : (P ++ [q]).Perm (a ++ [q]) := p.perm.append_right _
  have := pr_sort ((hp.map _).nodup_iff.mpr h)
  exact ⟨this.perm.trans hp, this.sm⟩
theorem fa_more {R : Rows} {a b : Ar} {low high : Int} (f : Fd R a b) (hn : agt a low = none) (hf : low ∈ edgeAt R high) : Fa R (a ++ [(low, high)]) := by
  refine ⟨?_, fun t h e => ?_⟩
  · rw [List.map_append, List.nodup_append]
    refine ⟨f.ka, List.pairwise_singleton _ _, fun x hx y hy e => ?_⟩
    rw [List.map_singleton, List.mem_singleton] at hy
    subst hy
    subst e
    exact agt_none.mp hn hx
  · rw [agt_snoc hn] at e
    by_cases c : low = t
    · rw [if_pos c] at e
      cases e
      rw [← c]
      exact hf
    · rw [if_neg c] at e
      exact f.face t h e
end SB

-- chunk CSums
-- chunk CBody
-- chunk CPut
-- chunk CRows
-- chunk CGen
-- chunk CGen2
-- chunk CFill
-- chunk CWhile
-- chunk CField
-- chunk CFillV
-- chunk CRef
-- chunk CTie
-- chunk COrd
-- chunk CLaw
-- chunk CRing
namespace SB
open PySem PySem.Spec PyProof.Rows L2 Res
theorem filter_bound {R : Rows} {a b P : Ar} (f : Fd R a b) (p : Pr a P) (r : List Int) : ((r.filter fun z => !decide (z ∈ P.map (·.1) ++ sortI (P.map (·.2)))).map fun z => z) = loneF a b r := by
  rw [map_id_fun]
  unfold loneF
  exact List.filter_congr fun x _ => by rw [bound_dec f p]
def lowsF (R : Rows) (a b : Ar) (x : Int) : List Int := (edgeAt R x).filter fun y => decide (y ∈ loneF a b (hereF R))
theorem tied_or_ring_ok {s : FS true} {R : Rows} (h : Bd R s) (hw : Wf R) (hl : R.length ≤ 1000) (f : Fd R s.ahead s.behind) {low high : Int} (hf : low ∈ edgeAt R high) (a1 : agt s.ahead low = none) (a2 : agt s.behind low = none) (b1 : agt s.ahead high = none) (b2 : agt s.behind high = none) :
    Okk (m_law_tied_or_ring s low high) (fun y => (y.1 = ("ring" : Str) ∧ y.2 = s ∧ ¬ ∃ rk, Rk R (s.ahead ++ [(low, high)]) rk) ∨ (y.1 = ("tied" : Str) ∧ Bd R y.2 ∧ Fd R y.2.ahead y.2.behind ∧ y.2.ahead = s.ahead ++ [(low, high)])) := by
  unfold m_law_tied_or_ring
  rcases tie_cases h hw hl f hf with ⟨hb, e⟩ | ⟨_, _, _, _, hr, l, e⟩ | ⟨_, _, _, _, s', e, g1, g2, g3⟩
  · rw [a1, a2, b1, b2] at hb
    cases hb
  · exact okk_tryX (e := .ring l) (w := (("ring" : Str), s)) (ex_L e) (okk_st (a := (("ring" : Str), s)) rfl (okk_ok (.inl ⟨rfl, rfl, hr⟩)))
  · exact okk_try (s := (("tied" : Str), s')) (ok_L e rfl) (okk_ok (.inr ⟨rfl, g1, g2, g3⟩))
theorem str1 : ("ring" : Str) ≠ ("tied" : Str) := by decide
theorem law_true (ns : List Int) : m_law ns = .ok true := by
  unfold m_law
  refine okk_is (okk_bind (okk_noex (law_bag_ok ns)) fun b hb => okk_bind (okk_noex (law_rows_ok hb (by decide))) fun y hy => ?_)
  obtain ⟨R, b⟩ := y
  obtain ⟨hw, hl, hi⟩ := hy
  have hw : Wf R := hw
  have hl : (R.length : Int) ≤ 15 + 12 := hl
  have hi : 0 ≤ b.i := hi
  have hL : R.length ≤ 1000 := by omega
  refine okk_bind (okk_noex (law_fill_ok (t := true) hw (by omega) bd_empty rfl rfl)) fun z hz => ?_
  show Okk (m_law_s1 b R z.2 []) _
  unfold m_law_s1
  have hhl : (hereF R).length ≤ R.length := sub_len (here_sm R) fun x hx => here_mem.mp hx
  refine okk_bind (pull_okk hi (by decide) (by decide)) fun q hq => ?_
  rw [rg_eq (by have := hq.1; have := hq.2.1; omega)]
  refine okk_bind (P := fun g => ∃ st : Ar × Bag × FS true, g = Fl.next st ∧ Bd R st.2.2 ∧ Fd R st.2.2.ahead st.2.2.behind ∧ Pr st.2.2.ahead st.1) (okk_each (fun st : Ar × Bag × FS true => 0 ≤ st.2.1.i ∧ Bd R st.2.2 ∧ Fd R st.2.2.ahead st.2.2.behind ∧ Pr st.2.2.ahead st.1) ⟨hq.2.2, hz.1, by rw [hz.2.1, hz.2.2]; exact fd_nil, by rw [hz.2.1]; exact ⟨List.Perm.refl _, .nil⟩⟩ (fun x st hx hs => ?_) fun st hs => ⟨st, rfl, hs.2⟩) fun g hg => ?_
  · obtain ⟨P, b, s⟩ := st
    obtain ⟨hi, h, f, p⟩ := hs
    have hi : 0 ≤ b.i := hi
    have h : Bd R s := h
    have f : Fd R s.ahead s.behind := f
    have p : Pr s.ahead P := p
    dsimp only
    have hal := f.len hw
    have hpl := p.len
    have hlone : (loneF s.ahead s.behind (hereF R)).length ≤ R.length := Nat.le_trans (List.length_filter_le _ _) hhl
    refine okk_stN law_tails_ok (okk_stN law_heads_ok (okk_st (cat_eq ?_) (okk_stN (law_here_ok (by omega)) (okk_st (a := loneF s.ahead s.behind (hereF R)) (by rw [filter_bound f p]) (okk_st (a := ((loneF s.ahead s.behind (hereF R)).filter fun x => !decide (lowsF R s.ahead s.behind x = []), ())) ?_ ?_)))))
    · rw [(sortI_perm _).length_eq, List.length_map, List.length_map]
      omega
    · rw [comp_eq (g := fun x => if (!decide (lowsF R s.ahead s.behind x = [])) = true then some x else none) _ fun x hx => ?_, filterMap_if]
      have hxh := (lone_mem.mp hx).1
      have hb := here_lt hxh
      refine st_st (ix_row hb.1 hb.2) (st_st (get_eq (row_get (here_mem.mp hxh))) (st_N law_parted_ok ?_))
      exact if_res
    dsimp only
    have hhs : ((loneF s.ahead s.behind (hereF R)).filter fun x => !decide (lowsF R s.ahead s.behind x = [])).length ≤ R.length := Nat.le_trans (List.length_filter_le _ _) hlone
    refine okk_bind (P := fun y => (y.1 = true → P ≠ []) ∧ 0 ≤ y.2.i) (okk_andS (fun hc => okk_bind (pull_okk hi (by decide) (by decide)) fun y hy => okk_ok ⟨fun _ z => ?_, hy.2.2⟩) fun _ => ⟨fun z => (nomatch z), hi⟩) fun y hy => okk_if (fun hc => ?_) fun _ => okk_if (fun hc => ?_) fun _ => ?_
    · rw [decide_eq_true z] at hc
      cases hc
    · have hp : 0 < P.length := List.length_pos_iff.mpr (hy.1 hc)
      refine okk_bind (pull_okk hy.2 (by omega) (by omega)) fun z hz => ?_
      have hg := List.getElem?_eq_getElem (l := P) (i := z.1.toNat) (by have := hz.1; have := hz.2.1; omega)
      generalize P[z.1.toNat] = q at hg
      have e : agt s.ahead q.1 = some q.2 := (agt_iff f.ka).mpr (p.perm.mem_iff.mp (List.mem_of_getElem? hg))
      refine okk_st (pop_eq hz.1 (by have := hz.2.1; omega) hg) (okk_bind (okk_noex (untie_ok h hw f e)) fun u hu => okk_no (by rw [decide_eq_true hu.1]; rfl) (okk_ok ⟨_, rfl, hz.2.2, hu.2.1, hu.2.2.1, ?_⟩))
      show Pr u.2.ahead (P.eraseIdx z.1.toNat)
      rw [hu.2.2.2, erase_drop ((p.perm.map _).nodup_iff.mpr f.ka) hg]
      exact p.drop q.1
    · have hne : ((loneF s.ahead s.behind (hereF R)).filter fun x => !decide (lowsF R s.ahead s.behind x = [])) ≠ [] := fun z => by
        rw [decide_eq_true z] at hc
        cases hc
      have hp := List.length_pos_iff.mpr hne
      refine okk_bind (pull_okk hy.2 (by omega) (by omega)) fun z hz => okk_bind (P := fun w => w ∈ (loneF s.ahead s.behind (hereF R)).filter fun x => !decide (lowsF R s.ahead s.behind x = [])) (okk_mem hz.1 hz.2.1 fun w hw' => hw') fun w hw' => ?_
      obtain ⟨w1, w2⟩ := List.mem_filter.mp hw'
      obtain ⟨w3, w4, w5⟩ := lone_mem.mp w1
      have w6 : lowsF R s.ahead s.behind w ≠ [] := fun z => by
        rw [decide_eq_true z] at w2
        cases w2
      have wb := here_lt w3
      have wp := List.length_pos_iff.mpr w6
      have wl : (lowsF R s.ahead s.behind w).length ≤ R.length := Nat.le_trans (List.length_filter_le _ _) (edgeAt_len hw w)
      refine okk_st (ix_row wb.1 wb.2) (okk_st (get_eq (row_get (here_mem.mp w3))) (okk_stN (a := lowsF R s.ahead s.behind w) law_parted_ok (okk_bind (pull_okk hz.2.2 (by omega) (by omega)) fun v hv => okk_bind (P := fun u => u ∈ lowsF R s.ahead s.behind w) (okk_mem hv.1 hv.2.1 fun u hu => hu) fun u hu => ?_)))
      obtain ⟨u1, u2⟩ := List.mem_filter.mp hu
      obtain ⟨u3, u4, u5⟩ := lone_mem.mp (of_decide_eq_true u2)
      have fa := fa_more f u4 u1
      have pm := pr_more (q := (u, w)) p fa.ka
      refine okk_st (cat_eq (by show P.length + 1 ≤ _; omega)) (okk_st (a := sortP (P ++ [(u, w)])) rfl (okk_bind (okk_noex (ringed_ok hw hL fa pm)) fun rg hrg => ?_))
      obtain ⟨k, ek, hk⟩ := tied_or_ring_ok h hw hL f u1 u4 u5 w4 w5
      rcases hk with ⟨k1, k2, k3⟩ | ⟨k1, k2, k3, k4⟩
      · have hr : rg = true := by
          cases rg with
          | true => rfl
          | false => exact absurd (hrg.mp rfl) k3
        refine okk_st (a := ("ring" : Str)) (ite_y hr rfl) (okk_stN ek (okk_no (by rw [decide_eq_true k1]; rfl) (okk_no (decide_eq_false str1) (okk_ok ⟨_, rfl, hv.2.2, ?_, ?_, ?_⟩))))
        · show Bd R k.2
          rw [k2]
          exact h
        · show Fd R k.2.ahead k.2.behind
          rw [k2]
          exact f
        · show Pr k.2.ahead P
          rw [k2]
          exact p
      · have hr : rg = false := hrg.mpr (by
          have := k3.acy
          rw [k4] at this
          exact this)
        refine okk_st (a := ("tied" : Str)) (ite_n hr rfl) (okk_stN ek (okk_no (by rw [decide_eq_true k1]; rfl) (okk_yes (decide_eq_true rfl) (okk_ok ⟨_, rfl, hv.2.2, k2, k3, ?_⟩))))
        show Pr k.2.ahead (sortP (P ++ [(u, w)]))
        rw [k4]
        exact pm
    · exact okk_ok ⟨_, rfl, hy.2, h, f, p⟩
  · obtain ⟨⟨P, b, s⟩, rfl, h, f, p⟩ := hg
    show Okk (m_law_s2 R s P) _
    unfold m_law_s2
    exact okk_stN (kept_ok h hw hL f p) (okk_ok rfl)
end SB

namespace SB
open PySem PySem.Spec PyProof.Rows L2 Res
theorem all_mk {l : PySem.W.OpenLaw} {w : World} {K : PySem.W.Frag} {h : Heap} {mg : Str → Option Value} {fa f_law_bag f_law_pull f_law_stock f_law_rank f_law_join f_law_here f_law_some f_law_edge f_law_edge_by f_law_rows f_is_sum f_checked f_Body_known f_Body_asked f_Body_ranked f_joined f_Body_edge_of f_Body_put f_Field_in_arrow f_Field_loose f_Body_cells f_Body_over f_Body_drop f_Body_take f_law_fill f_law_tails f_law_heads f_law_parted f_Field_untie f_law_head f_law_next f_law_ringed f_led f_Field_steps f_Field_ring_with f_Field_tie f_law_tied_or_ring f_law_whole f_law_row f_law_same f_Body_coming f_Body_stands f_law_truth f_Body_rank f_Body_border f_law_cells_kept f_Field_tails f_Field_arrows f_law_pairs f_law_kept f_law f_Field_init f_Body_init f_RingOfArrows_init C_Body C_Field C_RingOfArrows C_NotASum C_NoCell C_OtherRank C_BadRank C_Full C_OpenBorder C_Tied C_Covered C_NotTied C_NotFace : Addr} (X : K.In h) (G : h.Ns mainGlobals mg) (hfa : mg "law" = some (.ref fa))
    {od_law_bag an_law_bag : Option Addr} {sl_law_bag : Array (Option Value)} {oc_law_bag kV_law_bag dc_law_bag pm_law_bag cd_law_bag ct_law_bag : Value} {od_law_pull an_law_pull : Option Addr} {sl_law_pull : Array (Option Value)} {oc_law_pull kV_law_pull dc_law_pull pm_law_pull cd_law_pull ct_law_pull : Value} {od_law_stock an_law_stock : Option Addr} {sl_law_stock : Array (Option Value)} {oc_law_stock kV_law_stock dc_law_stock pm_law_stock cd_law_stock ct_law_stock : Value} {od_law_rank an_law_rank : Option Addr} {sl_law_rank : Array (Option Value)} {oc_law_rank kV_law_rank dc_law_rank pm_law_rank cd_law_rank ct_law_rank : Value} {od_law_join an_law_join : Option Addr} {sl_law_join : Array (Option Value)} {oc_law_join kV_law_join dc_law_join pm_law_join cd_law_join ct_law_join : Value} {od_law_here an_law_here : Option Addr} {sl_law_here : Array (Option Value)} {oc_law_here kV_law_here dc_law_here pm_law_here cd_law_here ct_law_here : Value} {od_law_some an_law_some : Option Addr} {sl_law_some : Array (Option Value)} {oc_law_some kV_law_some dc_law_some pm_law_some cd_law_some ct_law_some : Value} {od_law_edge an_law_edge : Option Addr} {sl_law_edge : Array (Option Value)} {oc_law_edge kV_law_edge dc_law_edge pm_law_edge cd_law_edge ct_law_edge : Value} {od_law_edge_by an_law_edge_by : Option Addr} {sl_law_edge_by : Array (Option Value)} {oc_law_edge_by kV_law_edge_by dc_law_edge_by pm_law_edge_by cd_law_edge_by ct_law_edge_by : Value} {od_law_rows an_law_rows : Option Addr} {sl_law_rows : Array (Option Value)} {oc_law_rows kV_law_rows dc_law_rows pm_law_rows cd_law_rows ct_law_rows : Value} {od_is_sum an_is_sum : Option Addr} {sl_is_sum : Array (Option Value)} {oc_is_sum kV_is_sum dc_is_sum pm_is_sum cd_is_sum ct_is_sum : Value} {od_checked an_checked : Option Addr} {sl_checked : Array (Option Value)} {oc_checked kV_checked dc_checked pm_checked cd_checked ct_checked : Value} {od_Body_known an_Body_known : Option Addr} {sl_Body_known : Array (Option Value)} {oc_Body_known kV_Body_known dc_Body_known pm_Body_known cd_Body_known ct_Body_known : Value} {od_Body_asked an_Body_asked : Option Addr} {sl_Body_asked : Array (Option Value)} {oc_Body_asked kV_Body_asked dc_Body_asked pm_Body_asked cd_Body_asked ct_Body_asked : Value} {od_Body_ranked an_Body_ranked : Option Addr} {sl_Body_ranked : Array (Option Value)} {oc_Body_ranked kV_Body_ranked dc_Body_ranked pm_Body_ranked cd_Body_ranked ct_Body_ranked : Value} {od_joined an_joined : Option Addr} {sl_joined : Array (Option Value)} {oc_joined kV_joined dc_joined pm_joined cd_joined ct_joined : Value} {od_Body_edge_of an_Body_edge_of : Option Addr} {sl_Body_edge_of : Array (Option Value)} {oc_Body_edge_of kV_Body_edge_of dc_Body_edge_of pm_Body_edge_of cd_Body_edge_of ct_Body_edge_of : Value} {od_Body_put an_Body_put : Option Addr} {sl_Body_put : Array (Option Value)} {oc_Body_put kV_Body_put dc_Body_put pm_Body_put cd_Body_put ct_Body_put : Value} {od_Field_in_arrow an_Field_in_arrow : Option Addr} {sl_Field_in_arrow : Array (Option Value)} {oc_Field_in_arrow kV_Field_in_arrow dc_Field_in_arrow pm_Field_in_arrow cd_Field_in_arrow ct_Field_in_arrow : Value} {od_Field_loose an_Field_loose : Option Addr} {sl_Field_loose : Array (Option Value)} {oc_Field_loose kV_Field_loose dc_Field_loose pm_Field_loose cd_Field_loose ct_Field_loose : Value} {od_Body_cells an_Body_cells : Option Addr} {sl_Body_cells : Array (Option Value)} {oc_Body_cells kV_Body_cells dc_Body_cells pm_Body_cells cd_Body_cells ct_Body_cells : Value} {od_Body_over an_Body_over : Option Addr} {sl_Body_over : Array (Option Value)} {oc_Body_over kV_Body_over dc_Body_over pm_Body_over cd_Body_over ct_Body_over : Value} {od_Body_drop an_Body_drop : Option Addr} {sl_Body_drop : Array (Option Value)} {oc_Body_drop kV_Body_drop dc_Body_drop pm_Body_drop cd_Body_drop ct_Body_drop : Value} {od_Body_take an_Body_take : Option Addr} {sl_Body_take : Array (Option Value)} {oc_Body_take kV_Body_take dc_Body_take pm_Body_take cd_Body_take ct_Body_take : Value} {od_law_fill an_law_fill : Option Addr} {sl_law_fill : Array (Option Value)} {oc_law_fill kV_law_fill dc_law_fill pm_law_fill cd_law_fill ct_law_fill : Value} {od_law_tails an_law_tails : Option Addr} {sl_law_tails : Array (Option Value)} {oc_law_tails kV_law_tails dc_law_tails pm_law_tails cd_law_tails ct_law_tails : Value} {od_law_heads an_law_heads : Option Addr} {sl_law_heads : Array (Option Value)} {oc_law_heads kV_law_heads dc_law_heads pm_law_heads cd_law_heads ct_law_heads : Value} {od_law_parted an_law_parted : Option Addr} {sl_law_parted : Array (Option Value)} {oc_law_parted kV_law_parted dc_law_parted pm_law_parted cd_law_parted ct_law_parted : Value} {od_Field_untie an_Field_untie : Option Addr} {sl_Field_untie : Array (Option Value)} {oc_Field_untie kV_Field_untie dc_Field_untie pm_Field_untie cd_Field_untie ct_Field_untie : Value} {od_law_head an_law_head : Option Addr} {sl_law_head : Array (Option Value)} {oc_law_head kV_law_head dc_law_head pm_law_head cd_law_head ct_law_head : Value} {od_law_next an_law_next : Option Addr} {sl_law_next : Array (Option Value)} {oc_law_next kV_law_next dc_law_next pm_law_next cd_law_next ct_law_next : Value} {od_law_ringed an_law_ringed : Option Addr} {sl_law_ringed : Array (Option Value)} {oc_law_ringed kV_law_ringed dc_law_ringed pm_law_ringed cd_law_ringed ct_law_ringed : Value} {od_led an_led : Option Addr} {sl_led : Array (Option Value)} {oc_led kV_led dc_led pm_led cd_led ct_led : Value} {od_Field_steps an_Field_steps : Option Addr} {sl_Field_steps : Array (Option Value)} {oc_Field_steps kV_Field_steps dc_Field_steps pm_Field_steps cd_Field_steps ct_Field_steps : Value} {od_Field_ring_with an_Field_ring_with : Option Addr} {sl_Field_ring_with : Array (Option Value)} {oc_Field_ring_with kV_Field_ring_with dc_Field_ring_with pm_Field_ring_with cd_Field_ring_with ct_Field_ring_with : Value} {od_Field_tie an_Field_tie : Option Addr} {sl_Field_tie : Array (Option Value)} {oc_Field_tie kV_Field_tie dc_Field_tie pm_Field_tie cd_Field_tie ct_Field_tie : Value} {od_law_tied_or_ring an_law_tied_or_ring : Option Addr} {sl_law_tied_or_ring : Array (Option Value)} {oc_law_tied_or_ring kV_law_tied_or_ring dc_law_tied_or_ring pm_law_tied_or_ring cd_law_tied_or_ring ct_law_tied_or_ring : Value} {od_law_whole an_law_whole : Option Addr} {sl_law_whole : Array (Option Value)} {oc_law_whole kV_law_whole dc_law_whole pm_law_whole cd_law_whole ct_law_whole : Value} {od_law_row an_law_row : Option Addr} {sl_law_row : Array (Option Value)} {oc_law_row kV_law_row dc_law_row pm_law_row cd_law_row ct_law_row : Value} {od_law_same an_law_same : Option Addr} {sl_law_same : Array (Option Value)} {oc_law_same kV_law_same dc_law_same pm_law_same cd_law_same ct_law_same : Value} {od_Body_coming an_Body_coming : Option Addr} {sl_Body_coming : Array (Option Value)} {oc_Body_coming kV_Body_coming dc_Body_coming pm_Body_coming cd_Body_coming ct_Body_coming : Value} {od_Body_stands an_Body_stands : Option Addr} {sl_Body_stands : Array (Option Value)} {oc_Body_stands kV_Body_stands dc_Body_stands pm_Body_stands cd_Body_stands ct_Body_stands : Value} {od_law_truth an_law_truth : Option Addr} {sl_law_truth : Array (Option Value)} {oc_law_truth kV_law_truth dc_law_truth pm_law_truth cd_law_truth ct_law_truth : Value} {od_Body_rank an_Body_rank : Option Addr} {sl_Body_rank : Array (Option Value)} {oc_Body_rank kV_Body_rank dc_Body_rank pm_Body_rank cd_Body_rank ct_Body_rank : Value} {od_Body_border an_Body_border : Option Addr} {sl_Body_border : Array (Option Value)} {oc_Body_border kV_Body_border dc_Body_border pm_Body_border cd_Body_border ct_Body_border : Value} {od_law_cells_kept an_law_cells_kept : Option Addr} {sl_law_cells_kept : Array (Option Value)} {oc_law_cells_kept kV_law_cells_kept dc_law_cells_kept pm_law_cells_kept cd_law_cells_kept ct_law_cells_kept : Value} {od_Field_tails an_Field_tails : Option Addr} {sl_Field_tails : Array (Option Value)} {oc_Field_tails kV_Field_tails dc_Field_tails pm_Field_tails cd_Field_tails ct_Field_tails : Value} {od_Field_arrows an_Field_arrows : Option Addr} {sl_Field_arrows : Array (Option Value)} {oc_Field_arrows kV_Field_arrows dc_Field_arrows pm_Field_arrows cd_Field_arrows ct_Field_arrows : Value} {od_law_pairs an_law_pairs : Option Addr} {sl_law_pairs : Array (Option Value)} {oc_law_pairs kV_law_pairs dc_law_pairs pm_law_pairs cd_law_pairs ct_law_pairs : Value} {od_law_kept an_law_kept : Option Addr} {sl_law_kept : Array (Option Value)} {oc_law_kept kV_law_kept dc_law_kept pm_law_kept cd_law_kept ct_law_kept : Value} {od_law an_law : Option Addr} {sl_law : Array (Option Value)} {oc_law kV_law dc_law pm_law cd_law ct_law : Value} {od_Field_init an_Field_init : Option Addr} {sl_Field_init : Array (Option Value)} {oc_Field_init kV_Field_init dc_Field_init pm_Field_init cd_Field_init ct_Field_init : Value} {od_Body_init an_Body_init : Option Addr} {sl_Body_init : Array (Option Value)} {oc_Body_init kV_Body_init dc_Body_init pm_Body_init cd_Body_init ct_Body_init : Value} {od_RingOfArrows_init an_RingOfArrows_init : Option Addr} {sl_RingOfArrows_init : Array (Option Value)} {oc_RingOfArrows_init kV_RingOfArrows_init dc_RingOfArrows_init pm_RingOfArrows_init cd_RingOfArrows_init ct_RingOfArrows_init : Value} {nm_RingOfArrows qn_RingOfArrows : Str} {N_RingOfArrows : Addr} {bs_RingOfArrows bm_RingOfArrows : List Value} {sn_RingOfArrows : List Str} {su_RingOfArrows : List Value} {ab_RingOfArrows : Bool} {co_RingOfArrows : Option Bool} {dd_RingOfArrows : Option Addr} {w0_RingOfArrows w1_RingOfArrows w2_RingOfArrows w3_RingOfArrows w5_RingOfArrows : Option Value} {u_HIGHEST : Value} {u_MOST : Value}
    (a_law_bag : PySem.W.nsIn K mainGlobals "_law_bag" = some (some (.ref f_law_bag)))
    (l_law_bag : K.lookup f_law_bag = some ⟨oc_law_bag, od_law_bag, .func (PySem.W.fnOf "_law_bag" "_law_bag" (defArgs s_law_bag) (defBody s_law_bag) (defScope s_law_bag) .none kV_law_bag dc_law_bag pm_law_bag an_law_bag cd_law_bag ct_law_bag), sl_law_bag⟩)
    (c_law_bag : PySem.W.codeIn K cd_law_bag "_law_bag" = true) (k_law_bag : PySem.W.keepIn K (.ref f_law_bag) = true)
    (a_law_pull : PySem.W.nsIn K mainGlobals "_law_pull" = some (some (.ref f_law_pull)))
    (l_law_pull : K.lookup f_law_pull = some ⟨oc_law_pull, od_law_pull, .func (PySem.W.fnOf "_law_pull" "_law_pull" (defArgs s_law_pull) (defBody s_law_pull) (defScope s_law_pull) .none kV_law_pull dc_law_pull pm_law_pull an_law_pull cd_law_pull ct_law_pull), sl_law_pull⟩)
    (c_law_pull : PySem.W.codeIn K cd_law_pull "_law_pull" = true) (k_law_pull : PySem.W.keepIn K (.ref f_law_pull) = true)
    (a_law_stock : PySem.W.nsIn K mainGlobals "_law_stock" = some (some (.ref f_law_stock)))
    (l_law_stock : K.lookup f_law_stock = some ⟨oc_law_stock, od_law_stock, .func (PySem.W.fnOf "_law_stock" "_law_stock" (defArgs s_law_stock) (defBody s_law_stock) (defScope s_law_stock) .none kV_law_stock dc_law_stock pm_law_stock an_law_stock cd_law_stock ct_law_stock), sl_law_stock⟩)
    (c_law_stock : PySem.W.codeIn K cd_law_stock "_law_stock" = true) (k_law_stock : PySem.W.keepIn K (.ref f_law_stock) = true)
    (a_law_rank : PySem.W.nsIn K mainGlobals "_law_rank" = some (some (.ref f_law_rank)))
    (l_law_rank : K.lookup f_law_rank = some ⟨oc_law_rank, od_law_rank, .func (PySem.W.fnOf "_law_rank" "_law_rank" (defArgs s_law_rank) (defBody s_law_rank) (defScope s_law_rank) .none kV_law_rank dc_law_rank pm_law_rank an_law_rank cd_law_rank ct_law_rank), sl_law_rank⟩)
    (c_law_rank : PySem.W.codeIn K cd_law_rank "_law_rank" = true) (k_law_rank : PySem.W.keepIn K (.ref f_law_rank) = true)
    (a_law_join : PySem.W.nsIn K mainGlobals "_law_join" = some (some (.ref f_law_join)))
    (l_law_join : K.lookup f_law_join = some ⟨oc_law_join, od_law_join, .func (PySem.W.fnOf "_law_join" "_law_join" (defArgs s_law_join) (defBody s_law_join) (defScope s_law_join) .none kV_law_join dc_law_join pm_law_join an_law_join cd_law_join ct_law_join), sl_law_join⟩)
    (c_law_join : PySem.W.codeIn K cd_law_join "_law_join" = true) (k_law_join : PySem.W.keepIn K (.ref f_law_join) = true)
    (a_law_here : PySem.W.nsIn K mainGlobals "_law_here" = some (some (.ref f_law_here)))
    (l_law_here : K.lookup f_law_here = some ⟨oc_law_here, od_law_here, .func (PySem.W.fnOf "_law_here" "_law_here" (defArgs s_law_here) (defBody s_law_here) (defScope s_law_here) .none kV_law_here dc_law_here pm_law_here an_law_here cd_law_here ct_law_here), sl_law_here⟩)
    (c_law_here : PySem.W.codeIn K cd_law_here "_law_here" = true) (k_law_here : PySem.W.keepIn K (.ref f_law_here) = true)
    (a_law_some : PySem.W.nsIn K mainGlobals "_law_some" = some (some (.ref f_law_some)))
    (l_law_some : K.lookup f_law_some = some ⟨oc_law_some, od_law_some, .func (PySem.W.fnOf "_law_some" "_law_some" (defArgs s_law_some) (defBody s_law_some) (defScope s_law_some) .none kV_law_some dc_law_some pm_law_some an_law_some cd_law_some ct_law_some), sl_law_some⟩)
    (c_law_some : PySem.W.codeIn K cd_law_some "_law_some" = true) (k_law_some : PySem.W.keepIn K (.ref f_law_some) = true)
    (a_law_edge : PySem.W.nsIn K mainGlobals "_law_edge" = some (some (.ref f_law_edge)))
    (l_law_edge : K.lookup f_law_edge = some ⟨oc_law_edge, od_law_edge, .func (PySem.W.fnOf "_law_edge" "_law_edge" (defArgs s_law_edge) (defBody s_law_edge) (defScope s_law_edge) .none kV_law_edge dc_law_edge pm_law_edge an_law_edge cd_law_edge ct_law_edge), sl_law_edge⟩)
    (c_law_edge : PySem.W.codeIn K cd_law_edge "_law_edge" = true) (k_law_edge : PySem.W.keepIn K (.ref f_law_edge) = true)
    (a_law_edge_by : PySem.W.nsIn K mainGlobals "_law_edge_by" = some (some (.ref f_law_edge_by)))
    (l_law_edge_by : K.lookup f_law_edge_by = some ⟨oc_law_edge_by, od_law_edge_by, .func (PySem.W.fnOf "_law_edge_by" "_law_edge_by" (defArgs s_law_edge_by) (defBody s_law_edge_by) (defScope s_law_edge_by) .none kV_law_edge_by dc_law_edge_by pm_law_edge_by an_law_edge_by cd_law_edge_by ct_law_edge_by), sl_law_edge_by⟩)
    (c_law_edge_by : PySem.W.codeIn K cd_law_edge_by "_law_edge_by" = true) (k_law_edge_by : PySem.W.keepIn K (.ref f_law_edge_by) = true)
    (a_law_rows : PySem.W.nsIn K mainGlobals "_law_rows" = some (some (.ref f_law_rows)))
    (l_law_rows : K.lookup f_law_rows = some ⟨oc_law_rows, od_law_rows, .func (PySem.W.fnOf "_law_rows" "_law_rows" (defArgs s_law_rows) (defBody s_law_rows) (defScope s_law_rows) .none kV_law_rows dc_law_rows pm_law_rows an_law_rows cd_law_rows ct_law_rows), sl_law_rows⟩)
    (c_law_rows : PySem.W.codeIn K cd_law_rows "_law_rows" = true) (k_law_rows : PySem.W.keepIn K (.ref f_law_rows) = true)
    (a_is_sum : PySem.W.nsIn K mainGlobals "is_sum" = some (some (.ref f_is_sum)))
    (l_is_sum : K.lookup f_is_sum = some ⟨oc_is_sum, od_is_sum, .func (PySem.W.fnOf "is_sum" "is_sum" (defArgs s_is_sum) (defBody s_is_sum) (defScope s_is_sum) .none kV_is_sum dc_is_sum pm_is_sum an_is_sum cd_is_sum ct_is_sum), sl_is_sum⟩)
    (c_is_sum : PySem.W.codeIn K cd_is_sum "is_sum" = true) (k_is_sum : PySem.W.keepIn K (.ref f_is_sum) = true)
    (a_checked : PySem.W.nsIn K mainGlobals "checked" = some (some (.ref f_checked)))
    (l_checked : K.lookup f_checked = some ⟨oc_checked, od_checked, .func (PySem.W.fnOf "checked" "checked" (defArgs s_checked) (defBody s_checked) (defScope s_checked) .none kV_checked dc_checked pm_checked an_checked cd_checked ct_checked), sl_checked⟩)
    (c_checked : PySem.W.codeIn K cd_checked "checked" = true) (k_checked : PySem.W.keepIn K (.ref f_checked) = true)
    (l_Body_known : K.lookup f_Body_known = some ⟨oc_Body_known, od_Body_known, .func (PySem.W.fnOf "known" "Body.known" (defArgs s_Body_known) (defBody s_Body_known) (defScope s_Body_known) .none kV_Body_known dc_Body_known pm_Body_known an_Body_known cd_Body_known ct_Body_known), sl_Body_known⟩)
    (c_Body_known : PySem.W.codeIn K cd_Body_known "Body.known" = true) (k_Body_known : PySem.W.keepIn K (.ref f_Body_known) = true)
    (l_Body_asked : K.lookup f_Body_asked = some ⟨oc_Body_asked, od_Body_asked, .func (PySem.W.fnOf "asked" "Body.asked" (defArgs s_Body_asked) (defBody s_Body_asked) (defScope s_Body_asked) .none kV_Body_asked dc_Body_asked pm_Body_asked an_Body_asked cd_Body_asked ct_Body_asked), sl_Body_asked⟩)
    (c_Body_asked : PySem.W.codeIn K cd_Body_asked "Body.asked" = true) (k_Body_asked : PySem.W.keepIn K (.ref f_Body_asked) = true)
    (l_Body_ranked : K.lookup f_Body_ranked = some ⟨oc_Body_ranked, od_Body_ranked, .func (PySem.W.fnOf "ranked" "Body.ranked" (defArgs s_Body_ranked) (defBody s_Body_ranked) (defScope s_Body_ranked) .none kV_Body_ranked dc_Body_ranked pm_Body_ranked an_Body_ranked cd_Body_ranked ct_Body_ranked), sl_Body_ranked⟩)
    (c_Body_ranked : PySem.W.codeIn K cd_Body_ranked "Body.ranked" = true) (k_Body_ranked : PySem.W.keepIn K (.ref f_Body_ranked) = true)
    (a_joined : PySem.W.nsIn K mainGlobals "joined" = some (some (.ref f_joined)))
    (l_joined : K.lookup f_joined = some ⟨oc_joined, od_joined, .func (PySem.W.fnOf "joined" "joined" (defArgs s_joined) (defBody s_joined) (defScope s_joined) .none kV_joined dc_joined pm_joined an_joined cd_joined ct_joined), sl_joined⟩)
    (c_joined : PySem.W.codeIn K cd_joined "joined" = true) (k_joined : PySem.W.keepIn K (.ref f_joined) = true)
    (l_Body_edge_of : K.lookup f_Body_edge_of = some ⟨oc_Body_edge_of, od_Body_edge_of, .func (PySem.W.fnOf "edge_of" "Body.edge_of" (defArgs s_Body_edge_of) (defBody s_Body_edge_of) (defScope s_Body_edge_of) .none kV_Body_edge_of dc_Body_edge_of pm_Body_edge_of an_Body_edge_of cd_Body_edge_of ct_Body_edge_of), sl_Body_edge_of⟩)
    (c_Body_edge_of : PySem.W.codeIn K cd_Body_edge_of "Body.edge_of" = true) (k_Body_edge_of : PySem.W.keepIn K (.ref f_Body_edge_of) = true)
    (l_Body_put : K.lookup f_Body_put = some ⟨oc_Body_put, od_Body_put, .func (PySem.W.fnOf "put" "Body.put" (defArgs s_Body_put) (defBody s_Body_put) (defScope s_Body_put) .none kV_Body_put dc_Body_put pm_Body_put an_Body_put cd_Body_put ct_Body_put), sl_Body_put⟩)
    (c_Body_put : PySem.W.codeIn K cd_Body_put "Body.put" = true) (k_Body_put : PySem.W.keepIn K (.ref f_Body_put) = true)
    (l_Field_in_arrow : K.lookup f_Field_in_arrow = some ⟨oc_Field_in_arrow, od_Field_in_arrow, .func (PySem.W.fnOf "in_arrow" "Field.in_arrow" (defArgs s_Field_in_arrow) (defBody s_Field_in_arrow) (defScope s_Field_in_arrow) .none kV_Field_in_arrow dc_Field_in_arrow pm_Field_in_arrow an_Field_in_arrow cd_Field_in_arrow ct_Field_in_arrow), sl_Field_in_arrow⟩)
    (c_Field_in_arrow : PySem.W.codeIn K cd_Field_in_arrow "Field.in_arrow" = true) (k_Field_in_arrow : PySem.W.keepIn K (.ref f_Field_in_arrow) = true)
    (l_Field_loose : K.lookup f_Field_loose = some ⟨oc_Field_loose, od_Field_loose, .func (PySem.W.fnOf "loose" "Field.loose" (defArgs s_Field_loose) (defBody s_Field_loose) (defScope s_Field_loose) .none kV_Field_loose dc_Field_loose pm_Field_loose an_Field_loose cd_Field_loose ct_Field_loose), sl_Field_loose⟩)
    (c_Field_loose : PySem.W.codeIn K cd_Field_loose "Field.loose" = true) (k_Field_loose : PySem.W.keepIn K (.ref f_Field_loose) = true)
    (l_Body_cells : K.lookup f_Body_cells = some ⟨oc_Body_cells, od_Body_cells, .func (PySem.W.fnOf "cells" "Body.cells" (defArgs s_Body_cells) (defBody s_Body_cells) (defScope s_Body_cells) .none kV_Body_cells dc_Body_cells pm_Body_cells an_Body_cells cd_Body_cells ct_Body_cells), sl_Body_cells⟩)
    (c_Body_cells : PySem.W.codeIn K cd_Body_cells "Body.cells" = true) (k_Body_cells : PySem.W.keepIn K (.ref f_Body_cells) = true)
    (l_Body_over : K.lookup f_Body_over = some ⟨oc_Body_over, od_Body_over, .func (PySem.W.fnOf "over" "Body.over" (defArgs s_Body_over) (defBody s_Body_over) (defScope s_Body_over) .none kV_Body_over dc_Body_over pm_Body_over an_Body_over cd_Body_over ct_Body_over), sl_Body_over⟩)
    (c_Body_over : PySem.W.codeIn K cd_Body_over "Body.over" = true) (k_Body_over : PySem.W.keepIn K (.ref f_Body_over) = true)
    (l_Body_drop : K.lookup f_Body_drop = some ⟨oc_Body_drop, od_Body_drop, .func (PySem.W.fnOf "drop" "Body.drop" (defArgs s_Body_drop) (defBody s_Body_drop) (defScope s_Body_drop) .none kV_Body_drop dc_Body_drop pm_Body_drop an_Body_drop cd_Body_drop ct_Body_drop), sl_Body_drop⟩)
    (c_Body_drop : PySem.W.codeIn K cd_Body_drop "Body.drop" = true) (k_Body_drop : PySem.W.keepIn K (.ref f_Body_drop) = true)
    (l_Body_take : K.lookup f_Body_take = some ⟨oc_Body_take, od_Body_take, .func (PySem.W.fnOf "take" "Body.take" (defArgs s_Body_take) (defBody s_Body_take) (defScope s_Body_take) .none kV_Body_take dc_Body_take pm_Body_take an_Body_take cd_Body_take ct_Body_take), sl_Body_take⟩)
    (c_Body_take : PySem.W.codeIn K cd_Body_take "Body.take" = true) (k_Body_take : PySem.W.keepIn K (.ref f_Body_take) = true)
    (a_law_fill : PySem.W.nsIn K mainGlobals "_law_fill" = some (some (.ref f_law_fill)))
    (l_law_fill : K.lookup f_law_fill = some ⟨oc_law_fill, od_law_fill, .func (PySem.W.fnOf "_law_fill" "_law_fill" (defArgs s_law_fill) (defBody s_law_fill) (defScope s_law_fill) .none kV_law_fill dc_law_fill pm_law_fill an_law_fill cd_law_fill ct_law_fill), sl_law_fill⟩)
    (c_law_fill : PySem.W.codeIn K cd_law_fill "_law_fill" = true) (k_law_fill : PySem.W.keepIn K (.ref f_law_fill) = true)
    (a_law_tails : PySem.W.nsIn K mainGlobals "_law_tails" = some (some (.ref f_law_tails)))
    (l_law_tails : K.lookup f_law_tails = some ⟨oc_law_tails, od_law_tails, .func (PySem.W.fnOf "_law_tails" "_law_tails" (defArgs s_law_tails) (defBody s_law_tails) (defScope s_law_tails) .none kV_law_tails dc_law_tails pm_law_tails an_law_tails cd_law_tails ct_law_tails), sl_law_tails⟩)
    (c_law_tails : PySem.W.codeIn K cd_law_tails "_law_tails" = true) (k_law_tails : PySem.W.keepIn K (.ref f_law_tails) = true)
    (a_law_heads : PySem.W.nsIn K mainGlobals "_law_heads" = some (some (.ref f_law_heads)))
    (l_law_heads : K.lookup f_law_heads = some ⟨oc_law_heads, od_law_heads, .func (PySem.W.fnOf "_law_heads" "_law_heads" (defArgs s_law_heads) (defBody s_law_heads) (defScope s_law_heads) .none kV_law_heads dc_law_heads pm_law_heads an_law_heads cd_law_heads ct_law_heads), sl_law_heads⟩)
    (c_law_heads : PySem.W.codeIn K cd_law_heads "_law_heads" = true) (k_law_heads : PySem.W.keepIn K (.ref f_law_heads) = true)
    (a_law_parted : PySem.W.nsIn K mainGlobals "_law_parted" = some (some (.ref f_law_parted)))
    (l_law_parted : K.lookup f_law_parted = some ⟨oc_law_parted, od_law_parted, .func (PySem.W.fnOf "_law_parted" "_law_parted" (defArgs s_law_parted) (defBody s_law_parted) (defScope s_law_parted) .none kV_law_parted dc_law_parted pm_law_parted an_law_parted cd_law_parted ct_law_parted), sl_law_parted⟩)
    (c_law_parted : PySem.W.codeIn K cd_law_parted "_law_parted" = true) (k_law_parted : PySem.W.keepIn K (.ref f_law_parted) = true)
    (l_Field_untie : K.lookup f_Field_untie = some ⟨oc_Field_untie, od_Field_untie, .func (PySem.W.fnOf "untie" "Field.untie" (defArgs s_Field_untie) (defBody s_Field_untie) (defScope s_Field_untie) .none kV_Field_untie dc_Field_untie pm_Field_untie an_Field_untie cd_Field_untie ct_Field_untie), sl_Field_untie⟩)
    (c_Field_untie : PySem.W.codeIn K cd_Field_untie "Field.untie" = true) (k_Field_untie : PySem.W.keepIn K (.ref f_Field_untie) = true)
    (a_law_head : PySem.W.nsIn K mainGlobals "_law_head" = some (some (.ref f_law_head)))
    (l_law_head : K.lookup f_law_head = some ⟨oc_law_head, od_law_head, .func (PySem.W.fnOf "_law_head" "_law_head" (defArgs s_law_head) (defBody s_law_head) (defScope s_law_head) .none kV_law_head dc_law_head pm_law_head an_law_head cd_law_head ct_law_head), sl_law_head⟩)
    (c_law_head : PySem.W.codeIn K cd_law_head "_law_head" = true) (k_law_head : PySem.W.keepIn K (.ref f_law_head) = true)
    (a_law_next : PySem.W.nsIn K mainGlobals "_law_next" = some (some (.ref f_law_next)))
    (l_law_next : K.lookup f_law_next = some ⟨oc_law_next, od_law_next, .func (PySem.W.fnOf "_law_next" "_law_next" (defArgs s_law_next) (defBody s_law_next) (defScope s_law_next) .none kV_law_next dc_law_next pm_law_next an_law_next cd_law_next ct_law_next), sl_law_next⟩)
    (c_law_next : PySem.W.codeIn K cd_law_next "_law_next" = true) (k_law_next : PySem.W.keepIn K (.ref f_law_next) = true)
    (a_law_ringed : PySem.W.nsIn K mainGlobals "_law_ringed" = some (some (.ref f_law_ringed)))
    (l_law_ringed : K.lookup f_law_ringed = some ⟨oc_law_ringed, od_law_ringed, .func (PySem.W.fnOf "_law_ringed" "_law_ringed" (defArgs s_law_ringed) (defBody s_law_ringed) (defScope s_law_ringed) .none kV_law_ringed dc_law_ringed pm_law_ringed an_law_ringed cd_law_ringed ct_law_ringed), sl_law_ringed⟩)
    (c_law_ringed : PySem.W.codeIn K cd_law_ringed "_law_ringed" = true) (k_law_ringed : PySem.W.keepIn K (.ref f_law_ringed) = true)
    (a_led : PySem.W.nsIn K mainGlobals "led" = some (some (.ref f_led)))
    (l_led : K.lookup f_led = some ⟨oc_led, od_led, .func (PySem.W.fnOf "led" "led" (defArgs s_led) (defBody s_led) (defScope s_led) .none kV_led dc_led pm_led an_led cd_led ct_led), sl_led⟩)
    (c_led : PySem.W.codeIn K cd_led "led" = true) (k_led : PySem.W.keepIn K (.ref f_led) = true)
    (l_Field_steps : K.lookup f_Field_steps = some ⟨oc_Field_steps, od_Field_steps, .func (PySem.W.fnOf "steps" "Field.steps" (defArgs s_Field_steps) (defBody s_Field_steps) (defScope s_Field_steps) .none kV_Field_steps dc_Field_steps pm_Field_steps an_Field_steps cd_Field_steps ct_Field_steps), sl_Field_steps⟩)
    (c_Field_steps : PySem.W.codeIn K cd_Field_steps "Field.steps" = true) (k_Field_steps : PySem.W.keepIn K (.ref f_Field_steps) = true)
    (l_Field_ring_with : K.lookup f_Field_ring_with = some ⟨oc_Field_ring_with, od_Field_ring_with, .func (PySem.W.fnOf "ring_with" "Field.ring_with" (defArgs s_Field_ring_with) (defBody s_Field_ring_with) (defScope s_Field_ring_with) .none kV_Field_ring_with dc_Field_ring_with pm_Field_ring_with an_Field_ring_with cd_Field_ring_with ct_Field_ring_with), sl_Field_ring_with⟩)
    (c_Field_ring_with : PySem.W.codeIn K cd_Field_ring_with "Field.ring_with" = true) (k_Field_ring_with : PySem.W.keepIn K (.ref f_Field_ring_with) = true)
    (l_Field_tie : K.lookup f_Field_tie = some ⟨oc_Field_tie, od_Field_tie, .func (PySem.W.fnOf "tie" "Field.tie" (defArgs s_Field_tie) (defBody s_Field_tie) (defScope s_Field_tie) .none kV_Field_tie dc_Field_tie pm_Field_tie an_Field_tie cd_Field_tie ct_Field_tie), sl_Field_tie⟩)
    (c_Field_tie : PySem.W.codeIn K cd_Field_tie "Field.tie" = true) (k_Field_tie : PySem.W.keepIn K (.ref f_Field_tie) = true)
    (a_law_tied_or_ring : PySem.W.nsIn K mainGlobals "_law_tied_or_ring" = some (some (.ref f_law_tied_or_ring)))
    (l_law_tied_or_ring : K.lookup f_law_tied_or_ring = some ⟨oc_law_tied_or_ring, od_law_tied_or_ring, .func (PySem.W.fnOf "_law_tied_or_ring" "_law_tied_or_ring" (defArgs s_law_tied_or_ring) (defBody s_law_tied_or_ring) (defScope s_law_tied_or_ring) .none kV_law_tied_or_ring dc_law_tied_or_ring pm_law_tied_or_ring an_law_tied_or_ring cd_law_tied_or_ring ct_law_tied_or_ring), sl_law_tied_or_ring⟩)
    (c_law_tied_or_ring : PySem.W.codeIn K cd_law_tied_or_ring "_law_tied_or_ring" = true) (k_law_tied_or_ring : PySem.W.keepIn K (.ref f_law_tied_or_ring) = true)
    (a_law_whole : PySem.W.nsIn K mainGlobals "_law_whole" = some (some (.ref f_law_whole)))
    (l_law_whole : K.lookup f_law_whole = some ⟨oc_law_whole, od_law_whole, .func (PySem.W.fnOf "_law_whole" "_law_whole" (defArgs s_law_whole) (defBody s_law_whole) (defScope s_law_whole) .none kV_law_whole dc_law_whole pm_law_whole an_law_whole cd_law_whole ct_law_whole), sl_law_whole⟩)
    (c_law_whole : PySem.W.codeIn K cd_law_whole "_law_whole" = true) (k_law_whole : PySem.W.keepIn K (.ref f_law_whole) = true)
    (a_law_row : PySem.W.nsIn K mainGlobals "_law_row" = some (some (.ref f_law_row)))
    (l_law_row : K.lookup f_law_row = some ⟨oc_law_row, od_law_row, .func (PySem.W.fnOf "_law_row" "_law_row" (defArgs s_law_row) (defBody s_law_row) (defScope s_law_row) .none kV_law_row dc_law_row pm_law_row an_law_row cd_law_row ct_law_row), sl_law_row⟩)
    (c_law_row : PySem.W.codeIn K cd_law_row "_law_row" = true) (k_law_row : PySem.W.keepIn K (.ref f_law_row) = true)
    (a_law_same : PySem.W.nsIn K mainGlobals "_law_same" = some (some (.ref f_law_same)))
    (l_law_same : K.lookup f_law_same = some ⟨oc_law_same, od_law_same, .func (PySem.W.fnOf "_law_same" "_law_same" (defArgs s_law_same) (defBody s_law_same) (defScope s_law_same) .none kV_law_same dc_law_same pm_law_same an_law_same cd_law_same ct_law_same), sl_law_same⟩)
    (c_law_same : PySem.W.codeIn K cd_law_same "_law_same" = true) (k_law_same : PySem.W.keepIn K (.ref f_law_same) = true)
    (l_Body_coming : K.lookup f_Body_coming = some ⟨oc_Body_coming, od_Body_coming, .func (PySem.W.fnOf "coming" "Body.coming" (defArgs s_Body_coming) (defBody s_Body_coming) (defScope s_Body_coming) .none kV_Body_coming dc_Body_coming pm_Body_coming an_Body_coming cd_Body_coming ct_Body_coming), sl_Body_coming⟩)
    (c_Body_coming : PySem.W.codeIn K cd_Body_coming "Body.coming" = true) (k_Body_coming : PySem.W.keepIn K (.ref f_Body_coming) = true)
    (l_Body_stands : K.lookup f_Body_stands = some ⟨oc_Body_stands, od_Body_stands, .func (PySem.W.fnOf "stands" "Body.stands" (defArgs s_Body_stands) (defBody s_Body_stands) (defScope s_Body_stands) .none kV_Body_stands dc_Body_stands pm_Body_stands an_Body_stands cd_Body_stands ct_Body_stands), sl_Body_stands⟩)
    (c_Body_stands : PySem.W.codeIn K cd_Body_stands "Body.stands" = true) (k_Body_stands : PySem.W.keepIn K (.ref f_Body_stands) = true)
    (a_law_truth : PySem.W.nsIn K mainGlobals "_law_truth" = some (some (.ref f_law_truth)))
    (l_law_truth : K.lookup f_law_truth = some ⟨oc_law_truth, od_law_truth, .func (PySem.W.fnOf "_law_truth" "_law_truth" (defArgs s_law_truth) (defBody s_law_truth) (defScope s_law_truth) .none kV_law_truth dc_law_truth pm_law_truth an_law_truth cd_law_truth ct_law_truth), sl_law_truth⟩)
    (c_law_truth : PySem.W.codeIn K cd_law_truth "_law_truth" = true) (k_law_truth : PySem.W.keepIn K (.ref f_law_truth) = true)
    (l_Body_rank : K.lookup f_Body_rank = some ⟨oc_Body_rank, od_Body_rank, .func (PySem.W.fnOf "rank" "Body.rank" (defArgs s_Body_rank) (defBody s_Body_rank) (defScope s_Body_rank) .none kV_Body_rank dc_Body_rank pm_Body_rank an_Body_rank cd_Body_rank ct_Body_rank), sl_Body_rank⟩)
    (c_Body_rank : PySem.W.codeIn K cd_Body_rank "Body.rank" = true) (k_Body_rank : PySem.W.keepIn K (.ref f_Body_rank) = true)
    (l_Body_border : K.lookup f_Body_border = some ⟨oc_Body_border, od_Body_border, .func (PySem.W.fnOf "border" "Body.border" (defArgs s_Body_border) (defBody s_Body_border) (defScope s_Body_border) .none kV_Body_border dc_Body_border pm_Body_border an_Body_border cd_Body_border ct_Body_border), sl_Body_border⟩)
    (c_Body_border : PySem.W.codeIn K cd_Body_border "Body.border" = true) (k_Body_border : PySem.W.keepIn K (.ref f_Body_border) = true)
    (a_law_cells_kept : PySem.W.nsIn K mainGlobals "_law_cells_kept" = some (some (.ref f_law_cells_kept)))
    (l_law_cells_kept : K.lookup f_law_cells_kept = some ⟨oc_law_cells_kept, od_law_cells_kept, .func (PySem.W.fnOf "_law_cells_kept" "_law_cells_kept" (defArgs s_law_cells_kept) (defBody s_law_cells_kept) (defScope s_law_cells_kept) .none kV_law_cells_kept dc_law_cells_kept pm_law_cells_kept an_law_cells_kept cd_law_cells_kept ct_law_cells_kept), sl_law_cells_kept⟩)
    (c_law_cells_kept : PySem.W.codeIn K cd_law_cells_kept "_law_cells_kept" = true) (k_law_cells_kept : PySem.W.keepIn K (.ref f_law_cells_kept) = true)
    (l_Field_tails : K.lookup f_Field_tails = some ⟨oc_Field_tails, od_Field_tails, .func (PySem.W.fnOf "tails" "Field.tails" (defArgs s_Field_tails) (defBody s_Field_tails) (defScope s_Field_tails) .none kV_Field_tails dc_Field_tails pm_Field_tails an_Field_tails cd_Field_tails ct_Field_tails), sl_Field_tails⟩)
    (c_Field_tails : PySem.W.codeIn K cd_Field_tails "Field.tails" = true) (k_Field_tails : PySem.W.keepIn K (.ref f_Field_tails) = true)
    (l_Field_arrows : K.lookup f_Field_arrows = some ⟨oc_Field_arrows, od_Field_arrows, .func (PySem.W.fnOf "arrows" "Field.arrows" (defArgs s_Field_arrows) (defBody s_Field_arrows) (defScope s_Field_arrows) .none kV_Field_arrows dc_Field_arrows pm_Field_arrows an_Field_arrows cd_Field_arrows ct_Field_arrows), sl_Field_arrows⟩)
    (c_Field_arrows : PySem.W.codeIn K cd_Field_arrows "Field.arrows" = true) (k_Field_arrows : PySem.W.keepIn K (.ref f_Field_arrows) = true)
    (a_law_pairs : PySem.W.nsIn K mainGlobals "_law_pairs" = some (some (.ref f_law_pairs)))
    (l_law_pairs : K.lookup f_law_pairs = some ⟨oc_law_pairs, od_law_pairs, .func (PySem.W.fnOf "_law_pairs" "_law_pairs" (defArgs s_law_pairs) (defBody s_law_pairs) (defScope s_law_pairs) .none kV_law_pairs dc_law_pairs pm_law_pairs an_law_pairs cd_law_pairs ct_law_pairs), sl_law_pairs⟩)
    (c_law_pairs : PySem.W.codeIn K cd_law_pairs "_law_pairs" = true) (k_law_pairs : PySem.W.keepIn K (.ref f_law_pairs) = true)
    (a_law_kept : PySem.W.nsIn K mainGlobals "_law_kept" = some (some (.ref f_law_kept)))
    (l_law_kept : K.lookup f_law_kept = some ⟨oc_law_kept, od_law_kept, .func (PySem.W.fnOf "_law_kept" "_law_kept" (defArgs s_law_kept) (defBody s_law_kept) (defScope s_law_kept) .none kV_law_kept dc_law_kept pm_law_kept an_law_kept cd_law_kept ct_law_kept), sl_law_kept⟩)
    (c_law_kept : PySem.W.codeIn K cd_law_kept "_law_kept" = true) (k_law_kept : PySem.W.keepIn K (.ref f_law_kept) = true)
    (a_law : PySem.W.nsIn K mainGlobals "law" = some (some (.ref f_law)))
    (l_law : K.lookup f_law = some ⟨oc_law, od_law, .func (PySem.W.fnOf "law" "law" (defArgs s_law) (defBody s_law) (defScope s_law) .none kV_law dc_law pm_law an_law cd_law ct_law), sl_law⟩)
    (c_law : PySem.W.codeIn K cd_law "law" = true) (k_law : PySem.W.keepIn K (.ref f_law) = true)
    (l_Field_init : K.lookup f_Field_init = some ⟨oc_Field_init, od_Field_init, .func (PySem.W.fnOf "__init__" "Field.__init__" (defArgs s_Field_init) (defBody s_Field_init) (defScope s_Field_init) .none kV_Field_init dc_Field_init pm_Field_init an_Field_init cd_Field_init ct_Field_init), sl_Field_init⟩)
    (c_Field_init : PySem.W.codeIn K cd_Field_init "Field.__init__" = true) (k_Field_init : PySem.W.keepIn K (.ref f_Field_init) = true)
    (l_Body_init : K.lookup f_Body_init = some ⟨oc_Body_init, od_Body_init, .func (PySem.W.fnOf "__init__" "Body.__init__" (defArgs s_Body_init) (defBody s_Body_init) (defScope s_Body_init) .none kV_Body_init dc_Body_init pm_Body_init an_Body_init cd_Body_init ct_Body_init), sl_Body_init⟩)
    (c_Body_init : PySem.W.codeIn K cd_Body_init "Body.__init__" = true) (k_Body_init : PySem.W.keepIn K (.ref f_Body_init) = true)
    (l_RingOfArrows_init : K.lookup f_RingOfArrows_init = some ⟨oc_RingOfArrows_init, od_RingOfArrows_init, .func (PySem.W.fnOf "__init__" "RingOfArrows.__init__" (defArgs s_RingOfArrows_init) (defBody s_RingOfArrows_init) (defScope s_RingOfArrows_init) .none kV_RingOfArrows_init dc_RingOfArrows_init pm_RingOfArrows_init an_RingOfArrows_init cd_RingOfArrows_init ct_RingOfArrows_init), sl_RingOfArrows_init⟩)
    (c_RingOfArrows_init : PySem.W.codeIn K cd_RingOfArrows_init "RingOfArrows.__init__" = true) (k_RingOfArrows_init : PySem.W.keepIn K (.ref f_RingOfArrows_init) = true)
    (ca_Body : PySem.W.nsIn K mainGlobals "Body" = some (some (.ref C_Body)))
    (pg_Body : PySem.W.plainGet K C_Body Str.empty = true) (hd_Body : PySem.W.hasDictIn K C_Body = true) (po_Body : PySem.W.plainOver K C_Body = true) (sa_Body : PySem.W.findIn K (.ref C_Body) "__setattr__" = some (some (.builtin "object.__setattr__")))
    (na_Body_ranks : PySem.W.findIn K (.ref C_Body) "ranks" = some none)
    (na_Body_edges : PySem.W.findIn K (.ref C_Body) "edges" = some none)
    (na_Body_after : PySem.W.findIn K (.ref C_Body) "after" = some none)
    (ca_Field : PySem.W.nsIn K mainGlobals "Field" = some (some (.ref C_Field)))
    (pg_Field : PySem.W.plainGet K C_Field Str.empty = true) (hd_Field : PySem.W.hasDictIn K C_Field = true) (po_Field : PySem.W.plainOver K C_Field = true) (sa_Field : PySem.W.findIn K (.ref C_Field) "__setattr__" = some (some (.builtin "object.__setattr__")))
    (na_Field_ranks : PySem.W.findIn K (.ref C_Field) "ranks" = some none)
    (na_Field_edges : PySem.W.findIn K (.ref C_Field) "edges" = some none)
    (na_Field_after : PySem.W.findIn K (.ref C_Field) "after" = some none)
    (na_Field_ahead : PySem.W.findIn K (.ref C_Field) "ahead" = some none)
    (na_Field_behind : PySem.W.findIn K (.ref C_Field) "behind" = some none)
    (mk_Field : PySem.W.makesIn K C_Field = true) (mi_Field : PySem.W.findIn K (.ref C_Field) "__init__" = some (some (.ref f_Field_init))) (mf_Field : PySem.W.isFn K (.ref f_Field_init) = true) (mp_Field : PySem.W.keepIn K (.ref C_Field) = true)
    (rdB : PySem.W.readsIn K C_Body (.type "type") = true) (gaB : PySem.W.specialIn K (.ref C_Body) "__getattribute__" = some (some (.builtin "type.__getattribute__"))) (atB : PySem.W.findCls K (.ref C_Body) (.type "type") "__init__" = some (.val (.ref f_Body_init)))
    (fiB : PySem.W.findIn K (.ref C_Body) "__init__" = some (some (.ref f_Body_init)))
    (mt_Body_known_true : PySem.W.findIn K (.ref C_Field) "known" = some (some (.ref f_Body_known)))
    (mt_Body_asked_true : PySem.W.findIn K (.ref C_Field) "asked" = some (some (.ref f_Body_asked)))
    (mt_Body_ranked_true : PySem.W.findIn K (.ref C_Field) "ranked" = some (some (.ref f_Body_ranked)))
    (mt_Body_edge_of_true : PySem.W.findIn K (.ref C_Field) "edge_of" = some (some (.ref f_Body_edge_of)))
    (mt_Body_put_true : PySem.W.findIn K (.ref C_Field) "put" = some (some (.ref f_Body_put)))
    (mt_Field_in_arrow_true : PySem.W.findIn K (.ref C_Field) "in_arrow" = some (some (.ref f_Field_in_arrow)))
    (mt_Field_loose_true : PySem.W.findIn K (.ref C_Field) "loose" = some (some (.ref f_Field_loose)))
    (mt_Body_cells_true : PySem.W.findIn K (.ref C_Field) "cells" = some (some (.ref f_Body_cells)))
    (mt_Body_over_true : PySem.W.findIn K (.ref C_Field) "over" = some (some (.ref f_Body_over)))
    (mt_Body_drop_true : PySem.W.findIn K (.ref C_Field) "drop" = some (some (.ref f_Body_drop)))
    (mt_Body_take_true : PySem.W.findIn K (.ref C_Field) "take" = some (some (.ref f_Body_take)))
    (mt_Field_untie_true : PySem.W.findIn K (.ref C_Field) "untie" = some (some (.ref f_Field_untie)))
    (mt_Field_steps_true : PySem.W.findIn K (.ref C_Field) "steps" = some (some (.ref f_Field_steps)))
    (mt_Field_ring_with_true : PySem.W.findIn K (.ref C_Field) "ring_with" = some (some (.ref f_Field_ring_with)))
    (mt_Field_tie_true : PySem.W.findIn K (.ref C_Field) "tie" = some (some (.ref f_Field_tie)))
    (mt_Body_coming_true : PySem.W.findIn K (.ref C_Field) "coming" = some (some (.ref f_Body_coming)))
    (mt_Body_stands_true : PySem.W.findIn K (.ref C_Field) "stands" = some (some (.ref f_Body_stands)))
    (mt_Body_rank_true : PySem.W.findIn K (.ref C_Field) "rank" = some (some (.ref f_Body_rank)))
    (mt_Body_border_true : PySem.W.findIn K (.ref C_Field) "border" = some (some (.ref f_Body_border)))
    (mt_Field_tails_true : PySem.W.findIn K (.ref C_Field) "tails" = some (some (.ref f_Field_tails)))
    (mt_Field_arrows_true : PySem.W.findIn K (.ref C_Field) "arrows" = some (some (.ref f_Field_arrows)))
    (fn_Body_asked : PySem.W.isFn K (.ref f_Body_asked) = true)
    (fn_Body_border : PySem.W.isFn K (.ref f_Body_border) = true)
    (fn_Body_cells : PySem.W.isFn K (.ref f_Body_cells) = true)
    (fn_Body_coming : PySem.W.isFn K (.ref f_Body_coming) = true)
    (fn_Body_drop : PySem.W.isFn K (.ref f_Body_drop) = true)
    (fn_Body_edge_of : PySem.W.isFn K (.ref f_Body_edge_of) = true)
    (fn_Body_known : PySem.W.isFn K (.ref f_Body_known) = true)
    (fn_Body_over : PySem.W.isFn K (.ref f_Body_over) = true)
    (fn_Body_put : PySem.W.isFn K (.ref f_Body_put) = true)
    (fn_Body_rank : PySem.W.isFn K (.ref f_Body_rank) = true)
    (fn_Body_ranked : PySem.W.isFn K (.ref f_Body_ranked) = true)
    (fn_Body_stands : PySem.W.isFn K (.ref f_Body_stands) = true)
    (fn_Body_take : PySem.W.isFn K (.ref f_Body_take) = true)
    (fn_Field_arrows : PySem.W.isFn K (.ref f_Field_arrows) = true)
    (fn_Field_in_arrow : PySem.W.isFn K (.ref f_Field_in_arrow) = true)
    (fn_Field_loose : PySem.W.isFn K (.ref f_Field_loose) = true)
    (fn_Field_ring_with : PySem.W.isFn K (.ref f_Field_ring_with) = true)
    (fn_Field_steps : PySem.W.isFn K (.ref f_Field_steps) = true)
    (fn_Field_tails : PySem.W.isFn K (.ref f_Field_tails) = true)
    (fn_Field_tie : PySem.W.isFn K (.ref f_Field_tie) = true)
    (fn_Field_untie : PySem.W.isFn K (.ref f_Field_untie) = true)
    (ca_RingOfArrows : PySem.W.nsIn K mainGlobals "RingOfArrows" = some (some (.ref C_RingOfArrows)))
    (xl_RingOfArrows : K.lookup C_RingOfArrows = some (excClassObj nm_RingOfArrows qn_RingOfArrows C_RingOfArrows N_RingOfArrows bs_RingOfArrows bm_RingOfArrows true sn_RingOfArrows su_RingOfArrows ab_RingOfArrows co_RingOfArrows dd_RingOfArrows w0_RingOfArrows w1_RingOfArrows w2_RingOfArrows w3_RingOfArrows w5_RingOfArrows "ValueError.__new__")) (xr_RingOfArrows : PySem.HandSPX.refsVE bm_RingOfArrows = true)
    (xs_RingOfArrows : PySem.W.findIn K (.ref C_RingOfArrows) "__setattr__" = some (some (.builtin "object.__setattr__"))) (xe_RingOfArrows : PySem.W.subIn K (.ref C_RingOfArrows) (.type "BaseException") = some true) (xt_RingOfArrows : PySem.W.typeIn K (.ref C_RingOfArrows) = some (.type "type")) (xk_RingOfArrows : PySem.W.keepIn K (.ref C_RingOfArrows) = true) (xn_RingOfArrows : PySem.W.findIn K (.ref C_RingOfArrows) "ring" = some none) (xa_RingOfArrows : PySem.W.findIn K (.ref C_RingOfArrows) "__getattribute__" = some (some (.builtin "BaseException.__getattribute__"))) (xg_RingOfArrows : PySem.W.findIn K (.ref C_RingOfArrows) "__getattr__" = some none) (xh_RingOfArrows : PySem.W.hasDictIn K C_RingOfArrows = true)
    (xi_RingOfArrows : PySem.W.findIn K (.ref C_RingOfArrows) "__init__" = some (some (.ref f_RingOfArrows_init))) (xy_RingOfArrows : PySem.W.typeIn K (.ref f_RingOfArrows_init) = some (.type "function"))
    (ee_RingOfArrows : PySem.W.subIn K (.ref C_RingOfArrows) (.type "BaseException") = some true) (eh_RingOfArrows : PySem.W.hasDictIn K C_RingOfArrows = true) (et_RingOfArrows : PySem.W.typeIn K (.ref C_RingOfArrows) = some (.type "type"))
    (em_RingOfArrows_RingOfArrows : PySem.W.subIn K (.ref C_RingOfArrows) (.ref C_RingOfArrows) = some true)
    (ca_NotASum : PySem.W.nsIn K mainGlobals "NotASum" = some (some (.ref C_NotASum))) (cx_NotASum : PySem.W.excIn K C_NotASum [.type "ValueError", .type "Exception", .type "BaseException", .type "object"] "ValueError.__new__" = true) (ck_NotASum : PySem.W.keepIn K (.ref C_NotASum) = true) (cb_NotASum : PySem.W.subIn K (.ref C_NotASum) (.type "BaseException") = some true) (ct_NotASum : PySem.W.typeIn K (.ref C_NotASum) = some (.type "type"))
    (ca_NoCell : PySem.W.nsIn K mainGlobals "NoCell" = some (some (.ref C_NoCell))) (cx_NoCell : PySem.W.excIn K C_NoCell [.type "ValueError", .type "Exception", .type "BaseException", .type "object"] "ValueError.__new__" = true) (ck_NoCell : PySem.W.keepIn K (.ref C_NoCell) = true) (cb_NoCell : PySem.W.subIn K (.ref C_NoCell) (.type "BaseException") = some true) (ct_NoCell : PySem.W.typeIn K (.ref C_NoCell) = some (.type "type"))
    (ca_OtherRank : PySem.W.nsIn K mainGlobals "OtherRank" = some (some (.ref C_OtherRank))) (cx_OtherRank : PySem.W.excIn K C_OtherRank [.type "ValueError", .type "Exception", .type "BaseException", .type "object"] "ValueError.__new__" = true) (ck_OtherRank : PySem.W.keepIn K (.ref C_OtherRank) = true) (cb_OtherRank : PySem.W.subIn K (.ref C_OtherRank) (.type "BaseException") = some true) (ct_OtherRank : PySem.W.typeIn K (.ref C_OtherRank) = some (.type "type"))
    (ca_BadRank : PySem.W.nsIn K mainGlobals "BadRank" = some (some (.ref C_BadRank))) (cx_BadRank : PySem.W.excIn K C_BadRank [.type "ValueError", .type "Exception", .type "BaseException", .type "object"] "ValueError.__new__" = true) (ck_BadRank : PySem.W.keepIn K (.ref C_BadRank) = true) (cb_BadRank : PySem.W.subIn K (.ref C_BadRank) (.type "BaseException") = some true) (ct_BadRank : PySem.W.typeIn K (.ref C_BadRank) = some (.type "type"))
    (ca_Full : PySem.W.nsIn K mainGlobals "Full" = some (some (.ref C_Full))) (cx_Full : PySem.W.excIn K C_Full [.type "ValueError", .type "Exception", .type "BaseException", .type "object"] "ValueError.__new__" = true) (ck_Full : PySem.W.keepIn K (.ref C_Full) = true) (cb_Full : PySem.W.subIn K (.ref C_Full) (.type "BaseException") = some true) (ct_Full : PySem.W.typeIn K (.ref C_Full) = some (.type "type"))
    (ca_OpenBorder : PySem.W.nsIn K mainGlobals "OpenBorder" = some (some (.ref C_OpenBorder))) (cx_OpenBorder : PySem.W.excIn K C_OpenBorder [.type "ValueError", .type "Exception", .type "BaseException", .type "object"] "ValueError.__new__" = true) (ck_OpenBorder : PySem.W.keepIn K (.ref C_OpenBorder) = true) (cb_OpenBorder : PySem.W.subIn K (.ref C_OpenBorder) (.type "BaseException") = some true) (ct_OpenBorder : PySem.W.typeIn K (.ref C_OpenBorder) = some (.type "type"))
    (ca_Tied : PySem.W.nsIn K mainGlobals "Tied" = some (some (.ref C_Tied))) (cx_Tied : PySem.W.excIn K C_Tied [.type "ValueError", .type "Exception", .type "BaseException", .type "object"] "ValueError.__new__" = true) (ck_Tied : PySem.W.keepIn K (.ref C_Tied) = true) (cb_Tied : PySem.W.subIn K (.ref C_Tied) (.type "BaseException") = some true) (ct_Tied : PySem.W.typeIn K (.ref C_Tied) = some (.type "type"))
    (ca_Covered : PySem.W.nsIn K mainGlobals "Covered" = some (some (.ref C_Covered))) (cx_Covered : PySem.W.excIn K C_Covered [.type "ValueError", .type "Exception", .type "BaseException", .type "object"] "ValueError.__new__" = true) (ck_Covered : PySem.W.keepIn K (.ref C_Covered) = true) (cb_Covered : PySem.W.subIn K (.ref C_Covered) (.type "BaseException") = some true) (ct_Covered : PySem.W.typeIn K (.ref C_Covered) = some (.type "type"))
    (ca_NotTied : PySem.W.nsIn K mainGlobals "NotTied" = some (some (.ref C_NotTied))) (cx_NotTied : PySem.W.excIn K C_NotTied [.type "ValueError", .type "Exception", .type "BaseException", .type "object"] "ValueError.__new__" = true) (ck_NotTied : PySem.W.keepIn K (.ref C_NotTied) = true) (cb_NotTied : PySem.W.subIn K (.ref C_NotTied) (.type "BaseException") = some true) (ct_NotTied : PySem.W.typeIn K (.ref C_NotTied) = some (.type "type"))
    (ca_NotFace : PySem.W.nsIn K mainGlobals "NotFace" = some (some (.ref C_NotFace))) (cx_NotFace : PySem.W.excIn K C_NotFace [.type "ValueError", .type "Exception", .type "BaseException", .type "object"] "ValueError.__new__" = true) (ck_NotFace : PySem.W.keepIn K (.ref C_NotFace) = true) (cb_NotFace : PySem.W.subIn K (.ref C_NotFace) (.type "BaseException") = some true) (ct_NotFace : PySem.W.typeIn K (.ref C_NotFace) = some (.type "type"))
    (z_len : PySem.W.nsIn K mainGlobals "len" = some none)
    (z_range : PySem.W.nsIn K mainGlobals "range" = some none)
    (z_sorted : PySem.W.nsIn K mainGlobals "sorted" = some none)
    (z_list : PySem.W.nsIn K mainGlobals "list" = some none)
    (z_isinstance : PySem.W.nsIn K mainGlobals "isinstance" = some none)
    (z_int : PySem.W.nsIn K mainGlobals "int" = some none)
    (z_bool : PySem.W.nsIn K mainGlobals "bool" = some none)
    (z_enumerate : PySem.W.nsIn K mainGlobals "enumerate" = some none)
    (z_tuple : PySem.W.nsIn K mainGlobals "tuple" = some none)
    (z_HIGHEST : PySem.W.nsIn K mainGlobals "HIGHEST" = some (some u_HIGHEST)) (zr_HIGHEST : RelV (.int 12) u_HIGHEST)
    (z_MOST : PySem.W.nsIn K mainGlobals "MOST" = some (some u_MOST)) (zr_MOST : RelV (.int 120) u_MOST) :
    ∃ fd : FuncData, (∀ (s : Shared) (v : Value), BindsTo s fd ⟨[v], []⟩ [("_law_script", v)]) ∧ ∀ base : Heap, K.In base → base.Ns mainGlobals mg → FnOk l.prog w K mg base CX0 6 fa fd ["_law_script"] (sp_law ⟨fun _ => 0, 0, 0, 0, 0, 0, 0, 0, 0⟩ K) := by
  have e := hfa.symm.trans (PySem.W.mg_of X G a_law)
  cases e
  have bi : Bi mg := ⟨PySem.W.mg_none_of X G z_len, PySem.W.mg_none_of X G z_range, PySem.W.mg_none_of X G z_sorted, PySem.W.mg_none_of X G z_list, PySem.W.mg_none_of X G z_isinstance, PySem.W.mg_none_of X G z_int, PySem.W.mg_none_of X G z_bool, PySem.W.mg_none_of X G z_enumerate, PySem.W.mg_none_of X G z_tuple, ⟨_, PySem.W.mg_of X G z_HIGHEST, zr_HIGHEST⟩, ⟨_, PySem.W.mg_of X G z_MOST, zr_MOST⟩⟩
  let T : Cs := ⟨fun k => match k with | 0 => C_NotASum | 1 => C_NoCell | 3 => C_OtherRank | 2 => C_BadRank | 5 => C_Full | 4 => C_OpenBorder | 8 => C_Tied | 6 => C_Covered | 9 => C_NotTied | 7 => C_NotFace | _ => 0, C_RingOfArrows, 0, 0, C_Body, C_Field, 0, 0, 0⟩
  have X_NotASum : ExC K mg "NotASum" (T.ex 0) := ⟨PySem.W.mg_of X G ca_NotASum, cx_NotASum, ck_NotASum, cb_NotASum, ct_NotASum⟩
  have X_NoCell : ExC K mg "NoCell" (T.ex 1) := ⟨PySem.W.mg_of X G ca_NoCell, cx_NoCell, ck_NoCell, cb_NoCell, ct_NoCell⟩
  have X_OtherRank : ExC K mg "OtherRank" (T.ex 3) := ⟨PySem.W.mg_of X G ca_OtherRank, cx_OtherRank, ck_OtherRank, cb_OtherRank, ct_OtherRank⟩
  have X_BadRank : ExC K mg "BadRank" (T.ex 2) := ⟨PySem.W.mg_of X G ca_BadRank, cx_BadRank, ck_BadRank, cb_BadRank, ct_BadRank⟩
  have X_Full : ExC K mg "Full" (T.ex 5) := ⟨PySem.W.mg_of X G ca_Full, cx_Full, ck_Full, cb_Full, ct_Full⟩
  have X_OpenBorder : ExC K mg "OpenBorder" (T.ex 4) := ⟨PySem.W.mg_of X G ca_OpenBorder, cx_OpenBorder, ck_OpenBorder, cb_OpenBorder, ct_OpenBorder⟩
  have X_Tied : ExC K mg "Tied" (T.ex 8) := ⟨PySem.W.mg_of X G ca_Tied, cx_Tied, ck_Tied, cb_Tied, ct_Tied⟩
  have X_Covered : ExC K mg "Covered" (T.ex 6) := ⟨PySem.W.mg_of X G ca_Covered, cx_Covered, ck_Covered, cb_Covered, ct_Covered⟩
  have X_NotTied : ExC K mg "NotTied" (T.ex 9) := ⟨PySem.W.mg_of X G ca_NotTied, cx_NotTied, ck_NotTied, cb_NotTied, ct_NotTied⟩
  have X_NotFace : ExC K mg "NotFace" (T.ex 7) := ⟨PySem.W.mg_of X G ca_NotFace, cx_NotFace, ck_NotFace, cb_NotFace, ct_NotFace⟩
  have kl_false : Kl K (T.cls false) false := ⟨⟨pg_Body, hd_Body, po_Body, sa_Body⟩, na_Body_ranks, na_Body_edges, na_Body_after, fun h => (nomatch h), fun h => (nomatch h)⟩
  have kl_true : Kl K (T.cls true) true := ⟨⟨pg_Field, hd_Field, po_Field, sa_Field⟩, na_Field_ranks, na_Field_edges, na_Field_after, fun _ => na_Field_ahead, fun _ => na_Field_behind⟩
  have XG_RingOfArrows : mg "RingOfArrows" = some (.ref T.ring) := PySem.W.mg_of X G ca_RingOfArrows
  have XO_RingOfArrows : XoC K T.ring "ring" := ⟨⟨⟨_, _, _, _, _, _, _, _, _, _, _, _, _, _, _, xl_RingOfArrows, xr_RingOfArrows⟩, xs_RingOfArrows, xe_RingOfArrows, xt_RingOfArrows, xk_RingOfArrows⟩, xn_RingOfArrows, ⟨xa_RingOfArrows, xg_RingOfArrows, xe_RingOfArrows, xh_RingOfArrows⟩⟩
  have em : Em K T := ⟨PySem.W.exm_ref ee_RingOfArrows eh_RingOfArrows et_RingOfArrows em_RingOfArrows_RingOfArrows⟩
  have F_law_bag := fun_mk (st := s_law_bag) l_law_bag c_law_bag k_law_bag
  have b_law_bag := F_law_bag.binds (ps := ["_law_script"]) fun _ _ _ _ _ _ us hl => match us, hl with | [_], _ => rfl
  have F_law_pull := fun_mk (st := s_law_pull) l_law_pull c_law_pull k_law_pull
  have b_law_pull := F_law_pull.binds (ps := ["_law_bag_here", "_law_many"]) fun _ _ _ _ _ _ us hl => match us, hl with | [_, _], _ => rfl
  have F_law_stock := fun_mk (st := s_law_stock) l_law_stock c_law_stock k_law_stock
  have b_law_stock := F_law_stock.binds (ps := ["_law_many"]) fun _ _ _ _ _ _ us hl => match us, hl with | [_], _ => rfl
  have F_law_rank := fun_mk (st := s_law_rank) l_law_rank c_law_rank k_law_rank
  have b_law_rank := F_law_rank.binds (ps := ["_law_bag_here"]) fun _ _ _ _ _ _ us hl => match us, hl with | [_], _ => rfl
  have F_law_join := fun_mk (st := s_law_join) l_law_join c_law_join k_law_join
  have b_law_join := F_law_join.binds (ps := ["_law_one", "_law_other"]) fun _ _ _ _ _ _ us hl => match us, hl with | [_, _], _ => rfl
  have F_law_here := fun_mk (st := s_law_here) l_law_here c_law_here k_law_here
  have b_law_here := F_law_here.binds (ps := ["_law_rows_here"]) fun _ _ _ _ _ _ us hl => match us, hl with | [_], _ => rfl
  have F_law_some := fun_mk (st := s_law_some) l_law_some c_law_some k_law_some
  have b_law_some := F_law_some.binds (ps := ["_law_bag_here", "_law_row_here"]) fun _ _ _ _ _ _ us hl => match us, hl with | [_, _], _ => rfl
  have F_law_edge := fun_mk (st := s_law_edge) l_law_edge c_law_edge k_law_edge
  have b_law_edge := F_law_edge.binds (ps := ["_law_rows_here", "_law_row_here"]) fun _ _ _ _ _ _ us hl => match us, hl with | [_, _], _ => rfl
  have F_law_edge_by := fun_mk (st := s_law_edge_by) l_law_edge_by c_law_edge_by k_law_edge_by
  have b_law_edge_by := F_law_edge_by.binds (ps := ["_law_rows_here", "_law_loops", "_law_rank_here", "_law_bag_here"]) fun _ _ _ _ _ _ us hl => match us, hl with | [_, _, _, _], _ => rfl
  have F_law_rows := fun_mk (st := s_law_rows) l_law_rows c_law_rows k_law_rows
  have b_law_rows := F_law_rows.binds (ps := ["_law_bag_here", "_law_most"]) fun _ _ _ _ _ _ us hl => match us, hl with | [_, _], _ => rfl
  have F_is_sum := fun_mk (st := s_is_sum) l_is_sum c_is_sum k_is_sum
  have b_is_sum := F_is_sum.binds (ps := ["row"]) fun _ _ _ _ _ _ us hl => match us, hl with | [_], _ => rfl
  have F_checked := fun_mk (st := s_checked) l_checked c_checked k_checked
  have b_checked := F_checked.binds (ps := ["row"]) fun _ _ _ _ _ _ us hl => match us, hl with | [_], _ => rfl
  have F_Body_known := fun_mk (st := s_Body_known) l_Body_known c_Body_known k_Body_known
  have b_Body_known := F_Body_known.binds (ps := ["self", "row"]) fun _ _ _ _ _ _ us hl => match us, hl with | [_, _], _ => rfl
  have F_Body_asked := fun_mk (st := s_Body_asked) l_Body_asked c_Body_asked k_Body_asked
  have b_Body_asked := F_Body_asked.binds (ps := ["self", "row"]) fun _ _ _ _ _ _ us hl => match us, hl with | [_, _], _ => rfl
  have F_Body_ranked := fun_mk (st := s_Body_ranked) l_Body_ranked c_Body_ranked k_Body_ranked
  have b_Body_ranked := F_Body_ranked.binds (ps := ["self", "row", "rank"]) fun _ _ _ _ _ _ us hl => match us, hl with | [_, _, _], _ => rfl
  have F_joined := fun_mk (st := s_joined) l_joined c_joined k_joined
  have b_joined := F_joined.binds (ps := ["one", "other"]) fun _ _ _ _ _ _ us hl => match us, hl with | [_, _], _ => rfl
  have F_Body_edge_of := fun_mk (st := s_Body_edge_of) l_Body_edge_of c_Body_edge_of k_Body_edge_of
  have b_Body_edge_of := F_Body_edge_of.binds (ps := ["self", "row"]) fun _ _ _ _ _ _ us hl => match us, hl with | [_, _], _ => rfl
  have F_Body_put := fun_mk (st := s_Body_put) l_Body_put c_Body_put k_Body_put
  have b_Body_put := F_Body_put.binds (ps := ["self", "rank", "border"]) fun _ _ _ _ _ _ us hl => match us, hl with | [_, _, _], _ => rfl
  have F_Field_in_arrow := fun_mk (st := s_Field_in_arrow) l_Field_in_arrow c_Field_in_arrow k_Field_in_arrow
  have b_Field_in_arrow := F_Field_in_arrow.binds (ps := ["self", "cell"]) fun _ _ _ _ _ _ us hl => match us, hl with | [_, _], _ => rfl
  have F_Field_loose := fun_mk (st := s_Field_loose) l_Field_loose c_Field_loose k_Field_loose
  have b_Field_loose := F_Field_loose.binds (ps := ["self", "cell"]) fun _ _ _ _ _ _ us hl => match us, hl with | [_, _], _ => rfl
  have F_Body_cells := fun_mk (st := s_Body_cells) l_Body_cells c_Body_cells k_Body_cells
  have b_Body_cells := F_Body_cells.binds (ps := ["self"]) fun _ _ _ _ _ _ us hl => match us, hl with | [_], _ => rfl
  have F_Body_over := fun_mk (st := s_Body_over) l_Body_over c_Body_over k_Body_over
  have b_Body_over := F_Body_over.binds (ps := ["self", "cell"]) fun _ _ _ _ _ _ us hl => match us, hl with | [_, _], _ => rfl
  have F_Body_drop := fun_mk (st := s_Body_drop) l_Body_drop c_Body_drop k_Body_drop
  have b_Body_drop := F_Body_drop.binds (ps := ["self", "cell"]) fun _ _ _ _ _ _ us hl => match us, hl with | [_, _], _ => rfl
  have F_Body_take := fun_mk (st := s_Body_take) l_Body_take c_Body_take k_Body_take
  have b_Body_take := F_Body_take.binds (ps := ["self", "cell"]) fun _ _ _ _ _ _ us hl => match us, hl with | [_, _], _ => rfl
  have F_law_fill := fun_mk (st := s_law_fill) l_law_fill c_law_fill k_law_fill
  have b_law_fill := F_law_fill.binds (ps := ["_law_body", "_law_rows_here"]) fun _ _ _ _ _ _ us hl => match us, hl with | [_, _], _ => rfl
  have F_law_tails := fun_mk (st := s_law_tails) l_law_tails c_law_tails k_law_tails
  have b_law_tails := F_law_tails.binds (ps := ["_law_arrows"]) fun _ _ _ _ _ _ us hl => match us, hl with | [_], _ => rfl
  have F_law_heads := fun_mk (st := s_law_heads) l_law_heads c_law_heads k_law_heads
  have b_law_heads := F_law_heads.binds (ps := ["_law_arrows"]) fun _ _ _ _ _ _ us hl => match us, hl with | [_], _ => rfl
  have F_law_parted := fun_mk (st := s_law_parted) l_law_parted c_law_parted k_law_parted
  have b_law_parted := F_law_parted.binds (ps := ["_law_row_here", "_law_keep"]) fun _ _ _ _ _ _ us hl => match us, hl with | [_, _], _ => rfl
  have F_Field_untie := fun_mk (st := s_Field_untie) l_Field_untie c_Field_untie k_Field_untie
  have b_Field_untie := F_Field_untie.binds (ps := ["self", "low"]) fun _ _ _ _ _ _ us hl => match us, hl with | [_, _], _ => rfl
  have F_law_head := fun_mk (st := s_law_head) l_law_head c_law_head k_law_head
  have b_law_head := F_law_head.binds (ps := ["_law_arrows", "_law_tail"]) fun _ _ _ _ _ _ us hl => match us, hl with | [_, _], _ => rfl
  have F_law_next := fun_mk (st := s_law_next) l_law_next c_law_next k_law_next
  have b_law_next := F_law_next.binds (ps := ["_law_rows_here", "_law_arrows", "_law_tail"]) fun _ _ _ _ _ _ us hl => match us, hl with | [_, _, _], _ => rfl
  have F_law_ringed := fun_mk (st := s_law_ringed) l_law_ringed c_law_ringed k_law_ringed
  have b_law_ringed := F_law_ringed.binds (ps := ["_law_rows_here", "_law_arrows"]) fun _ _ _ _ _ _ us hl => match us, hl with | [_, _], _ => rfl
  have F_led := fun_mk (st := s_led) l_led c_led k_led
  have b_led := F_led.binds (ps := ["came", "low", "here"]) fun _ _ _ _ _ _ us hl => match us, hl with | [_, _, _], _ => rfl
  have F_Field_steps := fun_mk (st := s_Field_steps) l_Field_steps c_Field_steps k_Field_steps
  have b_Field_steps := F_Field_steps.binds (ps := ["self", "tail"]) fun _ _ _ _ _ _ us hl => match us, hl with | [_, _], _ => rfl
  have F_Field_ring_with := fun_mk (st := s_Field_ring_with) l_Field_ring_with c_Field_ring_with k_Field_ring_with
  have b_Field_ring_with := F_Field_ring_with.binds (ps := ["self", "low", "high"]) fun _ _ _ _ _ _ us hl => match us, hl with | [_, _, _], _ => rfl
  have F_Field_tie := fun_mk (st := s_Field_tie) l_Field_tie c_Field_tie k_Field_tie
  have b_Field_tie := F_Field_tie.binds (ps := ["self", "low", "high"]) fun _ _ _ _ _ _ us hl => match us, hl with | [_, _, _], _ => rfl
  have F_law_tied_or_ring := fun_mk (st := s_law_tied_or_ring) l_law_tied_or_ring c_law_tied_or_ring k_law_tied_or_ring
  have b_law_tied_or_ring := F_law_tied_or_ring.binds (ps := ["_law_field", "_law_low", "_law_high"]) fun _ _ _ _ _ _ us hl => match us, hl with | [_, _, _], _ => rfl
  have F_law_whole := fun_mk (st := s_law_whole) l_law_whole c_law_whole k_law_whole
  have b_law_whole := F_law_whole.binds (ps := ["_law_found"]) fun _ _ _ _ _ _ us hl => match us, hl with | [_], _ => rfl
  have F_law_row := fun_mk (st := s_law_row) l_law_row c_law_row k_law_row
  have b_law_row := F_law_row.binds (ps := ["_law_found"]) fun _ _ _ _ _ _ us hl => match us, hl with | [_], _ => rfl
  have F_law_same := fun_mk (st := s_law_same) l_law_same c_law_same k_law_same
  have b_law_same := F_law_same.binds (ps := ["_law_found", "_law_due"]) fun _ _ _ _ _ _ us hl => match us, hl with | [_, _], _ => rfl
  have F_Body_coming := fun_mk (st := s_Body_coming) l_Body_coming c_Body_coming k_Body_coming
  have b_Body_coming := F_Body_coming.binds (ps := ["self"]) fun _ _ _ _ _ _ us hl => match us, hl with | [_], _ => rfl
  have F_Body_stands := fun_mk (st := s_Body_stands) l_Body_stands c_Body_stands k_Body_stands
  have b_Body_stands := F_Body_stands.binds (ps := ["self", "cell"]) fun _ _ _ _ _ _ us hl => match us, hl with | [_, _], _ => rfl
  have F_law_truth := fun_mk (st := s_law_truth) l_law_truth c_law_truth k_law_truth
  have b_law_truth := F_law_truth.binds (ps := ["_law_found", "_law_due"]) fun _ _ _ _ _ _ us hl => match us, hl with | [_, _], _ => rfl
  have F_Body_rank := fun_mk (st := s_Body_rank) l_Body_rank c_Body_rank k_Body_rank
  have b_Body_rank := F_Body_rank.binds (ps := ["self", "cell"]) fun _ _ _ _ _ _ us hl => match us, hl with | [_, _], _ => rfl
  have F_Body_border := fun_mk (st := s_Body_border) l_Body_border c_Body_border k_Body_border
  have b_Body_border := F_Body_border.binds (ps := ["self", "cell"]) fun _ _ _ _ _ _ us hl => match us, hl with | [_, _], _ => rfl
  have F_law_cells_kept := fun_mk (st := s_law_cells_kept) l_law_cells_kept c_law_cells_kept k_law_cells_kept
  have b_law_cells_kept := F_law_cells_kept.binds (ps := ["_law_body", "_law_rows_here"]) fun _ _ _ _ _ _ us hl => match us, hl with | [_, _], _ => rfl
  have F_Field_tails := fun_mk (st := s_Field_tails) l_Field_tails c_Field_tails k_Field_tails
  have b_Field_tails := F_Field_tails.binds (ps := ["self"]) fun _ _ _ _ _ _ us hl => match us, hl with | [_], _ => rfl
  have F_Field_arrows := fun_mk (st := s_Field_arrows) l_Field_arrows c_Field_arrows k_Field_arrows
  have b_Field_arrows := F_Field_arrows.binds (ps := ["self"]) fun _ _ _ _ _ _ us hl => match us, hl with | [_], _ => rfl
  have F_law_pairs := fun_mk (st := s_law_pairs) l_law_pairs c_law_pairs k_law_pairs
  have b_law_pairs := F_law_pairs.binds (ps := ["_law_found", "_law_due"]) fun _ _ _ _ _ _ us hl => match us, hl with | [_, _], _ => rfl
  have F_law_kept := fun_mk (st := s_law_kept) l_law_kept c_law_kept k_law_kept
  have b_law_kept := F_law_kept.binds (ps := ["_law_field", "_law_rows_here", "_law_arrows"]) fun _ _ _ _ _ _ us hl => match us, hl with | [_, _, _], _ => rfl
  have F_law := fun_mk (st := s_law) l_law c_law k_law
  have F_Field_init := fun_mk (st := s_Field_init) l_Field_init c_Field_init k_Field_init
  have b_Field_init := F_Field_init.binds (ps := ["self"]) fun _ _ _ _ _ _ us hl => match us, hl with | [_], _ => rfl
  have F_Body_init := fun_mk (st := s_Body_init) l_Body_init c_Body_init k_Body_init
  have b_Body_init := F_Body_init.binds (ps := ["self"]) fun _ _ _ _ _ _ us hl => match us, hl with | [_], _ => rfl
  have F_RingOfArrows_init := fun_mk (st := s_RingOfArrows_init) l_RingOfArrows_init c_RingOfArrows_init k_RingOfArrows_init
  have b_RingOfArrows_init := F_RingOfArrows_init.binds (ps := ["self", "ring"]) fun _ _ _ _ _ _ us hl => match us, hl with | [_, _], _ => rfl
  refine ⟨PySem.W.fnOf "law" "law" (defArgs s_law) (defBody s_law) (defScope s_law) .none kV_law dc_law pm_law an_law cd_law ct_law, fun s v => .of_eq rfl, fun base _ _ => ?_⟩
  have XI_RingOfArrows : XiC l.prog w K mg base T.ring "ring" f_RingOfArrows_init _ := ⟨xi_RingOfArrows, xy_RingOfArrows, ok_RingOfArrows_init F_RingOfArrows_init, b_RingOfArrows_init⟩
  have N_Field : NGlob l.prog w K mg base 2 (T.cls true) "Field" (sp_new true T K) f_Field_init _ := ⟨ok_Field_init (T := T) F_Field_init bi F_Body_init b_Body_init (PySem.W.mg_of X G ca_Body) ⟨rdB, gaB⟩ atB k_Body_init kl_true, PySem.W.mg_of X G ca_Field, ⟨mk_Field, mi_Field, mf_Field, mp_Field⟩, b_Field_init⟩
  have G_law_bag : Glob l.prog w K mg base CX0 1 "_law_bag" ["_law_script"] (sp_law_bag T K) f_law_bag _ := ⟨ok_law_bag (T := T) F_law_bag bi, PySem.W.mg_of X G a_law_bag, k_law_bag, b_law_bag⟩
  have G_law_pull : Glob l.prog w K mg base CX0 1 "_law_pull" ["_law_bag_here", "_law_many"] (sp_law_pull T K) f_law_pull _ := ⟨ok_law_pull (T := T) F_law_pull bi, PySem.W.mg_of X G a_law_pull, k_law_pull, b_law_pull⟩
  have G_law_stock : Glob l.prog w K mg base CX0 1 "_law_stock" ["_law_many"] (sp_law_stock T K) f_law_stock _ := ⟨ok_law_stock (T := T) F_law_stock bi, PySem.W.mg_of X G a_law_stock, k_law_stock, b_law_stock⟩
  have G_law_rank : Glob l.prog w K mg base CX0 2 "_law_rank" ["_law_bag_here"] (sp_law_rank T K) f_law_rank _ := ⟨ok_law_rank (T := T) F_law_rank bi G_law_pull, PySem.W.mg_of X G a_law_rank, k_law_rank, b_law_rank⟩
  have G_law_join : Glob l.prog w K mg base CX0 1 "_law_join" ["_law_one", "_law_other"] (sp_law_join T K) f_law_join _ := ⟨ok_law_join (T := T) F_law_join bi, PySem.W.mg_of X G a_law_join, k_law_join, b_law_join⟩
  have G_law_here : Glob l.prog w K mg base CX0 1 "_law_here" ["_law_rows_here"] (sp_law_here T K) f_law_here _ := ⟨ok_law_here (T := T) F_law_here bi, PySem.W.mg_of X G a_law_here, k_law_here, b_law_here⟩
  have G_law_some : Glob l.prog w K mg base CX0 2 "_law_some" ["_law_bag_here", "_law_row_here"] (sp_law_some T K) f_law_some _ := ⟨ok_law_some (T := T) F_law_some bi G_law_pull G_law_join, PySem.W.mg_of X G a_law_some, k_law_some, b_law_some⟩
  have G_law_edge : Glob l.prog w K mg base CX0 2 "_law_edge" ["_law_rows_here", "_law_row_here"] (sp_law_edge T K) f_law_edge _ := ⟨ok_law_edge (T := T) F_law_edge bi G_law_join, PySem.W.mg_of X G a_law_edge, k_law_edge, b_law_edge⟩
  have G_law_edge_by : Glob l.prog w K mg base CX0 3 "_law_edge_by" ["_law_rows_here", "_law_loops", "_law_rank_here", "_law_bag_here"] (sp_law_edge_by T K) f_law_edge_by _ := ⟨ok_law_edge_by (T := T) F_law_edge_by bi G_law_pull G_law_join G_law_here G_law_some G_law_edge, PySem.W.mg_of X G a_law_edge_by, k_law_edge_by, b_law_edge_by⟩
  have G_law_rows : Glob l.prog w K mg base CX0 4 "_law_rows" ["_law_bag_here", "_law_most"] (sp_law_rows T K) f_law_rows _ := ⟨ok_law_rows (T := T) F_law_rows bi G_law_pull G_law_stock G_law_rank G_law_edge_by, PySem.W.mg_of X G a_law_rows, k_law_rows, b_law_rows⟩
  have G_is_sum : Glob l.prog w K mg base CX0 1 "is_sum" ["row"] (sp_is_sum T K) f_is_sum _ := ⟨ok_is_sum (T := T) F_is_sum bi, PySem.W.mg_of X G a_is_sum, k_is_sum, b_is_sum⟩
  have G_checked : Glob l.prog w K mg base (L2.CX l.prog w) 2 "checked" ["row"] (sp_checked T K) f_checked _ := ⟨ok_checked (T := T) F_checked bi G_is_sum X_NotASum, PySem.W.mg_of X G a_checked, k_checked, b_checked⟩
  have G_Body_known_true : MGlob l.prog w K mg base (L2.CX l.prog w) 1 (T.cls true) "known" ["self", "row"] (sp_Body_known true T K) f_Body_known _ := ⟨ok_Body_known (t := true) (T := T) F_Body_known bi X_NoCell kl_true, ⟨mt_Body_known_true, fn_Body_known, k_Body_known⟩, b_Body_known⟩
  have G_Body_asked_true : MGlob l.prog w K mg base (L2.CX l.prog w) 3 (T.cls true) "asked" ["self", "row"] (sp_Body_asked true T K) f_Body_asked _ := ⟨ok_Body_asked (t := true) (T := T) F_Body_asked bi G_checked G_Body_known_true kl_true, ⟨mt_Body_asked_true, fn_Body_asked, k_Body_asked⟩, b_Body_asked⟩
  have G_Body_ranked_true : MGlob l.prog w K mg base (L2.CX l.prog w) 1 (T.cls true) "ranked" ["self", "row", "rank"] (sp_Body_ranked true T K) f_Body_ranked _ := ⟨ok_Body_ranked (t := true) (T := T) F_Body_ranked bi X_OtherRank kl_true, ⟨mt_Body_ranked_true, fn_Body_ranked, k_Body_ranked⟩, b_Body_ranked⟩
  have G_joined : Glob l.prog w K mg base CX0 1 "joined" ["one", "other"] (sp_joined T K) f_joined _ := ⟨ok_joined (T := T) F_joined bi, PySem.W.mg_of X G a_joined, k_joined, b_joined⟩
  have G_Body_edge_of_true : MGlob l.prog w K mg base CX0 2 (T.cls true) "edge_of" ["self", "row"] (sp_Body_edge_of true T K) f_Body_edge_of _ := ⟨ok_Body_edge_of (t := true) (T := T) F_Body_edge_of bi G_joined kl_true, ⟨mt_Body_edge_of_true, fn_Body_edge_of, k_Body_edge_of⟩, b_Body_edge_of⟩
  have G_Body_put_true : MGlob l.prog w K mg base (L2.CX l.prog w) 4 (T.cls true) "put" ["self", "rank", "border"] (sp_Body_put true T K) f_Body_put _ := ⟨ok_Body_put (t := true) (T := T) F_Body_put bi G_Body_asked_true G_Body_ranked_true G_Body_edge_of_true X_BadRank X_Full X_OpenBorder kl_true, ⟨mt_Body_put_true, fn_Body_put, k_Body_put⟩, b_Body_put⟩
  have G_Field_in_arrow : MGlob l.prog w K mg base CX0 1 (T.cls true) "in_arrow" ["self", "cell"] (sp_Field_in_arrow T K) f_Field_in_arrow _ := ⟨ok_Field_in_arrow (T := T) F_Field_in_arrow bi kl_true, ⟨mt_Field_in_arrow_true, fn_Field_in_arrow, k_Field_in_arrow⟩, b_Field_in_arrow⟩
  have G_Field_loose : MGlob l.prog w K mg base (L2.CX l.prog w) 2 (T.cls true) "loose" ["self", "cell"] (sp_Field_loose T K) f_Field_loose _ := ⟨ok_Field_loose (T := T) F_Field_loose bi G_Body_known_true G_Field_in_arrow X_Tied kl_true, ⟨mt_Field_loose_true, fn_Field_loose, k_Field_loose⟩, b_Field_loose⟩
  have G_V_loose_true := G_Field_loose
  have G_Body_cells_true : MGlob l.prog w K mg base CX0 1 (T.cls true) "cells" ["self"] (sp_Body_cells true T K) f_Body_cells _ := ⟨ok_Body_cells (t := true) (T := T) F_Body_cells bi kl_true, ⟨mt_Body_cells_true, fn_Body_cells, k_Body_cells⟩, b_Body_cells⟩
  have G_Body_over_true : MGlob l.prog w K mg base (L2.CX l.prog w) 2 (T.cls true) "over" ["self", "cell"] (sp_Body_over true T K) f_Body_over _ := ⟨ok_Body_over (t := true) (T := T) F_Body_over bi G_Body_known_true G_Body_cells_true kl_true, ⟨mt_Body_over_true, fn_Body_over, k_Body_over⟩, b_Body_over⟩
  have G_Body_drop_true : MGlob l.prog w K mg base CX0 1 (T.cls true) "drop" ["self", "cell"] (sp_Body_drop true T K) f_Body_drop _ := ⟨ok_Body_drop (t := true) (T := T) F_Body_drop bi kl_true, ⟨mt_Body_drop_true, fn_Body_drop, k_Body_drop⟩, b_Body_drop⟩
  have G_Body_take_true : MGlob l.prog w K mg base (L2.CX l.prog w) 3 (T.cls true) "take" ["self", "cell"] (sp_Body_take true T K) f_Body_take _ := ⟨ok_Body_take (t := true) (T := T) F_Body_take bi G_Body_known_true G_V_loose_true G_Body_over_true G_Body_drop_true X_Covered kl_true, ⟨mt_Body_take_true, fn_Body_take, k_Body_take⟩, b_Body_take⟩
  have G_law_fill_true : Glob l.prog w K mg base CX0 5 "_law_fill" ["_law_body", "_law_rows_here"] (sp_law_fill true T K) f_law_fill _ := ⟨ok_law_fill (t := true) (T := T) F_law_fill bi G_Body_put_true G_Body_take_true kl_true, PySem.W.mg_of X G a_law_fill, k_law_fill, b_law_fill⟩
  have G_law_tails : Glob l.prog w K mg base CX0 1 "_law_tails" ["_law_arrows"] (sp_law_tails T K) f_law_tails _ := ⟨ok_law_tails (T := T) F_law_tails bi, PySem.W.mg_of X G a_law_tails, k_law_tails, b_law_tails⟩
  have G_law_heads : Glob l.prog w K mg base CX0 1 "_law_heads" ["_law_arrows"] (sp_law_heads T K) f_law_heads _ := ⟨ok_law_heads (T := T) F_law_heads bi, PySem.W.mg_of X G a_law_heads, k_law_heads, b_law_heads⟩
  have G_law_parted : Glob l.prog w K mg base CX0 1 "_law_parted" ["_law_row_here", "_law_keep"] (sp_law_parted T K) f_law_parted _ := ⟨ok_law_parted (T := T) F_law_parted bi, PySem.W.mg_of X G a_law_parted, k_law_parted, b_law_parted⟩
  have G_Field_untie : MGlob l.prog w K mg base (L2.CX l.prog w) 2 (T.cls true) "untie" ["self", "low"] (sp_Field_untie T K) f_Field_untie _ := ⟨ok_Field_untie (T := T) F_Field_untie bi G_Body_known_true X_NotTied kl_true, ⟨mt_Field_untie_true, fn_Field_untie, k_Field_untie⟩, b_Field_untie⟩
  have G_law_head : Glob l.prog w K mg base CX0 1 "_law_head" ["_law_arrows", "_law_tail"] (sp_law_head T K) f_law_head _ := ⟨ok_law_head (T := T) F_law_head bi, PySem.W.mg_of X G a_law_head, k_law_head, b_law_head⟩
  have G_law_next : Glob l.prog w K mg base CX0 2 "_law_next" ["_law_rows_here", "_law_arrows", "_law_tail"] (sp_law_next T K) f_law_next _ := ⟨ok_law_next (T := T) F_law_next bi G_law_head G_law_tails, PySem.W.mg_of X G a_law_next, k_law_next, b_law_next⟩
  have G_law_ringed : Glob l.prog w K mg base CX0 3 "_law_ringed" ["_law_rows_here", "_law_arrows"] (sp_law_ringed T K) f_law_ringed _ := ⟨ok_law_ringed (T := T) F_law_ringed bi G_law_tails G_law_next G_law_parted, PySem.W.mg_of X G a_law_ringed, k_law_ringed, b_law_ringed⟩
  have G_led : Glob l.prog w K mg base CX0 1 "led" ["came", "low", "here"] (sp_led T K) f_led _ := ⟨ok_led (T := T) F_led bi, PySem.W.mg_of X G a_led, k_led, b_led⟩
  have G_Field_steps : MGlob l.prog w K mg base CX0 1 (T.cls true) "steps" ["self", "tail"] (sp_Field_steps T K) f_Field_steps _ := ⟨ok_Field_steps (T := T) F_Field_steps bi kl_true, ⟨mt_Field_steps_true, fn_Field_steps, k_Field_steps⟩, b_Field_steps⟩
  have G_Field_ring_with : MGlob l.prog w K mg base CX0 2 (T.cls true) "ring_with" ["self", "low", "high"] (sp_Field_ring_with T K) f_Field_ring_with _ := ⟨ok_Field_ring_with (T := T) F_Field_ring_with bi G_led G_Field_steps kl_true, ⟨mt_Field_ring_with_true, fn_Field_ring_with, k_Field_ring_with⟩, b_Field_ring_with⟩
  have G_Field_tie : MGlob l.prog w K mg base (L2.CX l.prog w) 3 (T.cls true) "tie" ["self", "low", "high"] (sp_Field_tie T K) f_Field_tie _ := ⟨ok_Field_tie (T := T) F_Field_tie bi G_Body_known_true G_Field_in_arrow G_Field_ring_with X_NotFace X_Tied kl_true XO_RingOfArrows XG_RingOfArrows XI_RingOfArrows, ⟨mt_Field_tie_true, fn_Field_tie, k_Field_tie⟩, b_Field_tie⟩
  have G_law_tied_or_ring : Glob l.prog w K mg base CX0 4 "_law_tied_or_ring" ["_law_field", "_law_low", "_law_high"] (sp_law_tied_or_ring T K) f_law_tied_or_ring _ := ⟨ok_law_tied_or_ring (T := T) F_law_tied_or_ring bi G_Field_tie kl_true em XG_RingOfArrows, PySem.W.mg_of X G a_law_tied_or_ring, k_law_tied_or_ring, b_law_tied_or_ring⟩
  have G_law_whole : Glob l.prog w K mg base CX0 1 "_law_whole" ["_law_found"] (sp_law_whole T K) f_law_whole _ := ⟨ok_law_whole (T := T) F_law_whole bi, PySem.W.mg_of X G a_law_whole, k_law_whole, b_law_whole⟩
  have G_law_row : Glob l.prog w K mg base CX0 2 "_law_row" ["_law_found"] (sp_law_row T K) f_law_row _ := ⟨ok_law_row (T := T) F_law_row bi G_law_whole, PySem.W.mg_of X G a_law_row, k_law_row, b_law_row⟩
  have G_law_same : Glob l.prog w K mg base CX0 3 "_law_same" ["_law_found", "_law_due"] (sp_law_same T K) f_law_same _ := ⟨ok_law_same (T := T) F_law_same bi G_law_row, PySem.W.mg_of X G a_law_same, k_law_same, b_law_same⟩
  have G_Body_coming_true : MGlob l.prog w K mg base CX0 1 (T.cls true) "coming" ["self"] (sp_Body_coming true T K) f_Body_coming _ := ⟨ok_Body_coming (t := true) (T := T) F_Body_coming bi kl_true, ⟨mt_Body_coming_true, fn_Body_coming, k_Body_coming⟩, b_Body_coming⟩
  have G_Body_stands_true : MGlob l.prog w K mg base CX0 1 (T.cls true) "stands" ["self", "cell"] (sp_Body_stands true T K) f_Body_stands _ := ⟨ok_Body_stands (t := true) (T := T) F_Body_stands bi kl_true, ⟨mt_Body_stands_true, fn_Body_stands, k_Body_stands⟩, b_Body_stands⟩
  have G_law_truth : Glob l.prog w K mg base CX0 1 "_law_truth" ["_law_found", "_law_due"] (sp_law_truth T K) f_law_truth _ := ⟨ok_law_truth (T := T) F_law_truth bi, PySem.W.mg_of X G a_law_truth, k_law_truth, b_law_truth⟩
  have G_Body_rank_true : MGlob l.prog w K mg base (L2.CX l.prog w) 2 (T.cls true) "rank" ["self", "cell"] (sp_Body_rank true T K) f_Body_rank _ := ⟨ok_Body_rank (t := true) (T := T) F_Body_rank bi G_Body_known_true kl_true, ⟨mt_Body_rank_true, fn_Body_rank, k_Body_rank⟩, b_Body_rank⟩
  have G_Body_border_true : MGlob l.prog w K mg base (L2.CX l.prog w) 2 (T.cls true) "border" ["self", "cell"] (sp_Body_border true T K) f_Body_border _ := ⟨ok_Body_border (t := true) (T := T) F_Body_border bi G_Body_known_true kl_true, ⟨mt_Body_border_true, fn_Body_border, k_Body_border⟩, b_Body_border⟩
  have G_law_cells_kept_true : Glob l.prog w K mg base CX0 4 "_law_cells_kept" ["_law_body", "_law_rows_here"] (sp_law_cells_kept true T K) f_law_cells_kept _ := ⟨ok_law_cells_kept (t := true) (T := T) F_law_cells_kept bi G_Body_cells_true G_law_here G_law_same G_Body_coming_true G_Body_stands_true G_law_truth G_Body_rank_true G_law_whole G_Body_border_true kl_true, PySem.W.mg_of X G a_law_cells_kept, k_law_cells_kept, b_law_cells_kept⟩
  have G_Field_tails : MGlob l.prog w K mg base CX0 1 (T.cls true) "tails" ["self"] (sp_Field_tails T K) f_Field_tails _ := ⟨ok_Field_tails (T := T) F_Field_tails bi kl_true, ⟨mt_Field_tails_true, fn_Field_tails, k_Field_tails⟩, b_Field_tails⟩
  have G_Field_arrows : MGlob l.prog w K mg base CX0 2 (T.cls true) "arrows" ["self"] (sp_Field_arrows T K) f_Field_arrows _ := ⟨ok_Field_arrows (T := T) F_Field_arrows bi G_Field_tails kl_true, ⟨mt_Field_arrows_true, fn_Field_arrows, k_Field_arrows⟩, b_Field_arrows⟩
  have G_law_pairs : Glob l.prog w K mg base CX0 2 "_law_pairs" ["_law_found", "_law_due"] (sp_law_pairs T K) f_law_pairs _ := ⟨ok_law_pairs (T := T) F_law_pairs bi G_law_whole, PySem.W.mg_of X G a_law_pairs, k_law_pairs, b_law_pairs⟩
  have G_law_kept : Glob l.prog w K mg base CX0 5 "_law_kept" ["_law_field", "_law_rows_here", "_law_arrows"] (sp_law_kept T K) f_law_kept _ := ⟨ok_law_kept (T := T) F_law_kept bi G_law_cells_kept_true G_Field_arrows G_law_pairs kl_true, PySem.W.mg_of X G a_law_kept, k_law_kept, b_law_kept⟩
  exact ok_law (T := T) F_law bi G_law_bag G_law_rows N_Field G_law_fill_true G_law_pull G_law_tails G_law_heads G_law_here G_law_parted G_Field_untie G_law_ringed G_law_tied_or_ring G_law_kept kl_true
end SB
open PySem PySem.W PyProof.Rows
set_option maxRecDepth 100000 in
set_option maxHeartbeats 0 in
theorem PySem.Challenge.cw_slimbody_k15_whole_ring_or_arrow_holds : PySem.Challenge.rw_slimbody_k15_whole_ring_or_arrow.Holds := by
  w_on; o_law; k_head; (case hw => w_witness2)
  k_fill
  refine L2.walk_of (l := PySem.Challenge.rw_slimbody_k15_whole_ring_or_arrow) (n := 63) (k := 6) (x := "_law_script") (CX := fun _ => L2.CX0) (sp := fun w => SB.sp_law ⟨fun _ => 0, 0, 0, 0, 0, 0, 0, 0, 0⟩ _) rfl (by decide) rfl ⟨rfl, by decide, by decide⟩ (fun w h Y => PySem.W.kIn_of Y) ?F (fun _ H a ns hl _ hS => ⟨H, [], .ref a, ns, rfl, ⟨L2.Same.refl _, (fun _ h => nomatch h), trivial⟩, ⟨a, rfl, hS, hl⟩, by rw [SB.law_true ns]; exact fun _ _ _ _ => rfl⟩) (fun _ _ _ _ _ h => h)
  case F =>
    intro w mg fa h KX G hmg
    refine' SB.all_mk KX G hmg ?a_law_bag ?l_law_bag ?c_law_bag ?k_law_bag ?a_law_pull ?l_law_pull ?c_law_pull ?k_law_pull ?a_law_stock ?l_law_stock ?c_law_stock ?k_law_stock ?a_law_rank ?l_law_rank ?c_law_rank ?k_law_rank ?a_law_join ?l_law_join ?c_law_join ?k_law_join ?a_law_here ?l_law_here ?c_law_here ?k_law_here ?a_law_some ?l_law_some ?c_law_some ?k_law_some ?a_law_edge ?l_law_edge ?c_law_edge ?k_law_edge ?a_law_edge_by ?l_law_edge_by ?c_law_edge_by ?k_law_edge_by ?a_law_rows ?l_law_rows ?c_law_rows ?k_law_rows ?a_is_sum ?l_is_sum ?c_is_sum ?k_is_sum ?a_checked ?l_checked ?c_checked ?k_checked ?l_Body_known ?c_Body_known ?k_Body_known ?l_Body_asked ?c_Body_asked ?k_Body_asked ?l_Body_ranked ?c_Body_ranked ?k_Body_ranked ?a_joined ?l_joined ?c_joined ?k_joined ?l_Body_edge_of ?c_Body_edge_of ?k_Body_edge_of ?l_Body_put ?c_Body_put ?k_Body_put ?l_Field_in_arrow ?c_Field_in_arrow ?k_Field_in_arrow ?l_Field_loose ?c_Field_loose ?k_Field_loose ?l_Body_cells ?c_Body_cells ?k_Body_cells ?l_Body_over ?c_Body_over ?k_Body_over ?l_Body_drop ?c_Body_drop ?k_Body_drop ?l_Body_take ?c_Body_take ?k_Body_take ?a_law_fill ?l_law_fill ?c_law_fill ?k_law_fill ?a_law_tails ?l_law_tails ?c_law_tails ?k_law_tails ?a_law_heads ?l_law_heads ?c_law_heads ?k_law_heads ?a_law_parted ?l_law_parted ?c_law_parted ?k_law_parted ?l_Field_untie ?c_Field_untie ?k_Field_untie ?a_law_head ?l_law_head ?c_law_head ?k_law_head ?a_law_next ?l_law_next ?c_law_next ?k_law_next ?a_law_ringed ?l_law_ringed ?c_law_ringed ?k_law_ringed ?a_led ?l_led ?c_led ?k_led ?l_Field_steps ?c_Field_steps ?k_Field_steps ?l_Field_ring_with ?c_Field_ring_with ?k_Field_ring_with ?l_Field_tie ?c_Field_tie ?k_Field_tie ?a_law_tied_or_ring ?l_law_tied_or_ring ?c_law_tied_or_ring ?k_law_tied_or_ring ?a_law_whole ?l_law_whole ?c_law_whole ?k_law_whole ?a_law_row ?l_law_row ?c_law_row ?k_law_row ?a_law_same ?l_law_same ?c_law_same ?k_law_same ?l_Body_coming ?c_Body_coming ?k_Body_coming ?l_Body_stands ?c_Body_stands ?k_Body_stands ?a_law_truth ?l_law_truth ?c_law_truth ?k_law_truth ?l_Body_rank ?c_Body_rank ?k_Body_rank ?l_Body_border ?c_Body_border ?k_Body_border ?a_law_cells_kept ?l_law_cells_kept ?c_law_cells_kept ?k_law_cells_kept ?l_Field_tails ?c_Field_tails ?k_Field_tails ?l_Field_arrows ?c_Field_arrows ?k_Field_arrows ?a_law_pairs ?l_law_pairs ?c_law_pairs ?k_law_pairs ?a_law_kept ?l_law_kept ?c_law_kept ?k_law_kept ?a_law ?l_law ?c_law ?k_law ?l_Field_init ?c_Field_init ?k_Field_init ?l_Body_init ?c_Body_init ?k_Body_init ?l_RingOfArrows_init ?c_RingOfArrows_init ?k_RingOfArrows_init ?ca_Body ?pg_Body ?hd_Body ?po_Body ?sa_Body ?na_Body_ranks ?na_Body_edges ?na_Body_after ?ca_Field ?pg_Field ?hd_Field ?po_Field ?sa_Field ?na_Field_ranks ?na_Field_edges ?na_Field_after ?na_Field_ahead ?na_Field_behind ?mk_Field ?mi_Field ?mf_Field ?mp_Field ?rdB ?gaB ?atB ?fiB ?mt_Body_known_true ?mt_Body_asked_true ?mt_Body_ranked_true ?mt_Body_edge_of_true ?mt_Body_put_true ?mt_Field_in_arrow_true ?mt_Field_loose_true ?mt_Body_cells_true ?mt_Body_over_true ?mt_Body_drop_true ?mt_Body_take_true ?mt_Field_untie_true ?mt_Field_steps_true ?mt_Field_ring_with_true ?mt_Field_tie_true ?mt_Body_coming_true ?mt_Body_stands_true ?mt_Body_rank_true ?mt_Body_border_true ?mt_Field_tails_true ?mt_Field_arrows_true ?fn_Body_asked ?fn_Body_border ?fn_Body_cells ?fn_Body_coming ?fn_Body_drop ?fn_Body_edge_of ?fn_Body_known ?fn_Body_over ?fn_Body_put ?fn_Body_rank ?fn_Body_ranked ?fn_Body_stands ?fn_Body_take ?fn_Field_arrows ?fn_Field_in_arrow ?fn_Field_loose ?fn_Field_ring_with ?fn_Field_steps ?fn_Field_tails ?fn_Field_tie ?fn_Field_untie ?ca_RingOfArrows ?xl_RingOfArrows ?xr_RingOfArrows ?xs_RingOfArrows ?xe_RingOfArrows ?xt_RingOfArrows ?xk_RingOfArrows ?xn_RingOfArrows ?xa_RingOfArrows ?xg_RingOfArrows ?xh_RingOfArrows ?xi_RingOfArrows ?xy_RingOfArrows ?ee_RingOfArrows ?eh_RingOfArrows ?et_RingOfArrows ?em_RingOfArrows_RingOfArrows ?ca_NotASum ?cx_NotASum ?ck_NotASum ?cb_NotASum ?ct_NotASum ?ca_NoCell ?cx_NoCell ?ck_NoCell ?cb_NoCell ?ct_NoCell ?ca_OtherRank ?cx_OtherRank ?ck_OtherRank ?cb_OtherRank ?ct_OtherRank ?ca_BadRank ?cx_BadRank ?ck_BadRank ?cb_BadRank ?ct_BadRank ?ca_Full ?cx_Full ?ck_Full ?cb_Full ?ct_Full ?ca_OpenBorder ?cx_OpenBorder ?ck_OpenBorder ?cb_OpenBorder ?ct_OpenBorder ?ca_Tied ?cx_Tied ?ck_Tied ?cb_Tied ?ct_Tied ?ca_Covered ?cx_Covered ?ck_Covered ?cb_Covered ?ct_Covered ?ca_NotTied ?cx_NotTied ?ck_NotTied ?cb_NotTied ?ct_NotTied ?ca_NotFace ?cx_NotFace ?ck_NotFace ?cb_NotFace ?ct_NotFace ?z_len ?z_range ?z_sorted ?z_list ?z_isinstance ?z_int ?z_bool ?z_enumerate ?z_tuple ?z_HIGHEST ?zr_HIGHEST ?z_MOST ?zr_MOST
    (case a_law_bag => k_is)
    (case a_law_pull => k_is)
    (case a_law_stock => k_is)
    (case a_law_rank => k_is)
    (case a_law_join => k_is)
    (case a_law_here => k_is)
    (case a_law_some => k_is)
    (case a_law_edge => k_is)
    (case a_law_edge_by => k_is)
    (case a_law_rows => k_is)
    (case a_is_sum => k_is)
    (case a_checked => k_is)
    (case a_joined => k_is)
    (case a_law_fill => k_is)
    (case a_law_tails => k_is)
    (case a_law_heads => k_is)
    (case a_law_parted => k_is)
    (case a_law_head => k_is)
    (case a_law_next => k_is)
    (case a_law_ringed => k_is)
    (case a_led => k_is)
    (case a_law_tied_or_ring => k_is)
    (case a_law_whole => k_is)
    (case a_law_row => k_is)
    (case a_law_same => k_is)
    (case a_law_truth => k_is)
    (case a_law_cells_kept => k_is)
    (case a_law_pairs => k_is)
    (case a_law_kept => k_is)
    (case a_law => k_is)
    (case ca_Body => k_is)
    (case ca_Field => k_is)
    (case ca_RingOfArrows => k_is)
    (case ca_NotASum => k_is)
    (case ca_NoCell => k_is)
    (case ca_OtherRank => k_is)
    (case ca_BadRank => k_is)
    (case ca_Full => k_is)
    (case ca_OpenBorder => k_is)
    (case ca_Tied => k_is)
    (case ca_Covered => k_is)
    (case ca_NotTied => k_is)
    (case ca_NotFace => k_is)
    (case mi_Field => k_is)
    (case fiB => k_is)
    (case mt_Body_known_true => k_is)
    (case mt_Body_asked_true => k_is)
    (case mt_Body_ranked_true => k_is)
    (case mt_Body_edge_of_true => k_is)
    (case mt_Body_put_true => k_is)
    (case mt_Field_in_arrow_true => k_is)
    (case mt_Field_loose_true => k_is)
    (case mt_Body_cells_true => k_is)
    (case mt_Body_over_true => k_is)
    (case mt_Body_drop_true => k_is)
    (case mt_Body_take_true => k_is)
    (case mt_Field_untie_true => k_is)
    (case mt_Field_steps_true => k_is)
    (case mt_Field_ring_with_true => k_is)
    (case mt_Field_tie_true => k_is)
    (case mt_Body_coming_true => k_is)
    (case mt_Body_stands_true => k_is)
    (case mt_Body_rank_true => k_is)
    (case mt_Body_border_true => k_is)
    (case mt_Field_tails_true => k_is)
    (case mt_Field_arrows_true => k_is)
    (case xi_RingOfArrows => k_is)
    (case l_law_bag => k_is)
    (case l_law_pull => k_is)
    (case l_law_stock => k_is)
    (case l_law_rank => k_is)
    (case l_law_join => k_is)
    (case l_law_here => k_is)
    (case l_law_some => k_is)
    (case l_law_edge => k_is)
    (case l_law_edge_by => k_is)
    (case l_law_rows => k_is)
    (case l_is_sum => k_is)
    (case l_checked => k_is)
    (case l_Body_known => k_is)
    (case l_Body_asked => k_is)
    (case l_Body_ranked => k_is)
    (case l_joined => k_is)
    (case l_Body_edge_of => k_is)
    (case l_Body_put => k_is)
    (case l_Field_in_arrow => k_is)
    (case l_Field_loose => k_is)
    (case l_Body_cells => k_is)
    (case l_Body_over => k_is)
    (case l_Body_drop => k_is)
    (case l_Body_take => k_is)
    (case l_law_fill => k_is)
    (case l_law_tails => k_is)
    (case l_law_heads => k_is)
    (case l_law_parted => k_is)
    (case l_Field_untie => k_is)
    (case l_law_head => k_is)
    (case l_law_next => k_is)
    (case l_law_ringed => k_is)
    (case l_led => k_is)
    (case l_Field_steps => k_is)
    (case l_Field_ring_with => k_is)
    (case l_Field_tie => k_is)
    (case l_law_tied_or_ring => k_is)
    (case l_law_whole => k_is)
    (case l_law_row => k_is)
    (case l_law_same => k_is)
    (case l_Body_coming => k_is)
    (case l_Body_stands => k_is)
    (case l_law_truth => k_is)
    (case l_Body_rank => k_is)
    (case l_Body_border => k_is)
    (case l_law_cells_kept => k_is)
    (case l_Field_tails => k_is)
    (case l_Field_arrows => k_is)
    (case l_law_pairs => k_is)
    (case l_law_kept => k_is)
    (case l_law => k_is)
    (case l_Field_init => k_is)
    (case l_Body_init => k_is)
    (case l_RingOfArrows_init => k_is)
    (case c_law_bag => k_is)
    (case k_law_bag => k_is)
    (case c_law_pull => k_is)
    (case k_law_pull => k_is)
    (case c_law_stock => k_is)
    (case k_law_stock => k_is)
    (case c_law_rank => k_is)
    (case k_law_rank => k_is)
    (case c_law_join => k_is)
    (case k_law_join => k_is)
    (case c_law_here => k_is)
    (case k_law_here => k_is)
    (case c_law_some => k_is)
    (case k_law_some => k_is)
    (case c_law_edge => k_is)
    (case k_law_edge => k_is)
    (case c_law_edge_by => k_is)
    (case k_law_edge_by => k_is)
    (case c_law_rows => k_is)
    (case k_law_rows => k_is)
    (case c_is_sum => k_is)
    (case k_is_sum => k_is)
    (case c_checked => k_is)
    (case k_checked => k_is)
    (case c_Body_known => k_is)
    (case k_Body_known => k_is)
    (case c_Body_asked => k_is)
    (case k_Body_asked => k_is)
    (case c_Body_ranked => k_is)
    (case k_Body_ranked => k_is)
    (case c_joined => k_is)
    (case k_joined => k_is)
    (case c_Body_edge_of => k_is)
    (case k_Body_edge_of => k_is)
    (case c_Body_put => k_is)
    (case k_Body_put => k_is)
    (case c_Field_in_arrow => k_is)
    (case k_Field_in_arrow => k_is)
    (case c_Field_loose => k_is)
    (case k_Field_loose => k_is)
    (case c_Body_cells => k_is)
    (case k_Body_cells => k_is)
    (case c_Body_over => k_is)
    (case k_Body_over => k_is)
    (case c_Body_drop => k_is)
    (case k_Body_drop => k_is)
    (case c_Body_take => k_is)
    (case k_Body_take => k_is)
    (case c_law_fill => k_is)
    (case k_law_fill => k_is)
    (case c_law_tails => k_is)
    (case k_law_tails => k_is)
    (case c_law_heads => k_is)
    (case k_law_heads => k_is)
    (case c_law_parted => k_is)
    (case k_law_parted => k_is)
    (case c_Field_untie => k_is)
    (case k_Field_untie => k_is)
    (case c_law_head => k_is)
    (case k_law_head => k_is)
    (case c_law_next => k_is)
    (case k_law_next => k_is)
    (case c_law_ringed => k_is)
    (case k_law_ringed => k_is)
    (case c_led => k_is)
    (case k_led => k_is)
    (case c_Field_steps => k_is)
    (case k_Field_steps => k_is)
    (case c_Field_ring_with => k_is)
    (case k_Field_ring_with => k_is)
    (case c_Field_tie => k_is)
    (case k_Field_tie => k_is)
    (case c_law_tied_or_ring => k_is)
    (case k_law_tied_or_ring => k_is)
    (case c_law_whole => k_is)
    (case k_law_whole => k_is)
    (case c_law_row => k_is)
    (case k_law_row => k_is)
    (case c_law_same => k_is)
    (case k_law_same => k_is)
    (case c_Body_coming => k_is)
    (case k_Body_coming => k_is)
    (case c_Body_stands => k_is)
    (case k_Body_stands => k_is)
    (case c_law_truth => k_is)
    (case k_law_truth => k_is)
    (case c_Body_rank => k_is)
    (case k_Body_rank => k_is)
    (case c_Body_border => k_is)
    (case k_Body_border => k_is)
    (case c_law_cells_kept => k_is)
    (case k_law_cells_kept => k_is)
    (case c_Field_tails => k_is)
    (case k_Field_tails => k_is)
    (case c_Field_arrows => k_is)
    (case k_Field_arrows => k_is)
    (case c_law_pairs => k_is)
    (case k_law_pairs => k_is)
    (case c_law_kept => k_is)
    (case k_law_kept => k_is)
    (case c_law => k_is)
    (case k_law => k_is)
    (case c_Field_init => k_is)
    (case k_Field_init => k_is)
    (case c_Body_init => k_is)
    (case k_Body_init => k_is)
    (case c_RingOfArrows_init => k_is)
    (case k_RingOfArrows_init => k_is)
    (case pg_Body => k_is)
    (case hd_Body => k_is)
    (case po_Body => k_is)
    (case sa_Body => k_is)
    (case na_Body_ranks => k_is)
    (case na_Body_edges => k_is)
    (case na_Body_after => k_is)
    (case pg_Field => k_is)
    (case hd_Field => k_is)
    (case po_Field => k_is)
    (case sa_Field => k_is)
    (case na_Field_ranks => k_is)
    (case na_Field_edges => k_is)
    (case na_Field_after => k_is)
    (case na_Field_ahead => k_is)
    (case na_Field_behind => k_is)
    (case mk_Field => k_is)
    (case mf_Field => k_is)
    (case mp_Field => k_is)
    (case rdB => k_is)
    (case gaB => k_is)
    (case atB => k_is)
    (case fn_Body_asked => k_is)
    (case fn_Body_border => k_is)
    (case fn_Body_cells => k_is)
    (case fn_Body_coming => k_is)
    (case fn_Body_drop => k_is)
    (case fn_Body_edge_of => k_is)
    (case fn_Body_known => k_is)
    (case fn_Body_over => k_is)
    (case fn_Body_put => k_is)
    (case fn_Body_rank => k_is)
    (case fn_Body_ranked => k_is)
    (case fn_Body_stands => k_is)
    (case fn_Body_take => k_is)
    (case fn_Field_arrows => k_is)
    (case fn_Field_in_arrow => k_is)
    (case fn_Field_loose => k_is)
    (case fn_Field_ring_with => k_is)
    (case fn_Field_steps => k_is)
    (case fn_Field_tails => k_is)
    (case fn_Field_tie => k_is)
    (case fn_Field_untie => k_is)
    (case xl_RingOfArrows => k_is)
    (case xr_RingOfArrows => decide +kernel)
    (case xs_RingOfArrows => k_is)
    (case xe_RingOfArrows => k_is)
    (case xt_RingOfArrows => k_is)
    (case xk_RingOfArrows => k_is)
    (case xn_RingOfArrows => k_is)
    (case xa_RingOfArrows => k_is)
    (case xg_RingOfArrows => k_is)
    (case xh_RingOfArrows => k_is)
    (case xy_RingOfArrows => k_is)
    (case ee_RingOfArrows => k_is)
    (case eh_RingOfArrows => k_is)
    (case et_RingOfArrows => k_is)
    (case em_RingOfArrows_RingOfArrows => k_is)
    (case cx_NotASum => k_exc)
    (case ck_NotASum => k_is)
    (case cb_NotASum => k_is)
    (case ct_NotASum => k_is)
    (case cx_NoCell => k_exc)
    (case ck_NoCell => k_is)
    (case cb_NoCell => k_is)
    (case ct_NoCell => k_is)
    (case cx_OtherRank => k_exc)
    (case ck_OtherRank => k_is)
    (case cb_OtherRank => k_is)
    (case ct_OtherRank => k_is)
    (case cx_BadRank => k_exc)
    (case ck_BadRank => k_is)
    (case cb_BadRank => k_is)
    (case ct_BadRank => k_is)
    (case cx_Full => k_exc)
    (case ck_Full => k_is)
    (case cb_Full => k_is)
    (case ct_Full => k_is)
    (case cx_OpenBorder => k_exc)
    (case ck_OpenBorder => k_is)
    (case cb_OpenBorder => k_is)
    (case ct_OpenBorder => k_is)
    (case cx_Tied => k_exc)
    (case ck_Tied => k_is)
    (case cb_Tied => k_is)
    (case ct_Tied => k_is)
    (case cx_Covered => k_exc)
    (case ck_Covered => k_is)
    (case cb_Covered => k_is)
    (case ct_Covered => k_is)
    (case cx_NotTied => k_exc)
    (case ck_NotTied => k_is)
    (case cb_NotTied => k_is)
    (case ct_NotTied => k_is)
    (case cx_NotFace => k_exc)
    (case ck_NotFace => k_is)
    (case cb_NotFace => k_is)
    (case ct_NotFace => k_is)
    (case z_len => k_is)
    (case z_range => k_is)
    (case z_sorted => k_is)
    (case z_list => k_is)
    (case z_isinstance => k_is)
    (case z_int => k_is)
    (case z_bool => k_is)
    (case z_enumerate => k_is)
    (case z_tuple => k_is)
    (case z_HIGHEST => k_is)
    (case zr_HIGHEST => exact ⟨_, rfl⟩)
    (case z_MOST => k_is)
    (case zr_MOST => exact ⟨_, rfl⟩)
