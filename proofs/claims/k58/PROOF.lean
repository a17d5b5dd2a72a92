import PyProof.Rows.All
import Wide.All
import OpenK.AllK
import Wide.FinOn
import HandS.ForMost
import HandS.ForExc
import HandS.SortInts
import HandS.IsInst
import HandS.Evl
import HandS.Steps
import HandS.Style
import HandS.Conv
import HandS.TryOnly
import HandS.TryMany
import HandS.ExcOwn
import HandS.ExcField
import HandS.ExcInit
import HandS.ClsMeth
import HandS.SortRule
import HandS.More
import HandS.Rev
import HandS.RevRange
import HandS.Deep
import HandS.TupAny
import HandS.Zip
import KE.GoesRaise
import HandS.Text
import HandS.FStr
import PyProof.NeKinds
import PyProof.StrBlock2
import KE.KStateDown
import HandS.ExcIs
import HandS.Defaults
import HandS.Head0
import HandS.Head1
import HandS.Head2
import HandS.HeadEnd
import HandS.HeadHook1
import HandS.HeadHook2
import KE.IntTextLaws
import PySem.Challenge.RW_slimbody_k58_sums_written_and_read
set_option Elab.async false
set_option linter.all false
set_option maxRecDepth 100000
set_option maxHeartbeats 4000000
namespace SB
open PySem PySem.Spec PyProof.Rows L2

/-! ## Results of mirrors -/
/-- the refusals -/
inductive Exn where
  | plain (c : Nat) | ring (l : List Int) | many (n : Int) | atRow (n : Int)
  deriving DecidableEq
inductive Res (ω α : Type) where
  | ok (a : α) | ex (e : Exn) (w : ω) | bad
namespace Res
variable {ω ω' α β : Type}
def bind (m : Res ω α) (f : α → Res ω β) : Res ω β := match m with
  | ok a => f a
  | ex e w => ex e w
  | bad => bad
/-- an own state at a refusal in place of the callee's -/
def lift (g : ω' → ω) (m : Res ω' α) : Res ω α := match m with
  | ok a => ok a
  | ex e w => ex e (g w)
  | bad => bad
/-- no refusal is looked for -/
def noex (m : Res ω' α) : Res ω α := match m with
  | ok a => ok a
  | _ => bad
def wp (m : Res ω α) (Q : α → Prop) (E : Exn → ω → Prop) : Prop := match m with
  | ok a => Q a
  | ex e w => E e w
  | bad => False
theorem wp_bind {m : Res ω α} {f : α → Res ω β} {Q : β → Prop} {E : Exn → ω → Prop} (h : (bind m f).wp Q E) : m.wp (fun a => (f a).wp Q E) E := by
  cases m <;> exact h
theorem wp_mono {m : Res ω α} {Q Q' : α → Prop} {E E' : Exn → ω → Prop} (h : m.wp Q E) (hQ : ∀ a, Q a → Q' a) (hE : ∀ e w, E e w → E' e w) : m.wp Q' E' := by
  cases m with
  | ok a => exact hQ a h
  | ex e w => exact hE e w h
  | bad => exact h
theorem wp_lift {m : Res ω' α} {g : ω' → ω} {Q : α → Prop} {E : Exn → ω → Prop} (h : (lift g m).wp Q E) : m.wp Q (fun e w => E e (g w)) := by
  cases m <;> exact h
theorem wp_noex {m : Res ω' α} {Q : α → Prop} {E : Exn → ω → Prop} (h : (noex m : Res ω α).wp Q E) : m.wp Q (fun _ _ => False) := by
  cases m <;> exact h
end Res
open Res

/-! ## Heaps in pieces -/
def Dj (A B : Hp) : Prop := ∀ a o u, A a = some o → B a = some u → False
theorem Dj.symm {A B : Hp} (h : Dj A B) : Dj B A := fun a o u e e' => h a u o e' e
def one (p : Addr) (o : HO) : Hp := fun b => if b = p then some o else none
theorem one_same {p : Addr} {o : HO} : one p o p = some o := by unfold one; rw [if_pos rfl]
theorem one_some {p b : Addr} {o u : HO} (h : one p o b = some u) : b = p ∧ u = o := by
  unfold one at h
  by_cases e : b = p
  · rw [if_pos e] at h
    exact ⟨e, (Option.some.inj h).symm⟩
  · rw [if_neg e] at h
    cases h
def join (A B : Hp) : Hp := fun b => match A b with
  | some o => some o
  | none => B b
def St (H : Hp) : List Hp → Prop
  | [] => True
  | m :: ms => Same m H ∧ (∀ n ∈ ms, Dj m n) ∧ St H ms
theorem upd_none_ne {H : Hp} {p b : Addr} {o u : HO} (hp : H p = none) (h : H b = some u) : upd H p o b = some u := by
  rw [upd_ne (ne_of_none h hp)]
  exact h
theorem same_upd {H : Hp} {p : Addr} {o : HO} (hp : H p = none) : Same H (upd H p o) := fun b u e => upd_none_ne hp e
theorem Same.none_of {A B : Hp} {p : Addr} (h : Same A B) (hp : B p = none) : A p = none := h.free hp
theorem same_join_l {A B : Hp} : Same A (join A B) := fun a o e => by
  unfold join
  rw [e]
theorem same_join_r {A B : Hp} (d : Dj A B) : Same B (join A B) := fun a o e => by
  unfold join
  cases h : A a with
  | none => exact e
  | some u => exact (d a u o h e).elim
theorem join_some {A B : Hp} {a : Addr} {o : HO} (h : join A B a = some o) : A a = some o ∨ B a = some o := by
  unfold join at h
  cases e : A a with
  | none =>
    rw [e] at h
    exact .inr h
  | some u =>
    rw [e] at h
    exact .inl h
theorem upd_some {H : Hp} {a b : Addr} {o u : HO} (h : upd H a o b = some u) : (b = a ∧ u = o) ∨ (b ≠ a ∧ H b = some u) := by
  by_cases e : b = a
  · subst e
    rw [upd_same] at h
    exact .inl ⟨rfl, (Option.some.inj h).symm⟩
  · rw [upd_ne e] at h
    exact .inr ⟨e, h⟩
section
variable {H H' Hi m n : Hp} {R l l' : List Hp} {p a : Addr} {o u : HO}
theorem St.head (S : St H (m :: R)) : Same m H := S.1
theorem St.tail (S : St H (m :: R)) : St H R := S.2.2
theorem St.mem : ∀ {R : List Hp}, St H R → ∀ n ∈ R, Same n H
  | [], _, _, h => by cases h
  | m :: R, S, n, h => by
    cases h with
    | head => exact S.1
    | tail _ h => exact St.mem S.2.2 n h
theorem St.perm (q : l.Perm l') : St H l → St H l' := by
  induction q with
  | nil => exact id
  | cons x q ih => exact fun S => ⟨S.1, fun n hn => S.2.1 n (q.mem_iff.mpr hn), ih S.2.2⟩
  | swap x y l =>
    exact fun S => ⟨S.2.2.1, fun n hn => by
      cases hn with
      | head => exact (S.2.1 x List.mem_cons_self).symm
      | tail _ h => exact S.2.2.2.1 n h, S.1, fun n hn => S.2.1 n (List.mem_cons_of_mem _ hn), S.2.2.2.2⟩
  | trans _ _ i1 i2 => exact fun S => i2 (i1 S)
theorem perm_pick : ∀ (R : List Hp) (k : Nat) (hk : k < R.length), R.Perm (R[k] :: R.eraseIdx k)
  | [], _, h => absurd h (Nat.not_lt_zero _)
  | _ :: _, 0, _ => List.Perm.refl _
  | m :: R, k + 1, h => ((perm_pick R k (Nat.lt_of_succ_lt_succ h)).cons m).trans (List.Perm.swap _ _ _)
/-- the k-th piece behind the first is brought to the second place -/
theorem St.pick (S : St H (m :: R)) (k : Nat) (hk : k < R.length) : St H (m :: R[k] :: R.eraseIdx k) :=
  S.perm (List.Perm.cons m (perm_pick R k hk))
/-- a wider heap -/
theorem St.grow (S : St H R) (g : Same H H') : St H' R := by
  induction R with
  | nil => trivial
  | cons m R ih => exact ⟨S.1.trans g, S.2.1, ih S.2.2⟩
theorem St.new (S : St H (m :: R)) (hp : H p = none) : St (upd H p o) (upd m p o :: R) := by
  refine ⟨fun b u e => ?_, fun n hn b u v e e' => ?_, S.2.2.grow (same_upd hp)⟩
  · rcases upd_some e with ⟨rfl, rfl⟩ | ⟨hb, e⟩
    · exact upd_same
    · exact upd_none_ne hp (S.1 _ _ e)
  · rcases upd_some e with ⟨rfl, rfl⟩ | ⟨hb, e⟩
    · have z := St.mem S.2.2 n hn _ _ e'
      rw [hp] at z
      cases z
    · exact S.2.1 n hn b u v e e'
theorem St.newM (S : St H (m :: R)) (hp : H p = none) : St (upd H p o) (m :: one p o :: R) := by
  refine ⟨S.1.trans (same_upd hp), fun n hn => ?_, ?_, ?_, S.2.2.grow (same_upd hp)⟩
  · cases hn with
    | head =>
      exact fun b u v e e' => by
        obtain ⟨rfl, _⟩ := one_some e'
        have z := S.1 _ _ e
        rw [hp] at z
        cases z
    | tail _ hn => exact S.2.1 n hn
  · intro b u e
    obtain ⟨rfl, rfl⟩ := one_some e
    exact upd_same
  · intro n hn b u v e e'
    obtain ⟨rfl, _⟩ := one_some e
    have z := St.mem S.2.2 n hn _ _ e'
    rw [hp] at z
    cases z
/-- a new object that a call has made: frozen | owned -/
theorem St.got (S : St H (m :: R)) (g : Same H H') (hp : H p = none) (h : H' p = some o) : St H' (upd m p o :: R) := by
  refine ⟨fun b u e => ?_, fun n hn b u v e e' => ?_, S.2.2.grow g⟩
  · rcases upd_some e with ⟨rfl, rfl⟩ | ⟨hb, e⟩
    · exact h
    · exact g _ _ (S.1 _ _ e)
  · rcases upd_some e with ⟨rfl, rfl⟩ | ⟨hb, e⟩
    · have z := St.mem S.2.2 n hn _ _ e'
      rw [hp] at z
      cases z
    · exact S.2.1 n hn b u v e e'
/-- an object of the second piece is changed -/
theorem St.wr (S : St H (m :: n :: R)) (h : n a = some o) : St (upd H a u) (m :: upd n a u :: R) := by
  have key : ∀ q, Dj n q → ∀ b w, q b = some w → b ≠ a := fun q d b w e z => by
    subst z
    exact d _ _ _ h e
  refine ⟨fun b w e => ?_, fun q hq => ?_, fun b w e => ?_, fun q hq b w v e e' => ?_, ?_⟩
  · rw [upd_ne (key m (S.2.1 n List.mem_cons_self).symm b w e)]
    exact S.1 _ _ e
  · cases hq with
    | head =>
      exact fun b w v e e' => by
        rcases upd_some e' with ⟨rfl, rfl⟩ | ⟨hb, e'⟩
        · exact S.2.1 n List.mem_cons_self _ _ _ e h
        · exact S.2.1 n List.mem_cons_self _ _ _ e e'
    | tail _ hq => exact S.2.1 q (List.mem_cons_of_mem _ hq)
  · rcases upd_some e with ⟨rfl, rfl⟩ | ⟨hb, e⟩
    · exact upd_same
    · rw [upd_ne hb]
      exact S.2.2.1 _ _ e
  · rcases upd_some e with ⟨rfl, rfl⟩ | ⟨hb, e⟩
    · exact S.2.2.2.1 q hq _ _ _ h e'
    · exact S.2.2.2.1 q hq _ _ _ e e'
  · have : ∀ R : List Hp, (∀ q ∈ R, Dj n q) → St H R → St (upd H a u) R := by
      intro R
      induction R with
      | nil => exact fun _ _ => trivial
      | cons q R ih =>
        exact fun d S => ⟨fun b w e => by
          rw [upd_ne (key q (d q List.mem_cons_self) b w e)]
          exact S.1 _ _ e, S.2.1, ih (fun q hq => d q (List.mem_cons_of_mem _ hq)) S.2.2⟩
    exact this R S.2.2.2.1 S.2.2.2.2
theorem upd_one {p : Addr} {o u : HO} : upd (one p o) p u = one p u := by
  funext b
  unfold upd one
  split <;> rfl
theorem St.wr1 (S : St H (m :: one a o :: R)) : St (upd H a u) (m :: one a u :: R) := by
  have z := S.wr (u := u) one_same
  rw [upd_one] at z
  exact z
/-- the second piece is frozen -/
theorem St.frz (S : St H (m :: n :: R)) : St H (join m n :: R) := by
  refine ⟨fun b w e => ?_, fun q hq b w v e e' => ?_, S.2.2.2.2⟩
  · rcases join_some e with e | e
    · exact S.1 _ _ e
    · exact S.2.2.1 _ _ e
  · rcases join_some e with e | e
    · exact S.2.1 q (List.mem_cons_of_mem _ hq) _ _ _ e e'
    · exact S.2.2.2.1 q hq _ _ _ e e'
/-- two pieces as one -/
theorem St.join2 {q : Hp} (S : St H (m :: n :: q :: R)) : St H (m :: join n q :: R) := by
  refine ⟨S.1, fun r hr => ?_, S.2.2.frz⟩
  cases hr with
  | head =>
    exact fun b w v e e' => by
      rcases join_some e' with e' | e'
      · exact S.2.1 n List.mem_cons_self _ _ _ e e'
      · exact S.2.1 q (List.mem_cons_of_mem _ List.mem_cons_self) _ _ _ e e'
  | tail _ hr => exact S.2.1 r (List.mem_cons_of_mem _ (List.mem_cons_of_mem _ hr))
theorem St.dj (S : St H (m :: n :: R)) : Dj m n := S.2.1 n List.mem_cons_self
theorem St.second (S : St H (m :: n :: R)) : Same n H := S.2.2.1
/-- a piece that was lent as frozen is taken back -/
def minus (A B : Hp) : Hp := fun b => match B b with
  | some _ => none
  | none => A b
theorem minus_some {A B : Hp} {a : Addr} {o : HO} (h : minus A B a = some o) : A a = some o ∧ B a = none := by
  unfold minus at h
  cases e : B a with
  | none =>
    rw [e] at h
    exact ⟨h, rfl⟩
  | some u =>
    rw [e] at h
    cases h
theorem minus_of {A B : Hp} {a : Addr} {o : HO} (h : A a = some o) (hb : B a = none) : minus A B a = some o := by
  unfold minus
  rw [hb]
  exact h
theorem St.back (S : St H (m :: R)) (g : Same n m) (d : ∀ q ∈ R, Dj n q) : St H (minus m n :: n :: R) := by
  refine ⟨fun b w e => S.1 _ _ (minus_some e).1, fun q hq => ?_, g.trans S.1, d, S.2.2⟩
  cases hq with
  | head =>
    exact fun b w v e e' => by
      rw [(minus_some e).2] at e'
      cases e'
  | tail _ hq => exact fun b w v e e' => S.2.1 q hq _ _ _ (minus_some e).1 e'
theorem St.back1 (S : St H (m :: R)) (g : Same n m) : St H (minus m n :: n :: R) := S.back g fun q hq a o u e e' => S.2.1 q hq a o u (g _ _ e) e'
theorem same_minus (S : St H (m :: n :: R)) (g : Same (join m n) Hi) : Same m (minus Hi n) := fun b w e => by
  refine minus_of (g _ _ (same_join_l _ _ e)) ?_
  cases h : n b with
  | none => rfl
  | some v => exact (S.dj _ _ _ e h).elim
end

/-! ## Data and how the heap bears it -/
def All2 {α : Type} (P : V → α → Prop) : List V → List α → Prop
  | [], [] => True
  | v :: vs, x :: xs => P v x ∧ All2 P vs xs
  | _, _ => False
section
variable {α : Type} {P P' : V → α → Prop}
theorem All2.mono (f : ∀ v x, P v x → P' v x) : ∀ {vs : List V} {xs : List α}, All2 P vs xs → All2 P' vs xs
  | [], [], h => h
  | _ :: _, _ :: _, h => ⟨f _ _ h.1, All2.mono f h.2⟩
  | [], _ :: _, h => h.elim
  | _ :: _, [], h => h.elim
theorem All2.len : ∀ {vs : List V} {xs : List α}, All2 P vs xs → vs.length = xs.length
  | [], [], _ => rfl
  | _ :: vs, _ :: xs, h => by
    show vs.length + 1 = xs.length + 1
    rw [All2.len h.2]
  | [], _ :: _, h => h.elim
  | _ :: _, [], h => h.elim
theorem All2.get : ∀ {vs : List V} {xs : List α} {i : Nat} {x : α}, All2 P vs xs → xs[i]? = some x → ∃ v, vs[i]? = some v ∧ P v x
  | [], [], _, _, _, e => by cases e
  | v :: _, y :: _, 0, x, h, e => by
    cases e
    exact ⟨v, rfl, h.1⟩
  | _ :: vs, _ :: xs, i + 1, x, h, e => All2.get (i := i) h.2 e
  | [], _ :: _, _, _, h, _ => h.elim
  | _ :: _, [], _, _, h, _ => h.elim
theorem All2.getV : ∀ {vs : List V} {xs : List α} {i : Nat} {v : V}, All2 P vs xs → vs[i]? = some v → ∃ x, xs[i]? = some x ∧ P v x
  | [], [], _, _, _, e => by cases e
  | v :: _, y :: _, 0, x, h, e => by
    cases e
    exact ⟨y, rfl, h.1⟩
  | _ :: vs, _ :: xs, i + 1, x, h, e => All2.getV (i := i) h.2 e
  | [], _ :: _, _, _, h, _ => h.elim
  | _ :: _, [], _, _, h, _ => h.elim
theorem All2.append : ∀ {vs ws : List V} {xs ys : List α}, All2 P vs xs → All2 P ws ys → All2 P (vs ++ ws) (xs ++ ys)
  | [], _, [], _, _, h => h
  | _ :: _, _, _ :: _, _, h, k => ⟨h.1, All2.append h.2 k⟩
  | [], _, _ :: _, _, h, _ => h.elim
  | _ :: _, _, [], _, h, _ => h.elim
theorem All2.set {v : V} {x : α} (hp : P v x) : ∀ {vs : List V} {xs : List α} (i : Nat), All2 P vs xs → All2 P (vs.set i v) (xs.set i x)
  | [], [], _, h => h
  | _ :: _, _ :: _, 0, h => ⟨hp, h.2⟩
  | _ :: _, _ :: _, i + 1, h => ⟨h.1, All2.set hp i h.2⟩
  | [], _ :: _, _, h => h.elim
  | _ :: _, [], _, h => h.elim
theorem All2.take : ∀ {vs : List V} {xs : List α} (n : Nat), All2 P vs xs → All2 P (vs.take n) (xs.take n)
  | _, _, 0, _ => trivial
  | [], [], _ + 1, h => h
  | _ :: _, _ :: _, n + 1, h => ⟨h.1, All2.take n h.2⟩
  | [], _ :: _, _ + 1, h => h.elim
  | _ :: _, [], _ + 1, h => h.elim
theorem All2.drop : ∀ {vs : List V} {xs : List α} (n : Nat), All2 P vs xs → All2 P (vs.drop n) (xs.drop n)
  | _, _, 0, h => h
  | [], [], _ + 1, h => h
  | _ :: _, _ :: _, n + 1, h => All2.drop n h.2
  | [], _ :: _, _ + 1, h => h.elim
  | _ :: _, [], _ + 1, h => h.elim
end
class Rep (α : Type) where
  is : Hp → V → α → Prop
  mono : ∀ {A B : Hp} {v : V} {x : α}, Same A B → is A v x → is B v x
abbrev Is {α : Type} [Rep α] (A : Hp) (v : V) (x : α) : Prop := Rep.is A v x
theorem up {α : Type} [Rep α] {A B : Hp} {v : V} {x : α} (h : Is A v x) (e : Same A B) : Is B v x := Rep.mono e h
instance : Rep Int := ⟨fun _ v x => v = .int x, fun _ h => h⟩
instance : Rep Bool := ⟨fun _ v x => v = .bl x, fun _ h => h⟩
instance : Rep Unit := ⟨fun _ v _ => v = .non, fun _ h => h⟩
instance : Rep Str := ⟨fun _ v x => v = .str x, fun _ h => h⟩
instance {α : Type} [Rep α] : Rep (Option α) := ⟨fun A v x => match x with
  | none => v = .non
  | some y => v ≠ .non ∧ Rep.is A v y, fun {A B v x} e h => match x, h with
  | none, h => h
  | some _, h => ⟨h.1, Rep.mono e h.2⟩⟩
instance {α β : Type} [Rep α] [Rep β] : Rep (α × β) := ⟨fun A v x => ∃ a u w, v = .ref a ∧ A a = some (.tup [u, w]) ∧ Rep.is A u x.1 ∧ Rep.is A w x.2,
  fun e ⟨a, u, w, h1, h2, h3, h4⟩ => ⟨a, u, w, h1, e _ _ h2, Rep.mono e h3, Rep.mono e h4⟩⟩
/-- the items of a list, and its size -/
def OL {α : Type} [Rep α] (A : Hp) (vs : List V) (xs : List α) : Prop := All2 (Rep.is A) vs xs ∧ xs.length ≤ sizeLine
theorem OL.up {α : Type} [Rep α] {A B : Hp} {vs : List V} {xs : List α} (h : OL A vs xs) (e : Same A B) : OL B vs xs := ⟨h.1.mono fun _ _ h => Rep.mono e h, h.2⟩
theorem OL.len {α : Type} [Rep α] {A : Hp} {vs : List V} {xs : List α} (h : OL A vs xs) : vs.length = xs.length := h.1.len
theorem OL.szV {α : Type} [Rep α] {A : Hp} {vs : List V} {xs : List α} (h : OL A vs xs) : vs.length ≤ sizeLine := by
  rw [h.len]
  exact h.2
instance {α : Type} [Rep α] : Rep (List α) := ⟨fun A v xs => ∃ a vs, v = .ref a ∧ A a = some (.lst vs) ∧ OL A vs xs,
  fun e ⟨a, vs, h1, h2, h3⟩ => ⟨a, vs, h1, e _ _ h2, h3.up e⟩⟩
theorem all2_int {A : Hp} : ∀ {vs : List V} {ns : List Int}, All2 (Rep.is A) vs ns → vs = ns.map V.int
  | [], [], _ => rfl
  | v :: vs, n :: ns, h => by
    have h1 : v = .int n := h.1
    rw [h1, all2_int h.2]
    rfl
  | [], _ :: _, h => h.elim
  | _ :: _, [], h => h.elim
theorem int_all2 {A : Hp} : ∀ (ns : List Int), All2 (Rep.is A) (ns.map V.int) ns
  | [] => trivial
  | _ :: ns => ⟨rfl, int_all2 ns⟩
theorem OL.int {A : Hp} {vs : List V} {ns : List Int} (h : OL A vs ns) : vs = ns.map V.int := all2_int h.1
theorem int_ol {A : Hp} {ns : List Int} (h : ns.length ≤ sizeLine) : OL A (ns.map V.int) ns := ⟨int_all2 ns, h⟩
/-- a list of ints does not hang on the heap -/
theorem OL.any {A B : Hp} {vs : List V} {ns : List Int} (h : OL A vs ns) : OL B vs ns := by
  rw [h.int]
  exact int_ol h.2
/-- a list that is read at v in H, its items borne by A -/
def LA {α : Type} [Rep α] (A H : Hp) (v : V) (xs : List α) : Prop := ∃ a vs, v = .ref a ∧ H a = some (.lst vs) ∧ OL A vs xs
section
variable {α β : Type} [Rep α] [Rep β] {A B H H' : Hp} {v : V} {xs : List α} {R : List Hp} {p : Addr}
theorem la_of (S : St H (A :: R)) (h : Is A v xs) : LA A H v xs := by
  obtain ⟨a, vs, e, h1, h2⟩ := h
  exact ⟨a, vs, e, S.1 _ _ h1, h2⟩
theorem LA.up (h : LA A H v xs) (e : Same A B) (g : Same H H') : LA B H' v xs := by
  obtain ⟨a, vs, e1, h1, h2⟩ := h
  exact ⟨a, vs, e1, g _ _ h1, h2.up e⟩
theorem is_new {vs : List V} (h : OL A vs xs) (hp : A p = none) : Is (upd A p (.lst vs)) (.ref p) xs :=
  ⟨p, vs, rfl, upd_same, h.up (same_upd hp)⟩
theorem is_tup {x : α} {y : β} {u w : V} (h1 : Is A u x) (h2 : Is A w y) (hp : A p = none) : Is (upd A p (.tup [u, w])) (.ref p) (x, y) :=
  ⟨p, u, w, rfl, upd_same, Rep.mono (same_upd hp) h1, Rep.mono (same_upd hp) h2⟩
end
end SB

namespace SB
open PySem PySem.Spec PyProof.Rows L2 Res

/-! ## mirrors' words -/
section
variable {ω α β σT γ : Type}
def rangeL (lo hi : Int) : List Int := (List.range (hi - lo).toNat).map fun (i : Nat) => lo + (i : Int)
@[irreducible] def ixR (xs : List α) (i : Int) : Res ω α := match atI xs i with
  | some x => .ok x
  | none => .bad
@[irreducible] def mulR (a b : Int) : Res ω Int := if (-(2 ^ 64) < a ∧ a < 2 ^ 64) ∨ (-(2 ^ 64) < b ∧ b < 2 ^ 64) then .ok (a * b) else .bad
@[irreducible] def modR (a b : Int) : Res ω Int := if 0 < b then .ok (a % b) else .bad
@[irreducible] def divR (a b : Int) : Res ω Int := if 0 < b ∧ b < 1073741824 then .ok (a / b) else .bad
@[irreducible] def catR (xs ys : List α) : Res ω (List α) := if xs.length + ys.length ≤ sizeLine then .ok (xs ++ ys) else .bad
@[irreducible] def appR (xs : List α) (x : α) : Res ω (List α) := if xs.length < sizeLine then .ok (xs ++ [x]) else .bad
/-- a range's ends, in bounds -/
@[irreducible] def rgR (lo hi : Int) : Res ω (List Int) := if -(2 ^ 62) ≤ lo ∧ lo < 2 ^ 62 ∧ -(2 ^ 62) ≤ hi ∧ hi < 2 ^ 62 then .ok (rangeL lo hi) else .bad
/-- a range that a list may be made of -/
@[irreducible] def rlR (n : Int) : Res ω (List Int) := if n ≤ 1000000 ∧ -1000000 ≤ n then .ok (rangeL 0 n) else .bad
def andR (c : Bool) (m : Res ω Bool) : Res ω Bool := if c = true then m else .ok false
def orR (c : Bool) (m : Res ω Bool) : Res ω Bool := if c = true then .ok true else m
@[irreducible] def getR (x : Option α) : Res ω α := match x with
  | some y => .ok y
  | none => .bad
/-- a loop's turn: goes on, or hands back -/
inductive Fl (β σT : Type) where
  | next (s : σT) | ret (y : β)
def forM (body : α → σT → Res ω (Fl β σT)) : List α → σT → Res ω (Fl β σT)
  | [], s => .ok (.next s)
  | x :: xs, s => bind (body x s) fun r => match r with
    | .next s' => forM body xs s'
    | .ret y => .ok (.ret y)
def compM (t : α → Res ω Bool) (e : α → Res ω β) : List α → Res ω (List β)
  | [] => .ok []
  | x :: xs => bind (t x) fun b => if b = true then bind (e x) fun y => bind (compM t e xs) fun ys => .ok (y :: ys) else compM t e xs
end
def insI (x : Int) : List Int → List Int
  | [] => [x]
  | y :: ys => if x ≤ y then x :: y :: ys else y :: insI x ys
def sortI : List Int → List Int
  | [] => []
  | x :: xs => insI x (sortI xs)
theorem insI_perm (x : Int) : ∀ ys : List Int, (insI x ys).Perm (x :: ys)
  | [] => List.Perm.refl _
  | y :: ys => by
    unfold insI
    split
    · exact List.Perm.refl _
    · exact ((insI_perm x ys).cons y).trans (List.Perm.swap x y ys)
theorem sortI_perm : ∀ xs : List Int, (sortI xs).Perm xs
  | [] => List.Perm.refl _
  | x :: xs => (insI_perm x (sortI xs)).trans ((sortI_perm xs).cons x)
theorem insI_sorted (x : Int) : ∀ ys : List Int, ys.Pairwise (· ≤ ·) → (insI x ys).Pairwise (· ≤ ·)
  | [], _ => List.pairwise_singleton _ _
  | y :: ys, h => by
    unfold insI
    cases h with
    | cons h1 h2 =>
      split
      · rename_i hxy
        exact .cons (fun z hz => by
          cases hz with
          | head => exact hxy
          | tail _ hz => exact Int.le_trans hxy (h1 z hz)) (.cons h1 h2)
      · rename_i hxy
        refine .cons (fun z hz => ?_) (insI_sorted x ys h2)
        have hz' := (insI_perm x ys).mem_iff.mp hz
        cases hz' with
        | head => omega
        | tail _ hz => exact h1 z hz
theorem sortI_sorted : ∀ xs : List Int, (sortI xs).Pairwise (· ≤ ·)
  | [] => .nil
  | x :: xs => insI_sorted x _ (sortI_sorted xs)
theorem sorted_eq : ∀ {xs ys : List Int}, xs.Perm ys → xs.Pairwise (· ≤ ·) → ys.Pairwise (· ≤ ·) → xs = ys
  | [], ys, p, _, _ => (List.Perm.nil_eq p)
  | x :: xs, [], p, _, _ => absurd p.length_eq (by simp)
  | x :: xs, y :: ys, p, .cons h1 h2, .cons k1 k2 => by
    have e : x = y := by
      have a : y ∈ x :: xs := p.mem_iff.mpr List.mem_cons_self
      have b : x ∈ y :: ys := p.mem_iff.mp List.mem_cons_self
      cases a with
      | head => rfl
      | tail _ a =>
        cases b with
        | head => rfl
        | tail _ b => exact Int.le_antisymm (h1 y a) (k1 x b)
    subst e
    rw [sorted_eq (List.Perm.cons_inv p) h2 k2]

/-! ## steps -/
section
variable {ω ω' α β γ σT : Type} [Rep α] [Rep β] {A B H H' : Hp} {v u : V} {xs ys : List α} {ns ms : List Int} {R : List Hp} {p : Addr} {K : PySem.W.Frag} {Q : VK}
  {Qr : γ → Prop} {Er : Exn → ω → Prop}
def NewL (Q : VK) (xs : List V) (H : Hp) : Prop := xs.length ≤ sizeLine ∧ ∀ p, H p = none → Q (.ref p) (upd H p (.lst xs))
def NewT (Q : VK) (xs : List V) (H : Hp) : Prop := xs.length ≤ sizeLine ∧ ∀ p, H p = none → Q (.ref p) (upd H p (.tup xs))
/-- a raw new list -/
def RawL (A H : Hp) (Q : VK) (xs : List α) : Prop := ∀ p vs, H p = none → OL A vs xs → Q (.ref p) (upd H p (.lst vs))
theorem fz (S : St H (A :: R)) (k : ∀ p A' H', Same A A' → St H' (A' :: R) → Is A' (.ref p) xs → Q (.ref p) H') : RawL A H Q xs := fun p vs hp h =>
  k p _ _ (same_upd (S.1.free hp)) (S.new hp) (is_new h (S.1.free hp))
theorem ow (S : St H (A :: R)) (k : ∀ p vs H', St H' (A :: one p (.lst vs) :: R) → OL A vs xs → Q (.ref p) H') : RawL A H Q xs := fun p vs hp h =>
  k p vs _ (S.newM hp) h
theorem c_len (h : LA A H v xs) (k : Q (.int xs.length) H) : Evl.rLenS K [v] H Q := by
  obtain ⟨a, vs, rfl, h1, h2⟩ := h
  refine ⟨a, vs, rfl, .inl (SqL.of h1), ?_⟩
  rw [h2.len]
  exact k
theorem ixN_at {n : Nat} {i : Int} {j : Nat} (h : ixN n i = some j) {α : Type} {l : List α} (hl : l.length = n) : atI l i = l[j]? := by
  unfold atI
  rw [hl, h]
  rfl
theorem at_all {P : V → α → Prop} {vs : List V} {i : Int} {x : α} (h : All2 P vs xs) (e : atI xs i = some x) : ∃ w, atI vs i = some w ∧ P w x := by
  unfold atI at e
  cases hj : ixN xs.length i with
  | none =>
    rw [hj] at e
    cases e
  | some j =>
    rw [hj] at e
    have e' : xs[j]? = some x := e
    obtain ⟨w, h1, h2⟩ := h.get e'
    refine ⟨w, ?_, h2⟩
    rw [ixN_at (by rw [← hj, ← h.len]) rfl]
    exact h1
theorem c_ix {i : Int} {f : α → Res ω γ} (h : LA A H v xs) (hm : (bind (ixR xs i) f).wp Qr Er) (k : ∀ x w, Is A w x → (f x).wp Qr Er → Q w H) : rIxL K v (.int i) H Q := by
  obtain ⟨a, vs, rfl, h1, h2⟩ := h
  unfold ixR at hm
  cases e : atI xs i with
  | none =>
    rw [e] at hm
    exact hm.elim
  | some x =>
    rw [e] at hm
    obtain ⟨w, h3, h4⟩ := at_all h2.1 e
    exact ⟨a, vs, i, w, rfl, rfl, SqL.of h1, h3, k x w h4 hm⟩
theorem c_ixI {i : Int} {f : Int → Res ω γ} (h : LA A H v ns) (hm : (bind (ixR ns i) f).wp Qr Er) (k : ∀ x : Int, (f x).wp Qr Er → Q (.int x) H) : rIxL K v (.int i) H Q :=
  c_ix h hm fun x w hw hm => by
    obtain rfl : w = .int x := hw
    exact k x hm
theorem inV_int (x : Int) : ∀ ns : List Int, inV (.int x) (ns.map V.int) = decide (x ∈ ns)
  | [] => by
    unfold inV
    simp
  | n :: ns => by
    have ih := inV_int x ns
    unfold inV at ih ⊢
    rw [List.map_cons, List.any_cons, ih]
    show (decide _ || _) = _
    by_cases e : x = n
    · subst e
      simp [eqV]
    · have : ¬ n = x := fun z => e z.symm
      simp [eqV, e, this]
theorem flat_ints (ns : List Int) : (ns.map V.int).all flatV = true := by
  rw [List.all_map]
  exact List.all_eq_true.mpr fun _ _ => rfl
theorem c_in {x : Int} (h : LA A H v ns) (k : Q (.bl (decide (x ∈ ns))) H) : rIn K false (.int x) v H Q := by
  obtain ⟨a, vs, rfl, h1, h2⟩ := h
  rw [h2.int] at h1
  refine ⟨a, _, rfl, .inl (SqL.of h1), rfl, flat_ints ns, ?_⟩
  rw [inV_int]
  exact k
theorem c_notin {x : Int} (h : LA A H v ns) (k : Q (.bl (!decide (x ∈ ns))) H) : rIn K true (.int x) v H Q := by
  obtain ⟨a, vs, rfl, h1, h2⟩ := h
  rw [h2.int] at h1
  refine ⟨a, _, rfl, .inl (SqL.of h1), rfl, flat_ints ns, ?_⟩
  rw [inV_int]
  exact k
theorem c_cat {f : List α → Res ω γ} (h : LA A H v xs) (h' : LA A H u ys) (hm : (bind (catR xs ys) f).wp Qr Er) (k : ∀ zs, (f zs).wp Qr Er → RawL A H Q zs) : rCat v u H Q := by
  obtain ⟨a, vs, rfl, h1, h2⟩ := h
  obtain ⟨b, ws, rfl, h3, h4⟩ := h'
  unfold catR at hm
  by_cases c : xs.length + ys.length ≤ sizeLine
  · rw [if_pos c] at hm
    exact ⟨a, b, vs, ws, rfl, rfl, h1, h3, by rw [h2.len, h4.len]; exact c, fun p hp => k _ hm p _ hp ⟨h2.1.append h4.1, by rw [List.length_append]; exact c⟩⟩
  · rw [if_neg c] at hm
    exact hm.elim
theorem c_sorted {f : List Int → Res ω γ} (h : LA A H v ns) (hm : (bind (.ok (sortI ns)) f).wp Qr Er) (k : ∀ zs, (f zs).wp Qr Er → RawL A H Q zs) : rSortedI K [v] H Q := by
  obtain ⟨a, vs, rfl, h1, h2⟩ := h
  rw [h2.int] at h1
  refine ⟨a, ns, rfl, SqL.of h1, fun ns' p q s hp => ?_⟩
  have e : ns' = sortI ns := sorted_eq (q.trans (sortI_perm ns).symm) s (sortI_sorted ns)
  rw [e]
  exact k _ hm p _ hp (int_ol (by rw [(sortI_perm ns).length_eq]; exact h2.2))
theorem c_list (h : LA A H v xs) (k : RawL A H Q xs) : Evl.rListS K [v] H Q := by
  obtain ⟨a, vs, rfl, h1, h2⟩ := h
  exact ⟨a, vs, rfl, .inl (SqL.of h1), fun l hl => k l vs hl h2⟩
theorem c_lst {vs : List V} (hz : vs.length ≤ 1000) (h : All2 (Rep.is A) vs xs) (k : RawL A H Q xs) : NewL Q vs H :=
  ⟨Nat.le_of_lt (small1000 hz), fun p hp => k p vs hp ⟨h, by rw [← h.len]; exact Nat.le_of_lt (small1000 hz)⟩⟩
theorem c_tup {x : α} {y : β} {w : V} (S : St H (A :: R)) (h1 : Is A u x) (h2 : Is A w y) (k : ∀ p A' H', Same A A' → St H' (A' :: R) → Is A' (.ref p) (x, y) → Q (.ref p) H') :
    NewT Q [u, w] H :=
  ⟨Nat.le_of_lt (small1000 (show 2 ≤ 1000 by decide)), fun p hp => k p _ _ (same_upd (S.1.free hp)) (S.new hp) (is_tup h1 h2 (S.1.free hp))⟩
theorem c_if {c : Bool} {m1 m2 : Res ω γ} {P1 P2 : Prop} (hm : (if c = true then m1 else m2).wp Qr Er) (h1 : c = true → m1.wp Qr Er → P1) (h2 : c = false → m2.wp Qr Er → P2) : if c = true then P1 else P2 := by
  cases c with
  | true => exact h1 rfl hm
  | false => exact h2 rfl hm
theorem c_eqI {x y : Int} (k : Q (.bl (decide (x = y))) H) : rEq (.int x) (.int y) H Q := by
  refine ⟨rfl, ?_⟩
  have e : decide ((V.int x) = .int y) = decide (x = y) := by
    by_cases z : x = y
    · subst z
      simp
    · have : ¬ V.int x = .int y := fun q => z (V.int.inj q)
      rw [decide_eq_false this, decide_eq_false z]
  rw [e]
  exact k
theorem c_neI {x y : Int} (k : Q (.bl (!decide (x = y))) H) : rNe (.int x) (.int y) H Q := by
  refine ⟨rfl, ?_⟩
  have e : decide ((V.int x) = .int y) = decide (x = y) := by
    by_cases z : x = y
    · subst z
      simp
    · have : ¬ V.int x = .int y := fun q => z (V.int.inj q)
      rw [decide_eq_false this, decide_eq_false z]
  rw [e]
  exact k
theorem c_eqB {x y : Bool} (k : Q (.bl (decide (x = y))) H) : rEq (.bl x) (.bl y) H Q := by
  refine ⟨rfl, ?_⟩
  have e : decide ((V.bl x) = .bl y) = decide (x = y) := by cases x <;> cases y <;> rfl
  rw [e]
  exact k
theorem c_isB {x y : Bool} (k : Q (.bl (decide (x = y))) H) : rIsB (.bl x) (.bl y) H Q := ⟨x, y, rfl, rfl, k⟩
theorem c_neB {x y : Bool} (k : Q (.bl (!decide (x = y))) H) : rNe (.bl x) (.bl y) H Q := by
  refine ⟨rfl, ?_⟩
  have e : decide ((V.bl x) = .bl y) = decide (x = y) := by cases x <;> cases y <;> rfl
  rw [e]
  exact k
theorem c_mul {a b : Int} {f : Int → Res ω γ} (hm : (bind (mulR a b) f).wp Qr Er) (k : (f (a * b)).wp Qr Er → Q (.int (a * b)) H) : rI CMul (fun i j => .int (i * j)) (.int a) (.int b) H Q := by
  unfold mulR at hm
  by_cases c : (-(2 ^ 64) < a ∧ a < 2 ^ 64) ∨ (-(2 ^ 64) < b ∧ b < 2 ^ 64)
  · rw [if_pos c] at hm
    exact ⟨a, b, rfl, rfl, c, k hm⟩
  · rw [if_neg c] at hm
    exact hm.elim
theorem c_mod {a b : Int} {f : Int → Res ω γ} (hm : (bind (modR a b) f).wp Qr Er) (k : (f (a % b)).wp Qr Er → Q (.int (a % b)) H) : rI (fun _ j => 0 < j) (fun i j => .int (i % j)) (.int a) (.int b) H Q := by
  unfold modR at hm
  by_cases c : 0 < b
  · rw [if_pos c] at hm
    exact ⟨a, b, rfl, rfl, c, k hm⟩
  · rw [if_neg c] at hm
    exact hm.elim
theorem c_div {a b : Int} {f : Int → Res ω γ} (hm : (bind (divR a b) f).wp Qr Er) (k : (f (a / b)).wp Qr Er → Q (.int (a / b)) H) : rI CDiv (fun i j => .int (i / j)) (.int a) (.int b) H Q := by
  unfold divR at hm
  by_cases c : 0 < b ∧ b < 1073741824
  · rw [if_pos c] at hm
    exact ⟨a, b, rfl, rfl, c, k hm⟩
  · rw [if_neg c] at hm
    exact hm.elim

/-! ### comprehensions -/
/-- a test, an element: what they come to, nothing but new things laid -/
def TstOk (tt : TT) (σ : L2.St) (A : Hp) (R : List Hp) (b : Bool) : Prop := ∀ A1 H1, Same A A1 → St H1 (A1 :: R) → ∀ Q : Bool → Hp → Prop, (∀ A2 H2, Same A1 A2 → St H2 (A2 :: R) → Q b H2) → tt σ H1 Q
def EltOk (te : TE) (σ : L2.St) (A : Hp) (R : List Hp) (y : β) : Prop := ∀ A1 H1, Same A A1 → St H1 (A1 :: R) → ∀ Q : VK, (∀ A2 H2 w, Same A1 A2 → St H2 (A2 :: R) → Is A2 w y → Q w H2) → te σ H1 Q
theorem yes_ok {σ : L2.St} : TstOk tYes σ A R true := fun A1 H1 _ S Q k => k A1 H1 (Same.refl _) S
theorem St.dropOwn {n : Hp} (S : St H (A :: n :: R)) : St H (A :: R) := ⟨S.1, fun q hq => S.2.1 q (List.mem_cons_of_mem _ hq), S.2.2.2.2⟩
/-- what stands while a list is filled: some of the items so far -/
def CwP (A : Hp) (R : List Hp) (f : α → Bool) (g : α → β) (xs : List α) (Dl : Addr) (i : Nat) (H' : Hp) : Prop :=
  ∃ A' vs, Same A A' ∧ St H' (A' :: one Dl (.lst vs) :: R) ∧ All2 (Rep.is A') vs (((xs.take i).filter f).map g)
theorem cw_turn {σ2 : L2.St} {tt : TT} {te : TE} {f : α → Bool} {g : α → β} {Dl : Addr} {i : Nat} {x : α} (hx : xs[i]? = some x) (hz : i < sizeLine) (p : CwP A R f g xs Dl i H')
    (ht : ∀ A1 n, Same A A1 → TstOk tt σ2 A1 (n :: R) (f x)) (he : ∀ A1 n, Same A A1 → f x = true → EltOk te σ2 A1 (n :: R) (g x)) :
    tt σ2 H' fun b H3 => if b = true then te σ2 H3 fun y H4 => ∃ acc, H4 Dl = some (.lst acc) ∧ acc.length < sizeLine ∧ CwP A R f g xs Dl (i + 1) (upd H4 Dl (.lst (acc ++ [y]))) else CwP A R f g xs Dl (i + 1) H3 := by
  obtain ⟨A', vs, eA, S, hv⟩ := p
  have et : xs.take (i + 1) = xs.take i ++ [x] := by rw [List.take_add_one, hx]; rfl
  refine ht A' (one Dl (.lst vs)) eA A' H' (Same.refl _) S _ fun A2 H2 e2 S2 => ?_
  cases hf : f x with
  | true =>
    show te σ2 H2 fun y H4 => ∃ acc, H4 Dl = some (.lst acc) ∧ acc.length < sizeLine ∧ CwP A R f g xs Dl (i + 1) (upd H4 Dl (.lst (acc ++ [y])))
    refine he A' (one Dl (.lst vs)) eA hf A2 H2 e2 S2 _ fun A3 H3 w e3 S3 hw => ⟨vs, S3.second _ _ one_same, ?_, A3, vs ++ [w], (eA.trans e2).trans e3, S3.wr1, ?_⟩
    · rw [hv.len, List.length_map]
      refine Nat.lt_of_le_of_lt (Nat.le_trans (List.length_filter_le _ _) ?_) hz
      rw [List.length_take]
      exact Nat.min_le_left _ _
    · rw [et, List.filter_append, List.map_append, List.filter_cons, if_pos hf]
      exact (hv.mono fun _ _ h => Rep.mono (e2.trans e3) h).append ⟨hw, trivial⟩
  | false =>
    show CwP A R f g xs Dl (i + 1) H2
    refine ⟨A2, vs, eA.trans e2, S2, ?_⟩
    rw [et, List.filter_append, List.map_append, List.filter_cons, if_neg (by rw [hf]; decide)]
    show All2 _ vs (_ ++ [])
    rw [List.append_nil]
    exact hv.mono fun _ _ h => Rep.mono e2 h
/-- over a frozen list: the new list is owned -/
theorem c_lcL {σ : L2.St} {tl : TE} {tt : TT} {te : TE} {j : Nat} {vs : List Nat} {fm : List β → Res ω γ} (f : α → Bool) (g : α → β) (S : St H (A :: R)) (htl : ∀ Q' : VK, Q' v H → tl σ H Q') (hx : Is A v xs) (hm : (bind (.ok ((xs.filter f).map g)) fm).wp Qr Er)
    (hw : ∀ x, wipe ((wipe σ vs).set j (some x)) vs = wipe σ vs)
    (ht : ∀ x w A1 n, x ∈ xs → Same A A1 → Is A1 w x → TstOk tt ((wipe σ vs).set j (some w)) A1 (n :: R) (f x)) (he : ∀ x w A1 n, x ∈ xs → Same A A1 → Is A1 w x → f x = true → EltOk te ((wipe σ vs).set j (some w)) A1 (n :: R) (g x))
    (k : ∀ p A' H' ws ys, (fm ys).wp Qr Er → Same A A' → St H' (A' :: one p (.lst ws) :: R) → OL A' ws ys → Q (.ref p) H') : tLc (iList K tl) (gName j) tt te vs σ H Q := by
  obtain ⟨a, us, rfl, h1, h2⟩ := hx
  refine htl _ ⟨a, rfl, ⟨us, SqL.of (S.1 _ _ h1)⟩, fun Dl hD => ?_⟩
  refine lc_list (xs := us) (CwP A R f g xs Dl) ⟨A, [], Same.refl _, S.newM hD, trivial⟩ (fun i H' _ p => ?_) (fun i w H' hi p => ?_) (fun H' p => ?_)
  · obtain ⟨A', ws, e, S', _⟩ := p
    exact SqL.of (S'.1 _ _ (e _ _ h1))
  · obtain ⟨x, hxi, hxw⟩ := h2.1.getV hi
    have hm : x ∈ xs := List.mem_of_getElem? hxi
    have hlt : i < xs.length := (List.getElem?_eq_some_iff.mp hxi).1
    exact ⟨hw w, cw_turn hxi (Nat.lt_of_lt_of_le hlt h2.2) p (fun A1 n e => ht x w A1 n hm e (Rep.mono e hxw)) (fun A1 n e hf => he x w A1 n hm e (Rep.mono e hxw) hf)⟩
  · obtain ⟨A', ws, e, S', h⟩ := p
    rw [h2.len, List.take_length] at h
    exact k Dl A' H' ws _ hm e S' ⟨h, by
      rw [List.length_map]
      exact Nat.le_trans (List.length_filter_le _ _) h2.2⟩
/-- over a range -/
theorem c_lcR {σ : L2.St} {ta : TA} {tt : TT} {te : TE} {j : Nat} {vs : List Nat} {n : Int} {fm : List β → Res ω γ} (f : Int → Bool) (g : Int → β) (S : St H (A :: R)) (hta : ∀ Q' : List V → Hp → Prop, Q' [.int n] H → ta σ H Q') (hm : (bind (bind (rlR n) fun l => .ok ((l.filter f).map g)) fm).wp Qr Er)
    (hw : ∀ x, wipe ((wipe σ vs).set j (some x)) vs = wipe σ vs)
    (ht : ∀ (x : Int) A1 m, x ∈ rangeL 0 n → Same A A1 → TstOk tt ((wipe σ vs).set j (some (.int x))) A1 (m :: R) (f x)) (he : ∀ (x : Int) A1 m, x ∈ rangeL 0 n → Same A A1 → f x = true → EltOk te ((wipe σ vs).set j (some (.int x))) A1 (m :: R) (g x))
    (k : ∀ p A' H' ws ys, (fm ys).wp Qr Er → Same A A' → St H' (A' :: one p (.lst ws) :: R) → OL A' ws ys → Q (.ref p) H') : tLc (iRng1 ta) (gName j) tt te vs σ H Q := by
  unfold rlR at hm
  by_cases hz : n ≤ 1000000 ∧ -1000000 ≤ n
  case neg =>
    rw [if_neg hz] at hm
    exact hm.elim
  rw [if_pos hz] at hm
  have hsz : (1000000 : Nat) < sizeLine := by decide
  have hlen : (rangeL 0 n).length = n.toNat := by unfold rangeL; rw [List.length_map, List.length_range]; omega
  refine hta _ ⟨n, rfl, by omega, by omega, fun Dl hD => ?_⟩
  refine lc_range (lo := 0) (n := n.toNat) (CwP A R f g (rangeL 0 n) Dl) ⟨A, [], Same.refl _, S.newM hD, trivial⟩ (fun i H' hi p => ?_) (fun H' p => ?_)
  · have hxi : (rangeL 0 n)[i]? = some (0 + (i : Int)) := by
      unfold rangeL
      rw [List.getElem?_map, List.getElem?_range (by omega)]
      rfl
    have hm := List.mem_of_getElem? hxi
    exact ⟨hw _, cw_turn hxi (Nat.lt_of_le_of_lt (by omega) hsz) p (fun A1 m e => ht _ A1 m hm e) (fun A1 m e hf => he _ A1 m hm e hf)⟩
  · obtain ⟨A', ws, e, S', h⟩ := p
    rw [← hlen, List.take_length] at h
    exact k Dl A' H' ws _ hm e S' ⟨h, by
      rw [List.length_map]
      exact Nat.le_trans (List.length_filter_le _ _) (by rw [hlen]; exact Nat.le_of_lt (Nat.lt_of_le_of_lt (by omega) hsz))⟩
theorem frz_is {A : Hp} {p : Addr} {ws : List V} (h : OL A ws xs) (S : St H (A :: one p (.lst ws) :: R)) : Is (join A (one p (.lst ws))) (.ref p) xs :=
  ⟨p, ws, rfl, same_join_r S.dj _ _ one_same, h.up same_join_l⟩

/-! ### loops -/
/-- for x in a frozen list -/
theorem c_forL {σ : L2.St} {tl : TE} {tu : TS} {j : Nat} {D : Ends} {s0 : σT} {body : α → σT → Res ω (Fl β' σT)} {f : Fl β' σT → Res ω γ} (Rel : Hp → L2.St → List Hp → σT → Prop)
    (S : St H (A :: R)) (htl : ∀ Q' : VK, Q' v H → tl σ H Q') (hx : Is A v xs) (h0 : Rel A σ R s0) (hm : (bind (forM body xs s0) f).wp Qr Er)
    (step : ∀ x w A' H' σ' R' s (C : σT → Prop) (N : L2.St → Hp → Prop), x ∈ xs → Same A A' → St H' (A' :: R') → Is A' w x → Rel A' σ' R' s →
      (∀ A'' H'' σ'' R'' s', Same A A'' → St H'' (A'' :: R'') → Rel A'' σ'' R'' s' → C s' → N σ'' H'') →
      (body x s).wp (fun r => match r with | .next s' => C s' | .ret y => (f (.ret y)).wp Qr Er) Er → tu { D with nx := N, ct := N, bk := D.nx } (σ'.set j (some w)) H')
    (done : ∀ A' H' σ' R' s, Same A A' → St H' (A' :: R') → Rel A' σ' R' s → (f (.next s)).wp Qr Er → D.nx σ' H') : tFor (iList K tl) (gName j) tu D σ H := by
  obtain ⟨a, us, rfl, h1, h2⟩ := hx
  refine htl _ ⟨a, rfl, ⟨us, SqL.of (S.1 _ _ h1)⟩, ?_⟩
  refine for_list (xs := us) (fun i σ' H' => ∃ A' R' s, Same A A' ∧ St H' (A' :: R') ∧ Rel A' σ' R' s ∧ (bind (forM body (xs.drop i) s) f).wp Qr Er) ⟨A, R, s0, Same.refl _, S, h0, hm⟩ (fun i σ' H' _ ⟨A', R', s, e, S', _⟩ => SqL.of (S'.1 _ _ (e _ _ h1))) (fun i w σ' H' hi ⟨A', R', s, e, S', hr, hw⟩ => ?_) (fun σ' H' ⟨A', R', s, e, S', hr, hw⟩ => ?_)
  · obtain ⟨x, hxi, hxw⟩ := h2.1.getV hi
    have ed : xs.drop i = x :: xs.drop (i + 1) := by
      obtain ⟨hlt, hg⟩ := List.getElem?_eq_some_iff.mp hxi
      rw [← hg]
      exact List.drop_eq_getElem_cons hlt
    rw [ed] at hw
    refine step x w A' H' σ' R' s (fun s' => (bind (forM body (xs.drop (i + 1)) s') f).wp Qr Er) _ (List.mem_of_getElem? hxi) e S' (Rep.mono e hxw) hr (fun A'' H'' σ'' R'' s' e' S'' hr' hc => ⟨A'', R'', s', e', S'', hr', hc⟩) ?_
    unfold forM at hw
    cases hb : body x s with
    | ok r =>
      rw [hb] at hw
      cases r with
      | next s' => exact hw
      | ret y => exact hw
    | ex e w =>
      rw [hb] at hw
      exact hw
    | bad =>
      rw [hb] at hw
      exact hw
  · rw [h2.len, List.drop_length] at hw
    exact done A' H' σ' R' s e S' hr hw
/-- for k in range(lo, hi) -/
theorem c_forR2 {σ : L2.St} {ta : TA} {tu : TS} {j : Nat} {D : Ends} {lo hi : Int} {s0 : σT} {body : Int → σT → Res ω (Fl β' σT)} {f : Fl β' σT → Res ω γ} (Rel : Hp → L2.St → List Hp → σT → Prop)
    (S : St H (A :: R)) (hta : ∀ Q' : List V → Hp → Prop, Q' [.int lo, .int hi] H → ta σ H Q') (h0 : Rel A σ R s0) (hm : (bind (bind (rgR lo hi) fun l => forM body l s0) f).wp Qr Er)
    (step : ∀ (x : Int) A' H' σ' R' s (C : σT → Prop) (N : L2.St → Hp → Prop), lo ≤ x → x < hi → Same A A' → St H' (A' :: R') → Rel A' σ' R' s →
      (∀ A'' H'' σ'' R'' s', Same A A'' → St H'' (A'' :: R'') → Rel A'' σ'' R'' s' → C s' → N σ'' H'') →
      (body x s).wp (fun r => match r with | .next s' => C s' | .ret y => (f (.ret y)).wp Qr Er) Er → tu { D with nx := N, ct := N, bk := D.nx } (σ'.set j (some (.int x))) H')
    (done : ∀ A' H' σ' R' s, Same A A' → St H' (A' :: R') → Rel A' σ' R' s → (f (.next s)).wp Qr Er → D.nx σ' H') : tFor (iRng2 ta) (gName j) tu D σ H := by
  unfold rgR at hm
  by_cases hb : -(2 ^ 62) ≤ lo ∧ lo < 2 ^ 62 ∧ -(2 ^ 62) ≤ hi ∧ hi < 2 ^ 62
  case neg =>
    rw [if_neg hb] at hm
    exact hm.elim
  rw [if_pos hb] at hm
  have hm : (bind (forM body (rangeL lo hi) s0) f).wp Qr Er := hm
  have hlen : (rangeL lo hi).length = (hi - lo).toNat := by unfold rangeL; rw [List.length_map, List.length_range]
  refine hta _ ⟨lo, hi, rfl, hb, ?_⟩
  refine for_range (lo := lo) (n := (hi - lo).toNat) (fun i σ' H' => ∃ A' R' s, Same A A' ∧ St H' (A' :: R') ∧ Rel A' σ' R' s ∧ (bind (forM body ((rangeL lo hi).drop i) s) f).wp Qr Er) ⟨A, R, s0, Same.refl _, S, h0, hm⟩ (fun i σ' H' hi' ⟨A', R', s, e, S', hr, hw⟩ => ?_) (fun σ' H' ⟨A', R', s, e, S', hr, hw⟩ => ?_)
  · have hxi : (rangeL lo hi)[i]? = some (lo + (i : Int)) := by
      unfold rangeL
      rw [List.getElem?_map, List.getElem?_range hi']
      rfl
    have ed : (rangeL lo hi).drop i = (lo + (i : Int)) :: (rangeL lo hi).drop (i + 1) := by
      obtain ⟨hlt, hg⟩ := List.getElem?_eq_some_iff.mp hxi
      rw [← hg]
      exact List.drop_eq_getElem_cons hlt
    rw [ed] at hw
    refine step (lo + (i : Int)) A' H' σ' R' s (fun s' => (bind (forM body ((rangeL lo hi).drop (i + 1)) s') f).wp Qr Er) _ (by omega) (by omega) e S' hr (fun A'' H'' σ'' R'' s' e' S'' hr' hc => ⟨A'', R'', s', e', S'', hr', hc⟩) ?_
    unfold forM at hw
    cases hb : body (lo + (i : Int)) s with
    | ok r =>
      rw [hb] at hw
      cases r with
      | next s' => exact hw
      | ret y => exact hw
    | ex e w =>
      rw [hb] at hw
      exact hw
    | bad =>
      rw [hb] at hw
      exact hw
  · rw [← hlen, List.drop_length] at hw
    exact done A' H' σ' R' s e S' hr hw
theorem c_forR1 {σ : L2.St} {ta : TA} {tu : TS} {j : Nat} {D : Ends} {hi : Int} {s0 : σT} {body : Int → σT → Res ω (Fl β' σT)} {f : Fl β' σT → Res ω γ} (Rel : Hp → L2.St → List Hp → σT → Prop)
    (S : St H (A :: R)) (hta : ∀ Q' : List V → Hp → Prop, Q' [.int hi] H → ta σ H Q') (h0 : Rel A σ R s0) (hm : (bind (bind (rgR 0 hi) fun l => forM body l s0) f).wp Qr Er)
    (step : ∀ (x : Int) A' H' σ' R' s (C : σT → Prop) (N : L2.St → Hp → Prop), 0 ≤ x → x < hi → Same A A' → St H' (A' :: R') → Rel A' σ' R' s →
      (∀ A'' H'' σ'' R'' s', Same A A'' → St H'' (A'' :: R'') → Rel A'' σ'' R'' s' → C s' → N σ'' H'') →
      (body x s).wp (fun r => match r with | .next s' => C s' | .ret y => (f (.ret y)).wp Qr Er) Er → tu { D with nx := N, ct := N, bk := D.nx } (σ'.set j (some (.int x))) H')
    (done : ∀ A' H' σ' R' s, Same A A' → St H' (A' :: R') → Rel A' σ' R' s → (f (.next s)).wp Qr Er → D.nx σ' H') : tFor (iRng1 ta) (gName j) tu D σ H := by
  have t := c_forR2 (σ := σ) (ta := fun _ H Q' => Q' [.int 0, .int hi] H) (tu := tu) (j := j) (D := D) Rel S (fun Q' q => q) h0 hm step done
  obtain ⟨i', j', e, hb, W⟩ := t
  cases e
  refine hta _ ⟨hi, rfl, hb.2.2.1, hb.2.2.2, ?_⟩
  have e0 : (hi - 0).toNat = hi.toNat := by omega
  rw [e0] at W
  exact W
end
end SB
namespace SB
open PySem PySem.Spec PyProof.Rows L2 Res
/-! ## statements, one by one (all by unfolding) -/
section
variable {te tv : TE} {tz t u : TS} {c : TT} {D : Ends} {σ : L2.St} {H : Hp} {i : Nat} {wi : TI} {g : TG}
theorem q_asg (h : te σ H fun v H' => tz D (σ.set i (some v)) H') : tSeq (tAsg te (gName i)) tz D σ H := h
theorem s_asg (h : te σ H fun v H' => D.nx (σ.set i (some v)) H') : tAsg te (gName i) D σ H := h
theorem q_drop (h : te σ H fun _ H' => tz D σ H') : tSeq (tDrop te) tz D σ H := h
theorem s_drop (h : te σ H fun _ H' => D.nx σ H') : tDrop te D σ H := h
theorem s_ret (h : te σ H D.rt) : tRet te D σ H := h
theorem s_next (h : D.nx σ H) : tNext D σ H := h
theorem q_next (h : tz D σ H) : tSeq tNext tz D σ H := h
theorem q_if (h : c σ H fun b H1 => if b = true then t { D with nx := tz D } σ H1 else u { D with nx := tz D } σ H1) : tSeq (tIfS c t u) tz D σ H := h
theorem q_when (h : c σ H fun b H1 => if b = true then t { D with nx := tz D } σ H1 else tz D σ H1) : tSeq (tIfS c t tNext) tz D σ H := h
theorem s_if (h : c σ H fun b H1 => if b = true then t D σ H1 else u D σ H1) : tIfS c t u D σ H := h
theorem s_when (h : c σ H fun b H1 => if b = true then t D σ H1 else D.nx σ H1) : tIfS c t tNext D σ H := h
theorem q_for (h : tFor wi g t { D with nx := tz D } σ H) : tSeq (tFor wi g t) tz D σ H := h
theorem q_seq (h : t { D with nx := tz D } σ H) : tSeq t tz D σ H := h
theorem c_not {b : Bool} {Q : Bool → Hp → Prop} (h : c σ H fun b H1 => Q (!b) H1) : tNot c σ H Q := h
theorem c_and {d : TT} {Q : Bool → Hp → Prop} (h : c σ H fun b H1 => if b = true then d σ H1 Q else Q false H1) : tAnd c d σ H Q := h
theorem c_or {d : TT} {Q : Bool → Hp → Prop} (h : c σ H fun b H1 => if b = true then Q true H1 else d σ H1 Q) : tOr c d σ H Q := h
end
section
variable {ω γ β' σT : Type} {A H : Hp} {R : List Hp} {Qr : γ → Prop} {Er : Exn → ω → Prop}
/-- a test whose ways meet -/
theorem q_test {c : TT} {P : Bool → Hp → Prop} {σ : L2.St} {m : Res ω Bool} {f : Bool → Res ω γ} (hm : (bind m f).wp Qr Er)
    (h1 : ∀ Qb : Bool → Hp → Prop, (∀ b A' H', Same A A' → St H' (A' :: R) → (f b).wp Qr Er → Qb b H') → m.wp (fun b => (f b).wp Qr Er) Er → c σ H Qb)
    (h2 : ∀ b A' H', Same A A' → St H' (A' :: R) → (f b).wp Qr Er → P b H') : c σ H P := h1 P h2 (wp_bind hm)
/-- two statements with a word between them -/
theorem q_cut {t u : TS} {D : Ends} {σ : L2.St} {m : Res ω (Fl β' σT)} {f : Fl β' σT → Res ω γ} (Rel : Hp → L2.St → List Hp → σT → Prop) (hm : (bind m f).wp Qr Er)
    (h1 : ∀ (C : σT → Prop) (N : L2.St → Hp → Prop), (∀ A' H' σ' R' s, Same A A' → St H' (A' :: R') → Rel A' σ' R' s → C s → N σ' H') →
      m.wp (fun r => match r with | .next s => C s | .ret y => (f (.ret y)).wp Qr Er) Er → t { D with nx := N } σ H)
    (h2 : ∀ A' H' σ' R' s, Same A A' → St H' (A' :: R') → Rel A' σ' R' s → (f (.next s)).wp Qr Er → u D σ' H') : Evl.tCut t u D σ H := by
  refine ⟨fun σ' H' => ∃ A' R' s, Same A A' ∧ St H' (A' :: R') ∧ Rel A' σ' R' s ∧ (f (.next s)).wp Qr Er, ?_, fun σ' H' ⟨A', R', s, e, S', hr, hw⟩ => h2 A' H' σ' R' s e S' hr hw⟩
  refine h1 (fun s => (f (.next s)).wp Qr Er) _ (fun A' H' σ' R' s e S' hr hc => ⟨A', R', s, e, S', hr, hc⟩) ?_
  refine wp_mono (wp_bind hm) (fun r h => ?_) (fun _ _ h => h)
  cases r with
  | next s => exact h
  | ret y => exact h
theorem c_andR {c : Bool} {m : Res ω Bool} {Q : Bool → Prop} {P1 P2 : Prop} (hm : (andR c m).wp Q Er) (h1 : c = true → m.wp Q Er → P1) (h2 : c = false → Q false → P2) : if c = true then P1 else P2 := by
  cases c with
  | true => exact h1 rfl hm
  | false => exact h2 rfl hm
theorem c_orR {c : Bool} {m : Res ω Bool} {Q : Bool → Prop} {P1 P2 : Prop} (hm : (orR c m).wp Q Er) (h1 : c = true → Q true → P1) (h2 : c = false → m.wp Q Er → P2) : if c = true then P1 else P2 := by
  cases c with
  | true => exact h1 rfl hm
  | false => exact h2 rfl hm
end
/-! ## kinds of values -/
section
variable {K : PySem.W.Frag} {H A : Hp} {Q : VK}
theorem c_isi {x : V} {t : String} {b : Bool} {T : Value} (hx : TyX K H x T) (hk : PySem.W.kitOne K T (.type t) = some b) (k : Q (.bl b) H) : rIsi K [x, .ty t] H Q :=
  ⟨x, .ty t, T, .type t, b, rfl, .ty t, hx, hk, k⟩
theorem isi_int {x : Int} (k : Q (.bl true) H) : rIsi K [.int x, .ty "int"] H Q := c_isi (.base (.int x)) (kit_ty (by decide +kernel)) k
theorem isi_int_bool {x : Int} (k : Q (.bl false) H) : rIsi K [.int x, .ty "bool"] H Q := c_isi (.base (.int x)) (kit_ty (by decide +kernel)) k
theorem isi_bool {x : Bool} (k : Q (.bl true) H) : rIsi K [.bl x, .ty "bool"] H Q := c_isi (.base (.bl x)) (kit_ty (by decide +kernel)) k
theorem isi_bool_int {x : Bool} (k : Q (.bl true) H) : rIsi K [.bl x, .ty "int"] H Q := c_isi (.base (.bl x)) (kit_ty (by decide +kernel)) k
theorem isi_list {α : Type} [Rep α] {xs : List α} {v : V} (h : LA A H v xs) (k : Q (.bl true) H) : rIsi K [v, .ty "list"] H Q := by
  obtain ⟨a, vs, rfl, h1, h2⟩ := h
  exact c_isi (.base (.lst h1)) (kit_ty (by decide +kernel)) k
end
/-! ## equality of data -/
class RepD (α : Type) extends Rep α where
  D : α → PyData
  dp : ∀ {K : PySem.W.Frag} {A H : Hp} {v : V} {x : α}, Same A H → Rep.is A v x → Dp K H v (D x)
  deep : Nat
  shp : ∀ x, (D x).canLay0 = true ∧ (D x).depth ≤ deep
  eqv : ∀ x y, PyData.eqv (D x) (D y) = true ↔ x = y
section
variable {K : PySem.W.Frag} {A B H : Hp} {Q : VK} {α : Type} [RepD α] {x y : α} {v u : V}
theorem shaped_of (h : RepD.deep (α := α) ≤ 64) (x : α) : SeqAt.shaped (RepD.D x) = true := by
  unfold SeqAt.shaped
  obtain ⟨h1, h2⟩ := RepD.shp x
  rw [h1, decide_eq_true (Nat.le_trans h2 h)]
  rfl
theorem c_eqD [DecidableEq α] (hx : Dp K H v (RepD.D x)) (hy : Dp K H u (RepD.D y)) (hd : RepD.deep (α := α) ≤ 64) (k : Q (.bl (decide (x = y))) H) : rEqD K v u H Q := by
  refine ⟨_, _, hx, hy, shaped_of hd x, shaped_of hd y, ?_⟩
  have e : PyData.eqv (RepD.D x) (RepD.D y) = decide (x = y) := by
    by_cases z : x = y
    · rw [(RepD.eqv x y).mpr z, decide_eq_true z]
    · rw [decide_eq_false z]
      cases q : PyData.eqv (RepD.D x) (RepD.D y) with
      | true => exact absurd ((RepD.eqv x y).mp q) z
      | false => rfl
  rw [e]
  exact k
theorem c_neD [DecidableEq α] (hx : Dp K H v (RepD.D x)) (hy : Dp K H u (RepD.D y)) (hd : RepD.deep (α := α) ≤ 64) (k : Q (.bl (!decide (x = y))) H) : rNeD K v u H Q := by
  refine ⟨_, _, hx, hy, shaped_of hd x, shaped_of hd y, ?_⟩
  have e : PyData.eqv (RepD.D x) (RepD.D y) = decide (x = y) := by
    by_cases z : x = y
    · rw [(RepD.eqv x y).mpr z, decide_eq_true z]
    · rw [decide_eq_false z]
      cases q : PyData.eqv (RepD.D x) (RepD.D y) with
      | true => exact absurd ((RepD.eqv x y).mp q) z
      | false => rfl
  rw [e]
  exact k
end
end SB
namespace SB
open PySem PySem.Spec PyProof.Rows L2 Res
class NN (α : Type) [RepD α] : Prop where
  nn : ∀ x : α, RepD.D x ≠ .none
theorem dpAll_of {α : Type} [RepD α] {K : PySem.W.Frag} {A H : Hp} (e : Same A H) : ∀ {vs : List V} {xs : List α}, All2 (Rep.is A) vs xs → DpAll K H vs (xs.map RepD.D)
  | [], [], _ => .nil
  | _ :: _, _ :: _, h => .cons (RepD.dp e h.1) (dpAll_of e h.2)
  | [], _ :: _, h => h.elim
  | _ :: _, [], h => h.elim
theorem lay_all {α : Type} [RepD α] : ∀ xs : List α, PyData.canLayAll0 (xs.map RepD.D) = true ∧ PyData.depthAll (xs.map RepD.D) ≤ RepD.deep (α := α)
  | [] => ⟨rfl, Nat.zero_le _⟩
  | x :: xs => by
    obtain ⟨h1, h2⟩ := lay_all xs
    obtain ⟨k1, k2⟩ := RepD.shp x
    constructor
    · show (PyData.canLay0 (RepD.D x) && PyData.canLayAll0 (xs.map RepD.D)) = true
      rw [k1, h1]
      rfl
    · show max (PyData.depth (RepD.D x)) (PyData.depthAll (xs.map RepD.D)) ≤ _
      exact Nat.max_le.mpr ⟨k2, h2⟩
theorem eqv_all {α : Type} [RepD α] : ∀ xs ys : List α, PyData.eqvAll (xs.map RepD.D) (ys.map RepD.D) = true ↔ xs = ys
  | [], [] => by simp [PyData.eqvAll]
  | [], _ :: _ => by simp [PyData.eqvAll]
  | _ :: _, [] => by simp [PyData.eqvAll]
  | x :: xs, y :: ys => by
    show (PyData.eqv (RepD.D x) (RepD.D y) && PyData.eqvAll (xs.map RepD.D) (ys.map RepD.D)) = true ↔ _
    rw [Bool.and_eq_true, RepD.eqv, eqv_all xs ys]
    constructor
    · rintro ⟨rfl, rfl⟩
      rfl
    · intro h
      injection h with h1 h2
      exact ⟨h1, h2⟩
instance : RepD Int where
  D := .int
  dp := fun _ h => by
    cases h
    exact .int _
  deep := 0
  shp := fun _ => ⟨rfl, Nat.le_refl _⟩
  eqv := fun x y => by
    show (x == y) = true ↔ x = y
    exact beq_iff_eq
instance : RepD Bool where
  D := .bool
  dp := fun _ h => by
    cases h
    exact .bl _
  deep := 0
  shp := fun _ => ⟨rfl, Nat.le_refl _⟩
  eqv := fun x y => by
    show (x == y) = true ↔ x = y
    exact beq_iff_eq
instance : NN Int := ⟨fun _ h => nomatch h⟩
instance : NN Bool := ⟨fun _ h => nomatch h⟩
instance instDList {α : Type} [RepD α] : RepD (List α) where
  D := fun xs => .list (xs.map RepD.D)
  dp := fun e ⟨a, vs, h1, h2, h3⟩ => by
    subst h1
    exact .lst (SqL.of (e _ _ h2)) (dpAll_of e h3.1)
  deep := RepD.deep (α := α) + 1
  shp := fun xs => by
    obtain ⟨h1, h2⟩ := lay_all xs
    exact ⟨h1, Nat.succ_le_succ h2⟩
  eqv := fun xs ys => eqv_all xs ys
instance {α : Type} [RepD α] : NN (List α) := ⟨fun _ h => nomatch h⟩
instance instDProd {α β : Type} [RepD α] [RepD β] : RepD (α × β) where
  D := fun x => .tuple [RepD.D x.1, RepD.D x.2]
  dp := fun e ⟨a, u, w, h1, h2, h3, h4⟩ => by
    subst h1
    exact .tup (SqT.of (e _ _ h2)) (.cons (RepD.dp e h3) (.cons (RepD.dp e h4) .nil))
  deep := max (RepD.deep (α := α)) (RepD.deep (α := β)) + 1
  shp := fun x => by
    obtain ⟨h1, h2⟩ := RepD.shp x.1
    obtain ⟨k1, k2⟩ := RepD.shp x.2
    constructor
    · show (PyData.canLay0 (RepD.D x.1) && (PyData.canLay0 (RepD.D x.2) && true)) = true
      rw [h1, k1]
      rfl
    · show max (PyData.depth (RepD.D x.1)) (max (PyData.depth (RepD.D x.2)) 0) + 1 ≤ _
      omega
  eqv := fun x y => by
    show (PyData.eqv (RepD.D x.1) (RepD.D y.1) && (PyData.eqv (RepD.D x.2) (RepD.D y.2) && true)) = true ↔ _
    rw [Bool.and_true, Bool.and_eq_true, RepD.eqv, RepD.eqv]
    exact ⟨fun ⟨h1, h2⟩ => Prod.ext h1 h2, fun h => by rw [h]; exact ⟨rfl, rfl⟩⟩
instance {α β : Type} [RepD α] [RepD β] : NN (α × β) := ⟨fun _ h => nomatch h⟩
instance instDOpt {α : Type} [RepD α] [NN α] : RepD (Option α) where
  D := fun x => match x with
    | none => .none
    | some y => RepD.D y
  dp := fun {K A H v x} e h => by
    cases x with
    | none =>
      cases h
      exact .non
    | some y => exact RepD.dp e h.2
  deep := RepD.deep (α := α)
  shp := fun x => by
    cases x with
    | none => exact ⟨rfl, Nat.zero_le _⟩
    | some y => exact RepD.shp y
  eqv := fun x y => by
    cases x with
    | none =>
      cases y with
      | none => simp [PyData.eqv]
      | some y =>
        have h := NN.nn y
        show PyData.eqv .none (RepD.D y) = true ↔ _
        cases e : RepD.D y <;> simp_all [PyData.eqv]
    | some x =>
      cases y with
      | none =>
        have h := NN.nn x
        show PyData.eqv (RepD.D x) .none = true ↔ _
        cases e : RepD.D x <;> simp_all [PyData.eqv]
      | some y =>
        show PyData.eqv (RepD.D x) (RepD.D y) = true ↔ _
        rw [RepD.eqv]
        exact ⟨fun h => by rw [h], fun h => Option.some.inj h⟩
section
variable {K : PySem.W.Frag} {A H : Hp} {R : List Hp} {α : Type} [RepD α] {x : α} {v : V}
theorem dp_of (S : St H (A :: R)) (h : Is A v x) : Dp K H v (RepD.D x) := RepD.dp S.1 h
theorem dp_la {xs : List α} (S : St H (A :: R)) (h : LA A H v xs) : Dp K H v (RepD.D xs) := by
  obtain ⟨a, vs, rfl, h1, h2⟩ := h
  exact .lst (SqL.of h1) (dpAll_of S.1 h2.1)
end
end SB
namespace SB
open PySem PySem.Spec PyProof.Rows L2 Res
/-- what is handed in, already reckoned -/
def tArgs (vs : List V) : TA := fun _ H Q => Q vs H
section
variable {K : PySem.W.Frag} {tl : TE} {ta : TA} {tu tz : TS} {tt : TT} {te : TE} {g : TG} {D : Ends} {σ : L2.St} {H : Hp} {Q : VK} {v : V} {vs : List Nat}
theorem c_c (h : Q v H) : tC v σ H Q := h
theorem q_forL (h : tl σ H fun v H1 => tFor (iList K (tC v)) g tu { D with nx := tz D } σ H1) : tSeq (tFor (iList K tl) g tu) tz D σ H := h
theorem s_forL (h : tl σ H fun v H1 => tFor (iList K (tC v)) g tu D σ H1) : tFor (iList K tl) g tu D σ H := h
theorem q_forR1 (h : ta σ H fun us H1 => tFor (iRng1 (tArgs us)) g tu { D with nx := tz D } σ H1) : tSeq (tFor (iRng1 ta) g tu) tz D σ H := h
theorem s_forR1 (h : ta σ H fun us H1 => tFor (iRng1 (tArgs us)) g tu D σ H1) : tFor (iRng1 ta) g tu D σ H := h
theorem q_forR2 (h : ta σ H fun us H1 => tFor (iRng2 (tArgs us)) g tu { D with nx := tz D } σ H1) : tSeq (tFor (iRng2 ta) g tu) tz D σ H := h
theorem s_forR2 (h : ta σ H fun us H1 => tFor (iRng2 (tArgs us)) g tu D σ H1) : tFor (iRng2 ta) g tu D σ H := h
theorem c_lcE (h : tl σ H fun v H1 => tLc (iList K (tC v)) g tt te vs σ H1 Q) : tLc (iList K tl) g tt te vs σ H Q := h
theorem c_lcER (h : ta σ H fun us H1 => tLc (iRng1 (tArgs us)) g tt te vs σ H1 Q) : tLc (iRng1 ta) g tt te vs σ H Q := h
end
/-- what is kept of the pieces -/
theorem St.drop {H : Hp} {m : Hp} {R : List Hp} (S : St H (m :: R)) (k : Nat) (hk : k < R.length) : St H (m :: R.eraseIdx k) := by
  have z := S.pick k hk
  exact ⟨z.1, fun n hn => z.2.1 n (List.mem_cons_of_mem _ hn), z.2.2.2.2⟩
/-! ## refusals -/
structure Cs where
  ex : Nat → Addr
  ring : Addr
  many : Addr
  row : Addr
  body : Addr
  field : Addr
  tower : Addr
  room : Addr
  err : Addr
/-! ## objects -/
class Ob (S : Type) where
  isAt : Cs → Hp → Hp → V → S → Prop
  mono : ∀ {T : Cs} {A B m : Hp} {v : V} {s : S}, Same A B → isAt T A m v s → isAt T B m v s
theorem upO {S : Type} [Ob S] {T : Cs} {A B m : Hp} {v : V} {s : S} (h : Ob.isAt T A m v s) (e : Same A B) : Ob.isAt T B m v s := Ob.mono e h
/-- what is raised; B: the heap at the call -/
def XA (T : Cs) (e : Exn) (cls : Value) (d : Option Addr) (B A : Hp) : Prop := match e with
  | .plain c => cls = .ref (T.ex c) ∧ d = none
  | .ring l => ∃ dd a vs, cls = .ref T.ring ∧ d = some dd ∧ A dd = some (.xd [("ring", .ref a)]) ∧ B dd = none ∧ B a = none ∧ A a = some (.lst vs) ∧ OL A vs l
  | .many n => ∃ dd, cls = .ref T.many ∧ d = some dd ∧ A dd = some (.xd [("many", .int n)]) ∧ B dd = none
  | .atRow n => ∃ dd, cls = .ref T.row ∧ d = some dd ∧ A dd = some (.xd [("at", .int n)]) ∧ B dd = none
theorem none_of_same {A B : Hp} {a : Addr} (e : Same A B) (h : B a = none) : A a = none := by
  cases h1 : A a with
  | none => rfl
  | some o => rw [e _ _ h1] at h; cases h
theorem xa_base {T : Cs} {e : Exn} {cls : Value} {d : Option Addr} {A B C : Hp} (g : Same A B) (h : XA T e cls d B C) : XA T e cls d A C := by
  cases e with
  | plain c => exact h
  | ring l => obtain ⟨dd, a, vs, h1, h2, h3, h4, h5, h6, h7⟩ := h; exact ⟨dd, a, vs, h1, h2, h3, none_of_same g h4, none_of_same g h5, h6, h7⟩
  | many n => obtain ⟨dd, h1, h2, h3, h4⟩ := h; exact ⟨dd, h1, h2, h3, none_of_same g h4⟩
  | atRow n => obtain ⟨dd, h1, h2, h3, h4⟩ := h; exact ⟨dd, h1, h2, h3, none_of_same g h4⟩
theorem xa_back {T : Cs} {e : Exn} {cls : Value} {d : Option Addr} {H A C n : Hp} {R : List Hp} (S : St H (A :: n :: R)) (h : XA T e cls d (join A n) C) : XA T e cls d A (minus C n) := by
  have hl : ∀ {a : Addr}, join A n a = none → A a = none := fun h => none_of_same same_join_l h
  have hr : ∀ {a : Addr}, join A n a = none → n a = none := fun h => none_of_same (same_join_r S.dj) h
  cases e with
  | plain c => exact h
  | ring l => obtain ⟨dd, a, vs, h1, h2, h3, h4, h5, h6, h7⟩ := h; exact ⟨dd, a, vs, h1, h2, minus_of h3 (hr h4), hl h4, hl h5, minus_of h6 (hr h5), OL.any h7⟩
  | many m => obtain ⟨dd, h1, h2, h3, h4⟩ := h; exact ⟨dd, h1, h2, minus_of h3 (hr h4), hl h4⟩
  | atRow m => obtain ⟨dd, h1, h2, h3, h4⟩ := h; exact ⟨dd, h1, h2, minus_of h3 (hr h4), hl h4⟩
theorem minus_mono {A B n : Hp} (g : Same A B) : Same (minus A n) (minus B n) := fun b o h => minus_of (g _ _ (minus_some h).1) (minus_some h).2
theorem minus_none {A n : Hp} {a : Addr} (h : A a = none) : minus A n a = none := by
  unfold minus
  cases n a with
  | none => exact h
  | some _ => rfl
theorem xa_back2 {T : Cs} {e : Exn} {cls : Value} {d : Option Addr} {B C n : Hp} (g : Same n B) (h : XA T e cls d B C) : XA T e cls d (minus B n) (minus C n) := by
  have hr : ∀ {a : Addr}, B a = none → n a = none := fun h => none_of_same g h
  cases e with
  | plain c => exact h
  | ring l => obtain ⟨dd, a, vs, h1, h2, h3, h4, h5, h6, h7⟩ := h; exact ⟨dd, a, vs, h1, h2, minus_of h3 (hr h4), minus_none h4, minus_none h5, minus_of h6 (hr h5), OL.any h7⟩
  | many m => obtain ⟨dd, h1, h2, h3, h4⟩ := h; exact ⟨dd, h1, h2, minus_of h3 (hr h4), minus_none h4⟩
  | atRow m => obtain ⟨dd, h1, h2, h3, h4⟩ := h; exact ⟨dd, h1, h2, minus_of h3 (hr h4), minus_none h4⟩
/-- a def that is called by its name -/
structure Glob (P : Program) (w : World) (K : PySem.W.Frag) (mg : Str → Option Value) (base : Heap) (X : CXT) (k : Nat) (x : Str) (ps : List Str) (sp : Sp) (f : Addr) (fd : FuncData) : Prop where
  ok : FnOk P w K mg base X k f fd ps sp
  g : mg x = some (.ref f)
  kp : PySem.W.keepIn K (.ref f) = true
  b : Binds K fd ps []
/-- an own class of refusals without fields -/
structure ExC (K : PySem.W.Frag) (mg : Str → Option Value) (x : Str) (C : Addr) : Prop where
  g : mg x = some (.ref C)
  x : PySem.W.excIn K C [.type "ValueError", .type "Exception", .type "BaseException", .type "object"] "ValueError.__new__" = true
  kp : PySem.W.keepIn K (.ref C) = true
  b : PySem.W.subIn K (.ref C) (.type "BaseException") = some true
  t : PySem.W.typeIn K (.ref C) = some (.type "type")
def tRaise0 (E : XK) (C : Addr) : TS := fun _ _ H => E (.ref C) none H
theorem s_raise {E : XK} {C : Addr} {D : Ends} {σ : L2.St} {H : Hp} (h : E (.ref C) none H) : tRaise0 E C D σ H := h
end SB
namespace SB
open PySem PySem.Spec PyProof.Rows L2 Res
def cutL {α : Type} (xs : List α) (lo hi : Option Int) : List α := (xs.drop (HT.sIx xs.length 0 lo)).take (HT.sIx xs.length xs.length hi - HT.sIx xs.length 0 lo)
section
variable {ω α β γ : Type} [Rep α] [Rep β] {A H : Hp} {v u : V} {xs : List α} {R : List Hp} {K : PySem.W.Frag} {Q : VK} {Qr : γ → Prop} {Er : Exn → ω → Prop}
theorem c_slice {lo hi : Option Int} (h : LA A H v xs) (k : RawL A H Q (cutL xs lo hi)) : rSlL K v lo hi H Q := by
  obtain ⟨a, vs, rfl, h1, h2⟩ := h
  refine ⟨a, vs, rfl, SqL.of h1, fun p hp => k p _ hp ?_⟩
  have e : cutV vs lo hi = (vs.drop (HT.sIx xs.length 0 lo)).take (HT.sIx xs.length xs.length hi - HT.sIx xs.length 0 lo) := by
    unfold cutV
    rw [h2.len]
  rw [e]
  refine ⟨(h2.1.drop _).take _, ?_⟩
  unfold cutL
  rw [List.length_take, List.length_drop]
  have := h2.2
  omega
theorem c_ixT0 {x : α × β} (S : St H (A :: R)) (h : Is A v x) (k : ∀ w, Is A w x.1 → Q w H) : rIxT K v (.int 0) H Q := by
  obtain ⟨a, u, w, rfl, h1, h2, h3⟩ := h
  exact ⟨a, [u, w], 0, u, rfl, rfl, SqT.of (S.1 _ _ h1), rfl, k u h2⟩
theorem c_ixT1 {x : α × β} (S : St H (A :: R)) (h : Is A v x) (k : ∀ w, Is A w x.2 → Q w H) : rIxT K v (.int 1) H Q := by
  obtain ⟨a, u, w, rfl, h1, h2, h3⟩ := h
  exact ⟨a, [u, w], 1, w, rfl, rfl, SqT.of (S.1 _ _ h1), rfl, k w h3⟩
theorem c_ixO0 {x : Option (α × β)} {f : α × β → Res ω γ} (S : St H (A :: R)) (h : Is A v x) (hm : (bind (getR x) f).wp Qr Er) (k : ∀ y w, Is A w y.1 → (f y).wp Qr Er → Q w H) : rIxT K v (.int 0) H Q := by
  cases x with
  | none =>
    unfold getR at hm
    exact hm.elim
  | some y =>
    unfold getR at hm
    exact c_ixT0 S h.2 fun w hw => k y w hw hm
theorem c_ixO1 {x : Option (α × β)} {f : α × β → Res ω γ} (S : St H (A :: R)) (h : Is A v x) (hm : (bind (getR x) f).wp Qr Er) (k : ∀ y w, Is A w y.2 → (f y).wp Qr Er → Q w H) : rIxT K v (.int 1) H Q := by
  cases x with
  | none =>
    unfold getR at hm
    exact hm.elim
  | some y =>
    unfold getR at hm
    exact c_ixT1 S h.2 fun w hw => k y w hw hm
theorem opt_dec {x : Option α} (h : Is A v x) : decide (v = .non) = x.isNone := by
  cases x with
  | none =>
    have h : v = .non := h
    rw [h]
    rfl
  | some y => exact decide_eq_false h.1
theorem c_isN {x : Option α} (h : Is A v x) (k : Q (.bl x.isNone) H) : L2.rIsN v .non H Q := by
  refine ⟨rfl, ?_⟩
  rw [opt_dec h]
  exact k
theorem c_notN {x : Option α} (h : Is A v x) (k : Q (.bl (!x.isNone)) H) : L2.rNotN v .non H Q := by
  refine ⟨rfl, ?_⟩
  rw [opt_dec h]
  exact k
theorem c_app {p : Addr} {ws : List V} {x : α} {f : List α → Res ω γ} (S : St H (A :: one p (.lst ws) :: R)) (h : OL A ws xs) (hx : Is A u x) (hm : (bind (appR xs x) f).wp Qr Er)
    (k : ∀ zs us, (f zs).wp Qr Er → ∀ H', St H' (A :: one p (.lst us) :: R) → OL A us zs → Q .non H') : rAppend (.ref p) [u] H Q := by
  unfold appR at hm
  by_cases c : xs.length < sizeLine
  · rw [if_pos c] at hm
    exact ⟨p, ws, u, rfl, rfl, S.second _ _ one_same, by rw [h.len]; exact c, k _ _ hm _ S.wr1 ⟨h.1.append ⟨hx, trivial⟩, by rw [List.length_append]; exact c⟩⟩
  · rw [if_neg c] at hm
    exact hm.elim
end
end SB
namespace SB
open PySem PySem.Spec PyProof.Rows L2 Res
/-! ## readings, one step each -/
section
variable {K : PySem.W.Frag} {σ : L2.St} {H : Hp} {Q : VK} {ta tb te : TE} {r : R2} {v : V} {i : Nat} {t tr : TA} {rc : List V → Hp → VK → Prop} {sp : Sp} {dvs : List V} {E : XK}
theorem c_var (hi : σ[i]? = some (some v)) (h : Q v H) : tVar i σ H Q := ⟨v, hi, h⟩
theorem c_op (h : ta σ H fun x H1 => tb σ H1 fun y H2 => r x y H2 Q) : tOp r ta tb σ H Q := h
theorem c_un {r : V → Hp → VK → Prop} (h : ta σ H fun x H1 => r x H1 Q) : tUn r ta σ H Q := h
theorem c_cb (h : t σ H fun vs H1 => rc vs H1 Q) : tCB rc t σ H Q := h
theorem c_nil {Q : List V → Hp → Prop} (h : Q [] H) : tNil σ H Q := h
theorem c_cons {Q : List V → Hp → Prop} (h : te σ H fun x H1 => tr σ H1 fun xs H2 => Q (x :: xs) H2) : tCons te tr σ H Q := h
theorem c_tst {Q : Bool → Hp → Prop} (h : te σ H fun x H' => ∃ k, x = .bl k ∧ Q k H') : tTest te σ H Q := h
theorem c_tb {Q : Bool → Hp → Prop} (h : te σ H fun x H' => ∃ k, x = .bl k ∧ Q k H') : tB te σ H Q := h
theorem c_bl {b : Bool} {P : Bool → Prop} (h : P b) : ∃ c, V.bl b = .bl c ∧ P c := ⟨b, rfl, h⟩
theorem c_int {n : Int} {P : Int → Prop} (h : P n) : ∃ c, V.int n = .int c ∧ P c := ⟨n, rfl, h⟩
theorem c_I0 {g : Int → Int → V} {a b : Int} (h : Q (g a b) H) : rI0 g (.int a) (.int b) H Q := ⟨a, b, rfl, rfl, h⟩
theorem c_I {C : Int → Int → Prop} {g : Int → Int → V} {a b : Int} (hc : C a b) (h : Q (g a b) H) : rI C g (.int a) (.int b) H Q := ⟨a, b, rfl, rfl, hc, h⟩
theorem c_U {g : Int → V} {a : Int} (h : Q (g a) H) : rU g (.int a) H Q := ⟨a, rfl, h⟩
theorem c_notV (h : ta σ H fun x H1 => ∃ c, x = .bl c ∧ Q (.bl (!c)) H1) : tNotV ta σ H Q := h
theorem c_andV (h : ta σ H fun x H1 => ∃ c, x = .bl c ∧ if c = true then tb σ H1 Q else Q (.bl false) H1) : tAndV ta tb σ H Q := h
theorem c_orV (h : ta σ H fun x H1 => ∃ c, x = .bl c ∧ if c = true then Q (.bl true) H1 else tb σ H1 Q) : tOrV ta tb σ H Q := h
theorem c_tlst (h : t σ H fun xs H1 => NewL Q xs H1) : tLst t σ H Q := h
theorem c_ttup (h : t σ H fun xs H1 => NewT Q xs H1) : tTup t σ H Q := h
theorem c_sl {rs : V → Option Int → Option Int → Hp → VK → Prop} {tl th : TO} (h : te σ H fun x H1 => tl σ H1 fun l H2 => th σ H2 fun u H3 => rs x l u H3 Q) : tSl rs te tl th σ H Q := h
theorem c_nopart {Q : Option Int → Hp → Prop} (h : Q none H) : tNoPart σ H Q := h
theorem c_part {Q : Option Int → Hp → Prop} (h : te σ H fun x H1 => ∃ i, x = .int i ∧ Q (some i) H1) : tPart te σ H Q := h
theorem c_call (h : t σ H fun vs H1 => sp (vs ++ dvs) H1 Q E) : tCall sp dvs E t σ H Q := h
theorem c_bm {T : String} {rm : V → List V → Hp → VK → Prop} (h : te σ H fun x H1 => tyV K T x H1 ∧ t σ H1 fun xs H2 => rm x xs H2 Q) : tBM K T rm te t σ H Q := h
theorem c_bm0 {T : String} {rm : V → List V → Hp → VK → Prop} (h : te σ H fun x H1 => tyV K T x H1 ∧ rm x [] H1 Q) : tBM0 K T rm te σ H Q := h
theorem nx_mk {a d c : L2.St → Hp → Prop} {b : VK} (h : a σ H) : (Ends.mk a b c d).nx σ H := h
theorem c_and2 {P1 P2 : Prop} (h1 : P1) (h2 : P2) : P1 ∧ P2 := ⟨h1, h2⟩
theorem s_aug {f : Int → Int → Int} {x : V} {D : Ends} (hi : σ[i]? = some (some x)) (h : te σ H fun y H1 => ipI f x y H1 fun z H2 => D.nx (σ.set i (some z)) H2) : tAug i te (ipI f) D σ H := ⟨x, hi, h⟩
theorem q_aug {f : Int → Int → Int} {x : V} {D : Ends} {tz : TS} (hi : σ[i]? = some (some x)) (h : te σ H fun y H1 => ipI f x y H1 fun z H2 => tz D (σ.set i (some z)) H2) : tSeq (tAug i te (ipI f)) tz D σ H := ⟨x, hi, h⟩
theorem c_ip {f : Int → Int → Int} {a b : Int} (h : Q (.int (f a b)) H) : ipI f (.int a) (.int b) H Q := ⟨a, b, rfl, rfl, h⟩
end
end SB
namespace SB
open PySem PySem.Spec PyProof.Rows L2 Res
/-! ## comprehensions whose parts may stop, or change an object -/
def compG {ω α β σT : Type} (body : α → σT → Res ω (Option β × σT)) : List α → σT → Res ω (List β × σT)
  | [], s => .ok ([], s)
  | x :: xs, s => match body x s with
    | .ok (r, s') => bind (compG body xs s') fun y => match r with
      | some b => .ok (b :: y.1, y.2)
      | none => .ok y
    | _ => .bad
def andS {ω σT : Type} (c : Bool) (s : σT) (m : Res ω (Bool × σT)) : Res ω (Bool × σT) := if c = true then m else .ok (false, s)
def orS {ω σT : Type} (c : Bool) (s : σT) (m : Res ω (Bool × σT)) : Res ω (Bool × σT) := if c = true then .ok (true, s) else m
theorem c_yes {σ : L2.St} {H : Hp} {te : TE} {K1 : VK} {K0 : Hp → Prop} (h : te σ H K1) : tYes σ H (fun b H3 => if b = true then te σ H3 K1 else K0 H3) := by
  show (if true = true then te σ H K1 else K0 H)
  rw [if_pos rfl]
  exact h
section
variable {ω α β γ σT : Type} [Rep α] [Rep β] {A H : Hp} {v : V} {xs : List α} {R : List Hp} {K : PySem.W.Frag} {Q : VK} {Qr : γ → Prop} {Er : Exn → ω → Prop}
theorem compG_cons {body : α → σT → Res ω (Option β × σT)} {x : α} {l : List α} {s : σT} {f : List β × σT → Res ω γ} (h : (bind (compG body (x :: l) s) f).wp Qr Er) :
    (body x s).wp (fun r => (bind (compG body l r.2) fun y => f (match r.1 with | some b => (b :: y.1, y.2) | none => y)).wp Qr Er) (fun _ _ => False) := by
  unfold compG at h
  cases hb : body x s with
  | bad =>
    rw [hb] at h
    exact h
  | ex e w =>
    rw [hb] at h
    exact h.elim
  | ok r =>
    obtain ⟨r, s'⟩ := r
    rw [hb] at h
    show (bind (compG body l s') _).wp Qr Er
    have h : (bind (bind (compG body l s') fun y => match r with | some b => .ok (b :: y.1, y.2) | none => .ok y) f).wp Qr Er := h
    cases hc : compG body l s' with
    | bad =>
      rw [hc] at h
      exact h
    | ex e w =>
      rw [hc] at h
      exact h
    | ok y =>
      rw [hc] at h
      cases r with
      | none => exact h
      | some b => exact h
/-- the step of such a comprehension -/
def StepG (A : Hp) (tt : TT) (te : TE) (σ2 : V → L2.St) (body : α → σT → Res ω (Option β × σT)) (Rel : Hp → List Hp → σT → Prop) (P : V → α → Hp → Prop) : Prop :=
  ∀ x w A' H' R' s n (C : Option β → σT → Prop) (K1 : VK) (K0 : Hp → Prop), P w x A' → Same A A' → St H' (A' :: n :: R') → Rel A' R' s →
    (∀ A'' H'' R'' y u s', Same A' A'' → St H'' (A'' :: n :: R'') → Rel A'' R'' s' → Is A'' u y → C (some y) s' → K1 u H'') →
    (∀ A'' H'' R'' s', Same A' A'' → St H'' (A'' :: n :: R'') → Rel A'' R'' s' → C none s' → K0 H'') →
    (body x s).wp (fun r => C r.1 r.2) (fun _ _ => False) → tt (σ2 w) H' (fun b H3 => if b = true then te (σ2 w) H3 K1 else K0 H3)
/-- what stands while it goes: what is made so far, and what is still to come -/
def CgP (A : Hp) (Rel : Hp → List Hp → σT → Prop) (body : α → σT → Res ω (Option β × σT)) (f : List β × σT → Res ω γ) (Qr : γ → Prop) (Er : Exn → ω → Prop) (xs : List α) (Dl : Addr) (i : Nat) (H' : Hp) : Prop :=
  ∃ A' R' ws ys s, Same A A' ∧ St H' (A' :: one Dl (.lst ws) :: R') ∧ Rel A' R' s ∧ All2 (Rep.is A') ws ys ∧ ys.length ≤ i ∧ (bind (compG body (xs.drop i) s) fun y => f (ys ++ y.1, y.2)).wp Qr Er
theorem cg_turn {tt : TT} {te : TE} {σ2 : V → L2.St} {body : α → σT → Res ω (Option β × σT)} {Rel : Hp → List Hp → σT → Prop} {P : V → α → Hp → Prop} {f : List β × σT → Res ω γ} {Dl : Addr} {i : Nat} {x : α} {w : V} {H' : Hp}
    (step : StepG A tt te σ2 body Rel P) (hx : xs[i]? = some x) (hi : i < sizeLine) (hP : ∀ A', Same A A' → P w x A') (p : CgP A Rel body f Qr Er xs Dl i H') :
    tt (σ2 w) H' fun b H3 => if b = true then te (σ2 w) H3 fun y H4 => ∃ acc, H4 Dl = some (.lst acc) ∧ acc.length < sizeLine ∧ CgP A Rel body f Qr Er xs Dl (i + 1) (upd H4 Dl (.lst (acc ++ [y]))) else CgP A Rel body f Qr Er xs Dl (i + 1) H3 := by
  obtain ⟨A', R', ws, ys, s, e, S, hr, hv, hl, hw⟩ := p
  have ed : xs.drop i = x :: xs.drop (i + 1) := by
    obtain ⟨hlt, hg⟩ := List.getElem?_eq_some_iff.mp hx
    rw [← hg]
    exact List.drop_eq_getElem_cons hlt
  rw [ed] at hw
  refine step x w A' H' R' s (one Dl (.lst ws)) (fun r s' => (bind (compG body (xs.drop (i + 1)) s') fun y => f (ys ++ (match r with | some b => (b :: y.1, y.2) | none => y).1, (match r with | some b => (b :: y.1, y.2) | none => y).2)).wp Qr Er) _ _ (hP A' e) e S hr ?_ ?_ (compG_cons (f := fun y => f (ys ++ y.1, y.2)) hw)
  · intro A'' H'' R'' y u s' e' S' hr' hu hc
    refine ⟨ws, S'.second _ _ one_same, ?_, A'', R'', ws ++ [u], ys ++ [y], s', e.trans e', S'.wr1, hr', ?_, ?_, ?_⟩
    · rw [hv.len]
      omega
    · exact (hv.mono fun _ _ h => Rep.mono e' h).append ⟨hu, trivial⟩
    · rw [List.length_append, List.length_singleton]
      omega
    · have hc : (bind (compG body (xs.drop (i + 1)) s') fun z => f (ys ++ y :: z.1, z.2)).wp Qr Er := hc
      have e1 : (fun z : List β × σT => f (ys ++ [y] ++ z.1, z.2)) = fun z => f (ys ++ y :: z.1, z.2) := by
        funext z
        rw [List.append_assoc]
        rfl
      rw [e1]
      exact hc
  · intro A'' H'' R'' s' e' S' hr' hc
    exact ⟨A'', R'', ws, ys, s', e.trans e', S', hr', hv.mono fun _ _ h => Rep.mono e' h, by omega, hc⟩
theorem c_lcGL {σ : L2.St} {tl : TE} {tt : TT} {te : TE} {j : Nat} {vs : List Nat} {s0 : σT} {body : α → σT → Res ω (Option β × σT)} {f : List β × σT → Res ω γ} (Rel : Hp → List Hp → σT → Prop)
    (S : St H (A :: R)) (htl : ∀ Q' : VK, Q' v H → tl σ H Q') (hx : Is A v xs) (h0 : Rel A R s0) (hm : (bind (compG body xs s0) f).wp Qr Er) (hw : ∀ x, wipe ((wipe σ vs).set j (some x)) vs = wipe σ vs)
    (step : StepG A tt te (fun w => (wipe σ vs).set j (some w)) body Rel (fun w x A' => x ∈ xs ∧ Is A' w x))
    (k : ∀ p A' H' R' ws y, (f y).wp Qr Er → Same A A' → St H' (A' :: one p (.lst ws) :: R') → Rel A' R' y.2 → OL A' ws y.1 → Q (.ref p) H') : tLc (iList K tl) (gName j) tt te vs σ H Q := by
  obtain ⟨a, us, rfl, h1, h2⟩ := hx
  refine htl _ ⟨a, rfl, ⟨us, SqL.of (S.1 _ _ h1)⟩, fun Dl hD => ?_⟩
  refine lc_list (xs := us) (CgP A Rel body f Qr Er xs Dl) ⟨A, R, [], [], s0, Same.refl _, S.newM hD, h0, trivial, Nat.le_refl _, hm⟩ (fun i H' _ p => ?_) (fun i w H' hi p => ?_) (fun H' p => ?_)
  · obtain ⟨A', R', ws, ys, s, e, S', _⟩ := p
    exact SqL.of (S'.1 _ _ (e _ _ h1))
  · obtain ⟨x, hxi, hxw⟩ := h2.1.getV hi
    have hlt : i < xs.length := (List.getElem?_eq_some_iff.mp hxi).1
    exact ⟨hw w, cg_turn step hxi (Nat.lt_of_lt_of_le hlt h2.2) (fun A' e => ⟨List.mem_of_getElem? hxi, Rep.mono e hxw⟩) p⟩
  · obtain ⟨A', R', ws, ys, s, e, S', hr, hv, hl, hc⟩ := p
    rw [h2.len, List.drop_length] at hc
    have hc : (f (ys ++ [], s)).wp Qr Er := hc
    rw [List.append_nil] at hc
    exact k Dl A' H' R' ws (ys, s) hc e S' hr ⟨hv, by rw [h2.len] at hl; exact Nat.le_trans hl h2.2⟩
theorem c_lcGR {σ : L2.St} {ta : TA} {tt : TT} {te : TE} {j : Nat} {vs : List Nat} {n : Int} {s0 : σT} {body : Int → σT → Res ω (Option β × σT)} {f : List β × σT → Res ω γ} (Rel : Hp → List Hp → σT → Prop)
    (S : St H (A :: R)) (hta : ∀ Q' : List V → Hp → Prop, Q' [.int n] H → ta σ H Q') (h0 : Rel A R s0) (hm : (bind (bind (rlR n) fun l => compG body l s0) f).wp Qr Er) (hw : ∀ x, wipe ((wipe σ vs).set j (some x)) vs = wipe σ vs)
    (step : StepG A tt te (fun w => (wipe σ vs).set j (some w)) body Rel (fun w x _ => x ∈ rangeL 0 n ∧ w = .int x))
    (k : ∀ p A' H' R' ws y, (f y).wp Qr Er → Same A A' → St H' (A' :: one p (.lst ws) :: R') → Rel A' R' y.2 → OL A' ws y.1 → Q (.ref p) H') : tLc (iRng1 ta) (gName j) tt te vs σ H Q := by
  unfold rlR at hm
  by_cases hz : n ≤ 1000000 ∧ -1000000 ≤ n
  case neg =>
    rw [if_neg hz] at hm
    exact hm.elim
  rw [if_pos hz] at hm
  have hm : (bind (compG body (rangeL 0 n) s0) f).wp Qr Er := hm
  have hsz : (1000000 : Nat) < sizeLine := by decide
  have hlen : (rangeL 0 n).length = n.toNat := by unfold rangeL; rw [List.length_map, List.length_range]; omega
  refine hta _ ⟨n, rfl, by omega, by omega, fun Dl hD => ?_⟩
  refine lc_range (lo := 0) (n := n.toNat) (CgP A Rel body f Qr Er (rangeL 0 n) Dl) ⟨A, R, [], [], s0, Same.refl _, S.newM hD, h0, trivial, Nat.le_refl _, hm⟩ (fun i H' hi p => ?_) (fun H' p => ?_)
  · have hxi : (rangeL 0 n)[i]? = some (0 + (i : Int)) := by
      unfold rangeL
      rw [List.getElem?_map, List.getElem?_range (by omega)]
      rfl
    exact ⟨hw _, cg_turn step hxi (Nat.lt_of_le_of_lt (by omega) hsz) (fun A' e => ⟨List.mem_of_getElem? hxi, rfl⟩) p⟩
  · obtain ⟨A', R', ws, ys, s, e, S', hr, hv, hl, hc⟩ := p
    rw [← hlen, List.drop_length] at hc
    have hc : (f (ys ++ [], s)).wp Qr Er := hc
    rw [List.append_nil] at hc
    exact k Dl A' H' R' ws (ys, s) hc e S' hr ⟨hv, Nat.le_trans hl (Nat.le_of_lt (Nat.lt_of_le_of_lt (by omega) hsz))⟩
/-- a test that changes objects -/
theorem q_testS {c : TT} {P : Bool → Hp → Prop} {σ : L2.St} {m : Res ω (Bool × σT)} {f : Bool × σT → Res ω γ} (Rel : Hp → List Hp → σT → Prop) (hm : (bind m f).wp Qr Er)
    (h1 : ∀ Qb : Bool → Hp → Prop, (∀ b s A' H' R', Same A A' → St H' (A' :: R') → Rel A' R' s → (f (b, s)).wp Qr Er → Qb b H') → m.wp (fun r => (f r).wp Qr Er) Er → c σ H Qb)
    (h2 : ∀ r A' H' R', Same A A' → St H' (A' :: R') → Rel A' R' r.2 → (f r).wp Qr Er → P r.1 H') : c σ H P := h1 P (fun b s A' H' R' e S hr h => h2 (b, s) A' H' R' e S hr h) (wp_bind hm)
theorem c_andS {c : Bool} {s : σT} {m : Res ω (Bool × σT)} {Q : Bool × σT → Prop} {P1 P2 : Prop} (hm : (andS c s m).wp Q Er) (h1 : c = true → m.wp Q Er → P1) (h2 : c = false → Q (false, s) → P2) : if c = true then P1 else P2 := by
  cases c with
  | true => exact h1 rfl hm
  | false => exact h2 rfl hm
theorem c_orS {c : Bool} {s : σT} {m : Res ω (Bool × σT)} {Q : Bool × σT → Prop} {P1 P2 : Prop} (hm : (orS c s m).wp Q Er) (h1 : c = true → Q (true, s) → P1) (h2 : c = false → m.wp Q Er → P2) : if c = true then P1 else P2 := by
  cases c with
  | true => exact h1 rfl hm
  | false => exact h2 rfl hm
/-- xs[i] = e -/
@[irreducible] def setR (xs : List α) (i : Int) (x : α) : Res ω (List α) := match ixN xs.length i with
  | some j => .ok (xs.set j x)
  | none => .bad
theorem c_set {p : Addr} {ws : List V} {x : α} {u : V} {i : Int} {f : List α → Res ω γ} {N : Hp → Prop} (S : St H (A :: one p (.lst ws) :: R)) (h : OL A ws xs) (hx : Is A u x) (hm : (bind (setR xs i x) f).wp Qr Er)
    (k : ∀ zs us, (f zs).wp Qr Er → ∀ H', St H' (A :: one p (.lst us) :: R) → OL A us zs → N H') : rSetL (.ref p) (.int i) u H N := by
  unfold setR at hm
  cases e : ixN xs.length i with
  | none =>
    rw [e] at hm
    exact hm.elim
  | some j =>
    rw [e] at hm
    exact ⟨p, ws, i, j, rfl, rfl, S.second _ _ one_same, by rw [h.len]; exact e, k _ _ hm _ S.wr1 ⟨h.1.set hx j, by rw [List.length_set]; exact h.2⟩⟩
end
section
variable {te to ti : TE} {tz : TS} {D : Ends} {σ : L2.St} {H : Hp} {r : TSet}
theorem q_sub (h : te σ H fun v H1 => to σ H1 fun o H2 => ti σ H2 fun i H3 => r o i v H3 fun H4 => tz D σ H4) : tSeq (tAsg te (gSub to ti r)) tz D σ H := h
theorem s_sub (h : te σ H fun v H1 => to σ H1 fun o H2 => ti σ H2 fun i H3 => r o i v H3 fun H4 => D.nx σ H4) : tAsg te (gSub to ti r) D σ H := h
end
end SB

namespace SB
open PySem PySem.Spec PyProof.Rows L2 Res
/-! ## the bag of draws -/
structure Bag where
  l : List Int
  i : Int
  c : Int
  s : Int
instance : Ob Bag := ⟨fun _ A m v b => ∃ p u, v = .ref p ∧ m = one p (.lst [u, .int b.i, .int b.c, .int b.s]) ∧ Is A u b.l, fun e ⟨p, u, h1, h2, h3⟩ => ⟨p, u, h1, h2, up h3 e⟩⟩
/-- xs[i] op= e reads a list's item -/
theorem get_list {X : Cx} : PGet X (rIxL X.K) := by
  intro pins s σ H x y v u Q I rx ry h
  obtain ⟨p, xs, i, z, rfl, rfl, hq, he, q⟩ := h
  cases rx
  obtain ⟨t, rfl⟩ := ry
  obtain ⟨its, r, pl, hz⟩ := I.list hq
  obtain ⟨j, h1, h2, h3, h4, h5⟩ := atI_get he
  obtain ⟨w, ew, rw'⟩ := r.get h2
  have hl := r.length
  have hn := line63
  have fin : EP X pins σ Q w s := ⟨z, H, I, rw', q⟩
  by_cases h0 : 0 ≤ i
  · have hj : i.toNat = j := by
      rw [seqIndex_of h0 h5] at h1
      exact Option.some.inj h1
    exact wpAny_getItem_list pl.isList h0 (by omega) (by rw [hj]; simpa using ew) fin
  · have hj : (i + (its.toArray.size : Int)).toNat = j := by
      rw [seqIndex_neg (by omega) h4] at h1
      rw [List.size_toArray, ← hl]
      exact Option.some.inj h1
    exact wpAny_getItem_list_neg pl.isList (by omega) (by rw [List.size_toArray] <;> omega) (by omega) (by rw [hj]; simpa using ew) fin
def mixV (x i many : Int) : Int := ((x * 48271 + i * 16807 + 11) % 2147483647 * ((x * 48271 + i * 16807 + 11) % 2147483647) % 2147483629 + i) * 69621 % 998244353 / 13 % many
def pullV (b : Bag) (many : Int) : Int × Bag :=
  if b.c ≤ 1 then
    if h : b.i + 1 ≤ (b.l.length : Int) then
      if b.l.getD b.i.toNat 0 < 10 ^ 18 then (mixV (b.l.getD b.i.toNat 0) (b.i + 1) many, { b with i := b.i + 1 })
      else (b.l.getD b.i.toNat 0 % many, { b with i := b.i + 1, c := b.l.getD b.i.toNat 0 / many })
    else (mixV b.s (b.i + 1) many, { b with i := b.i + 1 })
  else (b.c % many, { b with c := b.c / many })
@[irreducible] def m_law_pull (b : Bag) (many : Int) : Res Bag (Int × Bag) := if 0 < many ∧ many < 1073741824 ∧ 0 ≤ b.i then .ok (pullV b many) else .bad
theorem mix_lt {x i many : Int} (h : 0 < many) : 0 ≤ mixV x i many ∧ mixV x i many < many := ⟨Int.emod_nonneg _ (by omega), Int.emod_lt_of_pos _ h⟩
theorem pull_ok {b : Bag} {many : Int} (hi : 0 ≤ b.i) (h : 0 < many) (h' : many < 1073741824) : ∃ r b', m_law_pull b many = .ok (r, b') ∧ 0 ≤ r ∧ r < many ∧ 0 ≤ b'.i := by
  refine ⟨(pullV b many).1, (pullV b many).2, ?_, ?_⟩
  · unfold m_law_pull
    rw [if_pos ⟨h, h', hi⟩]
  · unfold pullV
    split
    · split
      · split
        · exact ⟨(mix_lt h).1, (mix_lt h).2, by show 0 ≤ b.i + 1; omega⟩
        · exact ⟨Int.emod_nonneg _ (by omega), Int.emod_lt_of_pos _ h, by show 0 ≤ b.i + 1; omega⟩
      · exact ⟨(mix_lt h).1, (mix_lt h).2, by show 0 ≤ b.i + 1; omega⟩
    · exact ⟨Int.emod_nonneg _ (by omega), Int.emod_lt_of_pos _ h, hi⟩
def sp_law_pull (T : Cs) (K : PySem.W.Frag) : Sp := fun vs H Q E => ∃ (A : Hp) (R : List Hp) (m_bag_here : Hp) (v_bag_here : V) (x_bag_here : Bag) (x_many : Int), vs = [v_bag_here, (.int x_many)] ∧ St H (A :: m_bag_here :: R) ∧ Ob.isAt T A m_bag_here v_bag_here x_bag_here ∧ (m_law_pull x_bag_here x_many).wp (fun y => ∀ (A' H' : Hp) (m0 : Hp), Same A A' → St H' (A' :: m0 :: R) → Ob.isAt T A' m0 v_bag_here y.2 → Q (.int y.1) H') (fun _ _ => False)
/-- the script -/
def Scr (K : PySem.W.Frag) (A : Hp) (v : V) (ns : List Int) : Prop := ∃ a, v = .ref a ∧ SqL K A a (ns.map V.int) ∧ ns.length ≤ 63
theorem upS {K : PySem.W.Frag} {A B : Hp} {v : V} {ns : List Int} (h : Scr K A v ns) (e : Same A B) : Scr K B v ns := by
  obtain ⟨a, h1, h2, h3⟩ := h
  exact ⟨a, h1, e.seq h2, h3⟩
theorem c_sliceS {K : PySem.W.Frag} {A H : Hp} {R : List Hp} {v : V} {ns : List Int} {lo hi : Option Int} {Q : VK} (S : St H (A :: R)) (h : Scr K A v ns) (k : RawL A H Q (cutL ns lo hi)) : rSlL K v lo hi H Q := by
  obtain ⟨a, rfl, h2, h3⟩ := h
  refine ⟨a, _, rfl, S.1.seq h2, fun p hp => ?_⟩
  have e : cutV (ns.map V.int) lo hi = (cutL ns lo hi).map V.int := by
    unfold cutV cutL
    rw [List.length_map, List.map_take, List.map_drop]
  rw [e]
  refine k p _ hp (int_ol ?_)
  unfold cutL
  rw [List.length_take, List.length_drop]
  have : 63 ≤ sizeLine := by decide
  omega
theorem c_bag {T : Cs} {A H : Hp} {R : List Hp} {u : V} {l : List Int} {i c s : Int} {Q : VK} (S : St H (A :: R)) (h : Is A u l) (k : ∀ p m H', St H' (A :: m :: R) → Ob.isAt T A m (.ref p) (Bag.mk l i c s) → Q (.ref p) H') :
    NewL Q [u, .int i, .int c, .int s] H :=
  ⟨Nat.le_of_lt (small1000 (show 4 ≤ 1000 by decide)), fun p hp => k p _ _ (S.newM hp) ⟨p, u, rfl, rfl, h⟩⟩
/-- an item of a bag -/
abbrev tBx (K : PySem.W.Frag) (k : Int) : TE := tOp (rIxL K) (tVar 0) (tC (.int k))
abbrev rdMul (a b : TE) : TE := tOp (rI CMul fun i j => .int (i * j)) a b
abbrev rdAdd (a b : TE) : TE := tOp (rI0 fun i j => .int (i + j)) a b
abbrev rdMod (a b : TE) : TE := tOp (rI (fun _ j => 0 < j) fun i j => .int (i % j)) a b
abbrev rdDiv (a b : TE) : TE := tOp (rI CDiv fun i j => .int (i / j)) a b
abbrev rdLen (K : PySem.W.Frag) : TE := tCB (Evl.rLenS K) (tCons (tBx K 0) tNil)
def rd_pull_mix (K : PySem.W.Frag) : TS := tSeq (tAsg (rdMod (rdAdd (rdAdd (rdMul (tVar 2) (tC (.int 48271))) (rdMul (tBx K 1) (tC (.int 16807)))) (tC (.int 11))) (tC (.int 2147483647))) (gName 3))
  (tSeq (tAsg (rdMod (rdMul (tVar 3) (tVar 3)) (tC (.int 2147483629))) (gName 3))
  (tRet (rdMod (rdDiv (rdMod (rdMul (rdAdd (tVar 3) (tBx K 1)) (tC (.int 69621))) (tC (.int 998244353))) (tC (.int 13))) (tVar 1))))
def rd_pull_end (K : PySem.W.Frag) : TS := tSeq (tAsg (rdMod (tBx K 2) (tVar 1)) (gName 4)) (tSeq (tAsg (rdDiv (tBx K 2) (tVar 1)) (gSub (tVar 0) (tC (.int 2)) rSetL)) (tRet (tVar 4)))
def rd_law_pull (T : Cs) (K : PySem.W.Frag) (E : XK) : TS := tSeq (tIfS (tTest (tOp (rI0 fun i j => .bl (decide (i ≤ j))) (tBx K 2) (tC (.int 1))))
    (tSeq (tAugS (tVar 0) (tC (.int 1)) (tC (.int 1)) (rIxL K) (ipI fun i j => i + j) rSetL)
    (tSeq (tAsg (tBx K 3) (gName 2))
    (tSeq (tIfS (tTest (tOp (rI0 fun i j => .bl (decide (i ≤ j))) (tBx K 1) (rdLen K))) (tAsg (tOp (rIxL K) (tBx K 0) (tOp (rI0 fun i j => .int (i - j)) (tBx K 1) (tC (.int 1)))) (gName 2)) tNext)
    (tSeq (tIfS (tOr (tTest (tOp (rI0 fun i j => .bl (decide (j < i))) (tBx K 1) (rdLen K))) (tTest (tOp (rI0 fun i j => .bl (decide (i < j))) (tVar 2) (tOp (rI CPow fun i j => .int (i ^ j.toNat)) (tC (.int 10)) (tC (.int 18)))))) (rd_pull_mix K) tNext)
    (tAsg (tVar 2) (gSub (tVar 0) (tC (.int 2)) rSetL)))))) tNext) (rd_pull_end K)
section
variable {K : PySem.W.Frag} {H : Hp} {p : Addr} {u a b c : V} {Q : VK} {σ : L2.St}
theorem bx0 (hs : σ[0]? = some (some (.ref p))) (hp : H p = some (.lst [u, a, b, c])) (h : Q u H) : tBx K 0 σ H Q := ⟨_, hs, p, _, 0, u, rfl, rfl, SqL.of hp, rfl, h⟩
theorem bx1 (hs : σ[0]? = some (some (.ref p))) (hp : H p = some (.lst [u, a, b, c])) (h : Q a H) : tBx K 1 σ H Q := ⟨_, hs, p, _, 1, a, rfl, rfl, SqL.of hp, rfl, h⟩
theorem bx2 (hs : σ[0]? = some (some (.ref p))) (hp : H p = some (.lst [u, a, b, c])) (h : Q b H) : tBx K 2 σ H Q := ⟨_, hs, p, _, 2, b, rfl, rfl, SqL.of hp, rfl, h⟩
theorem bx3 (hs : σ[0]? = some (some (.ref p))) (hp : H p = some (.lst [u, a, b, c])) (h : Q c H) : tBx K 3 σ H Q := ⟨_, hs, p, _, 3, c, rfl, rfl, SqL.of hp, rfl, h⟩
end
theorem small64 {n : Int} (h0 : -4294967296 < n) (h1 : n < 4294967296) : -(2 ^ 64) < n ∧ n < 2 ^ 64 := by
  have e : (2 : Int) ^ 64 = 18446744073709551616 := by decide
  rw [e]
  omega
theorem pull_end {K : PySem.W.Frag} {H A : Hp} {R : List Hp} {p : Addr} {u y2 y3 y4 : V} {o2 o3 o4 : Option V} {D : Ends} {i c s many : Int} (hm : 0 < many) (hm' : many < 1073741824) (S : St H (A :: one p (.lst [u, .int i, .int c, .int s]) :: R))
    (k : ∀ H', St H' (A :: one p (.lst [u, .int i, .int (c / many), .int s]) :: R) → D.rt (.int (c % many)) H') : rd_pull_end K D [some (.ref p), some (.int many), o2, o3, o4] H := by
  have hp := S.second _ _ one_same
  unfold rd_pull_end
  refine q_asg (c_op (bx2 rfl hp (c_var rfl (c_I hm ?_))))
  refine q_seq ?_
  refine c_op (bx2 (p := p) rfl hp (c_var rfl (c_I ⟨hm, hm'⟩ ?_)))
  refine ⟨_, rfl, p, _, 2, 2, rfl, rfl, hp, rfl, ?_⟩
  refine s_ret (c_var rfl (k _ S.wr1))
theorem pull_mix {K : PySem.W.Frag} {H A : Hp} {R : List Hp} {p : Addr} {u : V} {o3 o4 : Option V} {D : Ends} {x i c s many : Int} (hm : 0 < many) (S : St H (A :: one p (.lst [u, .int i, .int c, .int s]) :: R))
    (k : D.rt (.int (mixV x i many)) H) : rd_pull_mix K D [some (.ref p), some (.int many), some (.int x), o3, o4] H := by
  have hp := S.second _ _ one_same
  unfold rd_pull_mix
  have b1 : ∀ y : Int, -(2 ^ 64) < y % 2147483647 ∧ y % 2147483647 < 2 ^ 64 := fun y => small64 (by have := Int.emod_nonneg y (b := 2147483647) (by decide); omega) (by have := Int.emod_lt_of_pos y (b := 2147483647) (by decide); omega)
  refine q_asg (c_op (c_op (c_op (c_op (c_var rfl (c_c (c_I (.inr ⟨by decide, by decide⟩) (c_op (bx1 rfl hp (c_c (c_I (.inr ⟨by decide, by decide⟩) (c_I0 (c_c (c_I0 (c_c (c_I (by decide) (?_)))))))))))))))))
  refine q_asg (c_op (c_op (c_var rfl (c_var rfl (c_I (.inl (b1 _)) (c_c (c_I (by decide) (?_))))))))
  refine s_ret (c_op (c_op (c_op (c_op (c_op (c_var rfl (bx1 (p := p) rfl hp (c_I0 (c_c (c_I (.inr ⟨by decide, by decide⟩) (c_c (c_I (by decide) (c_c (c_I ⟨by decide, by decide⟩ (c_var rfl (c_I hm (?_)))))))))))))))))
  exact k
theorem wk_law_pull {T : Cs} {K : PySem.W.Frag} {vs : List V} {H : Hp} {Q : VK} {E : XK} (h : sp_law_pull T K vs H Q E) : rd_law_pull T K E { nx := fun _ H' => Q .non H', rt := Q } (L2.start ["_law_bag_here", "_law_many", "_law_seed", "_law_mixed", "_law_drawn"] vs) H := by
  obtain ⟨A, R, m, v, bg, many, rfl, S, ⟨p, u, rfl, rfl, hu⟩, h⟩ := h
  unfold m_law_pull at h
  by_cases hc : 0 < many ∧ many < 1073741824 ∧ 0 ≤ bg.i
  case neg =>
    rw [if_neg hc] at h
    exact h.elim
  rw [if_pos hc] at h
  obtain ⟨hm, hm', hi⟩ := hc
  have h : ∀ (A' H' : Hp) (m0 : Hp), Same A A' → St H' (A' :: m0 :: R) → Ob.isAt T A' m0 (V.ref p) (pullV bg many).2 → Q (.int (pullV bg many).1) H' := h
  have hp := S.second _ _ one_same
  show rd_law_pull T K E _ [some (.ref p), some (.int many), none, none, none] H
  unfold rd_law_pull
  refine q_when (c_tst (c_op (bx2 rfl hp (c_c (c_I0 (c_bl ?_))))))
  by_cases h1 : bg.c ≤ 1
  case neg =>
    rw [if_neg (by simpa using h1)]
    refine pull_end (y2 := u) (y3 := u) (y4 := u) hm hm' S fun H' S' => ?_
    have e : pullV bg many = (bg.c % many, { bg with c := bg.c / many }) := by unfold pullV; rw [if_neg h1]
    rw [e] at h
    exact h A H' _ (Same.refl _) S' ⟨p, u, rfl, rfl, hu⟩
  rw [if_pos (by simpa using h1)]
  refine q_seq ?_
  refine c_var rfl (c_c ⟨p, _, 1, _, rfl, rfl, SqL.of hp, rfl, c_c (c_ip ⟨p, _, 1, 1, rfl, rfl, hp, rfl, ?_⟩)⟩)
  have S1 : St (upd H p (.lst [u, .int (bg.i + 1), .int bg.c, .int bg.s])) (A :: one p (.lst [u, .int (bg.i + 1), .int bg.c, .int bg.s]) :: R) := S.wr1
  show tSeq _ _ _ _ (upd H p (.lst [u, .int (bg.i + 1), .int bg.c, .int bg.s]))
  generalize upd H p (.lst [u, .int (bg.i + 1), .int bg.c, .int bg.s]) = H1 at S1 ⊢
  have hp1 := S1.second _ _ one_same
  have hl : LA A H1 u bg.l := la_of S1 hu
  refine q_asg (bx3 rfl hp1 ?_)
  refine q_if (c_tst (c_op (bx1 (p := p) rfl hp1 (c_cb (c_cons (bx0 (p := p) rfl hp1 (c_nil (c_len hl (c_I0 (c_bl ?_))))))))))
  by_cases h2 : bg.i + 1 ≤ (bg.l.length : Int)
  · rw [if_pos (by simpa using h2)]
    obtain ⟨a, us, rfl, hu1, hu2⟩ := hl
    have hx : bg.l[bg.i.toNat]? = some (bg.l.getD bg.i.toNat 0) := by
      have hlt : bg.i.toNat < bg.l.length := by omega
      rw [List.getD_eq_getElem?_getD, List.getElem?_eq_getElem hlt]
      rfl
    have hxi : atI (bg.l.map V.int) (bg.i + 1 - 1) = some (V.int (bg.l.getD bg.i.toNat 0)) := by
      have e0 : bg.i + 1 - 1 = ((bg.i.toNat : Nat) : Int) := by omega
      rw [e0]
      refine atI_nat ?_
      rw [List.getElem?_map, hx]
      rfl
    rw [hu2.int] at hu1
    refine s_asg (c_op (bx0 (p := p) rfl hp1 (c_op (bx1 (p := p) rfl hp1 (c_c (c_I0 ⟨a, _, _, _, rfl, rfl, SqL.of hu1, hxi, ?_⟩))))))
    generalize hX : bg.l.getD bg.i.toNat 0 = X at *
    refine nx_mk ?_
    refine q_if (c_or (c_tst (c_op (bx1 (p := p) rfl hp1 (c_cb (c_cons (bx0 (p := p) rfl hp1 (c_nil (c_len (A := A) (xs := bg.l) ⟨a, _, rfl, hu1, int_ol hu2.2⟩ (c_I0 (c_bl ?_)))))))))))
    rw [if_neg (by simpa using h2)]
    refine c_tst (c_op (c_var rfl (c_op (c_c (c_c (c_I ⟨by decide, by decide, by decide⟩ (c_I0 (c_bl ?_))))))))
    by_cases h3 : X < 10 ^ 18
    · rw [if_pos (by simpa using h3)]
      refine pull_mix hm S1 ?_
      have e : pullV bg many = (mixV X (bg.i + 1) many, { bg with i := bg.i + 1 }) := by unfold pullV; rw [if_pos h1, dif_pos h2, hX, if_pos h3]
      rw [e] at h
      exact h A H1 _ (Same.refl _) S1 ⟨p, _, rfl, rfl, hu⟩
    · rw [if_neg (by simpa using h3)]
      refine s_next (nx_mk ?_)
      refine c_var (i := 2) rfl ⟨_, rfl, p, _, 2, 2, rfl, rfl, hp1, rfl, ?_⟩
      refine nx_mk ?_
      refine pull_end (y2 := V.non) (y3 := V.non) (y4 := V.non) hm hm' S1.wr1 fun H' S' => ?_
      have e : pullV bg many = (X % many, { bg with i := bg.i + 1, c := X / many }) := by unfold pullV; rw [if_pos h1, dif_pos h2, hX, if_neg h3]
      rw [e] at h
      exact h A H' _ (Same.refl _) S' ⟨p, _, rfl, rfl, hu⟩
  · rw [if_neg (by simpa using h2)]
    refine s_next (nx_mk ?_)
    refine q_if (c_or (c_tst (c_op (bx1 (p := p) rfl hp1 (c_cb (c_cons (bx0 (p := p) rfl hp1 (c_nil (c_len hl (c_I0 (c_bl ?_)))))))))))
    rw [if_pos (by simp; omega)]
    rw [if_pos rfl]
    refine pull_mix hm S1 ?_
    have e : pullV bg many = (mixV bg.s (bg.i + 1) many, { bg with i := bg.i + 1 }) := by unfold pullV; rw [if_pos h1, dif_neg h2]
    rw [e] at h
    exact h A H1 _ (Same.refl _) S1 ⟨p, _, rfl, rfl, hu⟩
end SB

namespace SB
open PySem PySem.Spec PyProof.Rows L2 Res
/-! ## mirrors that end well -/
section
variable {ω ω' α β γ σT : Type}
def Okk (m : Res ω α) (P : α → Prop) : Prop := ∃ a, m = .ok a ∧ P a
theorem okk_ok {a : α} {P : α → Prop} (h : P a) : Okk (.ok a : Res ω α) P := ⟨a, rfl, h⟩
theorem okk_bind {m : Res ω α} {f : α → Res ω β} {P : α → Prop} {Q : β → Prop} (h : Okk m P) (k : ∀ a, P a → Okk (f a) Q) : Okk (Res.bind m f) Q := by
  obtain ⟨a, rfl, h⟩ := h
  exact k a h
theorem okk_noex {m : Res ω' α} {P : α → Prop} (h : Okk m P) : Okk (Res.noex m : Res ω α) P := by
  obtain ⟨a, rfl, h⟩ := h
  exact ⟨a, rfl, h⟩
theorem okk_lift {g : ω' → ω} {m : Res ω' α} {P : α → Prop} (h : Okk m P) : Okk (Res.lift g m) P := by
  obtain ⟨a, rfl, h⟩ := h
  exact ⟨a, rfl, h⟩
theorem okk_mono {m : Res ω α} {P Q : α → Prop} (h : Okk m P) (k : ∀ a, P a → Q a) : Okk m Q := by
  obtain ⟨a, e, h⟩ := h
  exact ⟨a, e, k a h⟩
theorem okk_eq {m : Res ω α} {a : α} {P : α → Prop} (e : m = .ok a) (h : P a) : Okk m P := ⟨a, e, h⟩
theorem okk_is {m : Res ω α} {a : α} (h : Okk m (· = a)) : m = .ok a := by
  obtain ⟨b, e, rfl⟩ := h
  exact e
theorem okk_st {m : Res ω α} {f : α → Res ω β} {a : α} {Q : β → Prop} (e : m = .ok a) (k : Okk (f a) Q) : Okk (Res.bind m f) Q := by
  rw [e]
  exact k
theorem okk_stN {m : Res ω' α} {f : α → Res ω β} {a : α} {Q : β → Prop} (e : m = .ok a) (k : Okk (f a) Q) : Okk (Res.bind (Res.noex m) f) Q := by
  rw [e]
  exact k
theorem okk_stL {m : Res ω' α} {g : ω' → ω} {f : α → Res ω β} {a : α} {Q : β → Prop} (e : m = .ok a) (k : Okk (f a) Q) : Okk (Res.bind (Res.lift g m) f) Q := by
  rw [e]
  exact k
theorem okk_no {c : Bool} {m n : Res ω α} {P : α → Prop} (h : c = false) (k : Okk n P) : Okk (if c = true then m else n) P := by
  rw [h]
  exact k
theorem okk_yes {c : Bool} {m n : Res ω α} {P : α → Prop} (h : c = true) (k : Okk m P) : Okk (if c = true then m else n) P := by
  rw [h]
  exact k
theorem or_no {c : Bool} {m : Res ω Bool} (h : c = false) : orR c m = m := by
  rw [h]
  rfl
theorem and_yes {c : Bool} {m : Res ω Bool} (h : c = true) : andR c m = m := by
  rw [h]
  rfl
theorem st_st {m : Res ω α} {f : α → Res ω β} {a : α} {b : β} (e : m = .ok a) (k : f a = .ok b) : Res.bind m f = .ok b := by
  rw [e]
  exact k
theorem st_N {m : Res ω' α} {f : α → Res ω β} {a : α} {b : β} (e : m = .ok a) (k : f a = .ok b) : Res.bind (Res.noex m) f = .ok b := by
  rw [e]
  exact k
theorem okk_if {c : Bool} {m n : Res ω α} {P : α → Prop} (h1 : c = true → Okk m P) (h2 : c = false → Okk n P) : Okk (if c = true then m else n) P := by
  cases c with
  | true => exact h1 rfl
  | false => exact h2 rfl
theorem okk_and {c : Bool} {m : Res ω Bool} {P : Bool → Prop} (h1 : c = true → Okk m P) (h2 : c = false → P false) : Okk (andR c m) P := by
  cases c with
  | true => exact h1 rfl
  | false => exact ⟨false, rfl, h2 rfl⟩
theorem okk_or {c : Bool} {m : Res ω Bool} {P : Bool → Prop} (h1 : c = true → P true) (h2 : c = false → Okk m P) : Okk (orR c m) P := by
  cases c with
  | true => exact ⟨true, rfl, h1 rfl⟩
  | false => exact h2 rfl
theorem okk_andS {c : Bool} {s : σT} {m : Res ω (Bool × σT)} {P : Bool × σT → Prop} (h1 : c = true → Okk m P) (h2 : c = false → P (false, s)) : Okk (andS c s m) P := by
  cases c with
  | true => exact h1 rfl
  | false => exact ⟨_, rfl, h2 rfl⟩
theorem okk_orS {c : Bool} {s : σT} {m : Res ω (Bool × σT)} {P : Bool × σT → Prop} (h1 : c = true → P (true, s)) (h2 : c = false → Okk m P) : Okk (orS c s m) P := by
  cases c with
  | true => exact ⟨_, rfl, h1 rfl⟩
  | false => exact h2 rfl
theorem ix_eq {xs : List α} {i : Int} {x : α} (h : atI xs i = some x) : (ixR xs i : Res ω α) = .ok x := by
  unfold ixR
  rw [h]
theorem atI_of {xs : List α} {i : Int} (h0 : 0 ≤ i) (h1 : i < (xs.length : Int)) : atI xs i = xs[i.toNat]? := by
  unfold atI ixN
  rw [if_pos h0, if_pos h1]
  rfl
theorem okk_ix {xs : List α} {i : Int} {P : α → Prop} (h0 : 0 ≤ i) (h1 : i < (xs.length : Int)) (h : ∀ x, xs[i.toNat]? = some x → P x) : Okk (ixR xs i : Res ω α) P := by
  have hlt : i.toNat < xs.length := by omega
  exact ⟨xs[i.toNat], ix_eq (by rw [atI_of h0 h1, List.getElem?_eq_getElem hlt]), h _ (List.getElem?_eq_getElem hlt)⟩
theorem okk_mem {xs : List α} {i : Int} {P : α → Prop} (h0 : 0 ≤ i) (h1 : i < (xs.length : Int)) (h : ∀ x ∈ xs, P x) : Okk (ixR xs i : Res ω α) P :=
  okk_ix h0 h1 fun x e => h x (List.mem_of_getElem? e)
theorem mul_eq {a b : Int} (h : (-(2 ^ 64) < a ∧ a < 2 ^ 64) ∨ (-(2 ^ 64) < b ∧ b < 2 ^ 64)) : (mulR a b : Res ω Int) = .ok (a * b) := by
  unfold mulR
  rw [if_pos h]
theorem mod_eq {a b : Int} (h : 0 < b) : (modR a b : Res ω Int) = .ok (a % b) := by
  unfold modR
  rw [if_pos h]
theorem div_eq {a b : Int} (h : 0 < b ∧ b < 1073741824) : (divR a b : Res ω Int) = .ok (a / b) := by
  unfold divR
  rw [if_pos h]
theorem size_big : (16777216 : Nat) ≤ sizeLine := by decide
theorem cat_eq {xs ys : List α} (h : xs.length + ys.length ≤ 16777216) : (catR xs ys : Res ω (List α)) = .ok (xs ++ ys) := by
  unfold catR
  rw [if_pos (Nat.le_trans h size_big)]
theorem app_eq {xs : List α} {x : α} (h : xs.length < 16777216) : (appR xs x : Res ω (List α)) = .ok (xs ++ [x]) := by
  unfold appR
  rw [if_pos (Nat.lt_of_lt_of_le h size_big)]
theorem rg_eq {lo hi : Int} (h : -4000000000 ≤ lo ∧ lo ≤ 4000000000 ∧ -4000000000 ≤ hi ∧ hi ≤ 4000000000) : (rgR lo hi : Res ω (List Int)) = .ok (rangeL lo hi) := by
  unfold rgR
  have e : (2 : Int) ^ 62 = 4611686018427387904 := by decide
  rw [e, if_pos (by omega)]
theorem rl_eq {n : Int} (h : -1000000 ≤ n ∧ n ≤ 1000000) : (rlR n : Res ω (List Int)) = .ok (rangeL 0 n) := by
  unfold rlR
  rw [if_pos ⟨h.2, h.1⟩]
theorem mem_range {lo hi x : Int} : x ∈ rangeL lo hi ↔ lo ≤ x ∧ x < hi := by
  unfold rangeL
  rw [List.mem_map]
  constructor
  · rintro ⟨i, hi, rfl⟩
    rw [List.mem_range] at hi
    omega
  · rintro ⟨h1, h2⟩
    exact ⟨(x - lo).toNat, List.mem_range.mpr (by omega), by omega⟩
theorem range_len (lo hi : Int) : (rangeL lo hi).length = (hi - lo).toNat := by
  unfold rangeL
  rw [List.length_map, List.length_range]
/-- a loop, by what holds of the part taken and the state -/
theorem okk_for {body : α → σT → Res ω (Fl β σT)} {Qr : β → Prop} (I : List α → σT → Prop) : ∀ (xs pre : List α) (s : σT), I pre s →
    (∀ p x r s, pre ++ xs = p ++ x :: r → I p s → Okk (body x s) (fun f => match f with | .next s' => I (p ++ [x]) s' | .ret y => Qr y)) →
    Okk (forM body xs s) (fun f => match f with | .next s' => I (pre ++ xs) s' | .ret y => Qr y)
  | [], pre, s, h0, _ => ⟨.next s, rfl, by
      show I (pre ++ []) s
      rw [List.append_nil]
      exact h0⟩
  | x :: xs, pre, s, h0, step => by
    obtain ⟨f, e, hf⟩ := step pre x xs s rfl h0
    unfold forM
    rw [e]
    cases f with
    | ret y => exact ⟨.ret y, rfl, hf⟩
    | next s' =>
      have ih := okk_for I xs (pre ++ [x]) s' hf (fun p y r s hp hI => step p y r s (by rw [← hp, List.append_assoc]; rfl) hI)
      rw [List.append_assoc] at ih
      exact ih
/-- a loop that never hands back -/
theorem okk_loop {body : α → σT → Res ω (Fl β σT)} {xs : List α} {s : σT} {Q : Fl β σT → Prop} (I : List α → σT → Prop) (h0 : I [] s)
    (step : ∀ p x r s, xs = p ++ x :: r → I p s → Okk (body x s) (fun f => ∃ s', f = .next s' ∧ I (p ++ [x]) s')) (done : ∀ s, I xs s → Q (.next s)) : Okk (forM body xs s) Q := by
  refine okk_mono (okk_for (Qr := fun _ => False) I xs [] s h0 fun p x r s e h => okk_mono (step p x r s e h) fun f hf => ?_) fun f hf => ?_
  · obtain ⟨s', rfl, h⟩ := hf
    exact h
  · cases f with
    | next s' => exact done s' hf
    | ret y => exact hf.elim
/-- a loop whose state is any that fits, turn by turn -/
theorem okk_each {body : α → σT → Res ω (Fl β σT)} {xs : List α} {s : σT} {Q : Fl β σT → Prop} (I : σT → Prop) (h0 : I s)
    (step : ∀ x s, x ∈ xs → I s → Okk (body x s) (fun f => ∃ s', f = .next s' ∧ I s')) (done : ∀ s, I s → Q (.next s)) : Okk (forM body xs s) Q :=
  okk_loop (fun _ => I) h0 (fun p x r s e h => step x s (by rw [e]; simp) h) done
/-- a comprehension: what holds of its items, and the objects' state -/
theorem okk_comp {body : α → σT → Res ω (Option β × σT)} (I : σT → Prop) (P : β → Prop) : ∀ (xs : List α) (s : σT), I s →
    (∀ x s, x ∈ xs → I s → Okk (body x s) (fun r => (∀ y, r.1 = some y → P y) ∧ I r.2)) → Okk (compG body xs s) (fun y => (∀ b ∈ y.1, P b) ∧ y.1.length ≤ xs.length ∧ I y.2)
  | [], s, h0, _ => ⟨([], s), rfl, fun _ h => (nomatch h), Nat.le_refl _, h0⟩
  | x :: xs, s, h0, step => by
    obtain ⟨⟨r, s'⟩, e, h1, h2⟩ := step x s List.mem_cons_self h0
    obtain ⟨y, e2, h3, h4, h5⟩ := okk_comp I P xs s' h2 fun z s hz hs => step z s (List.mem_cons_of_mem _ hz) hs
    unfold compG
    rw [e]
    show Okk (Res.bind (compG body xs s') _) _
    rw [e2]
    cases r with
    | none => exact ⟨y, rfl, h3, Nat.le_succ_of_le h4, h5⟩
    | some b => exact ⟨(b :: y.1, y.2), rfl, fun c hc => by
        cases hc with
        | head => exact h1 _ rfl
        | tail _ hc => exact h3 c hc, Nat.succ_le_succ h4, h5⟩
theorem comp_eq {body : α → Unit → Res ω (Option β × Unit)} {g : α → Option β} : ∀ (xs : List α), (∀ x ∈ xs, body x () = .ok (g x, ())) → compG body xs () = .ok (xs.filterMap g, ())
  | [], _ => rfl
  | x :: xs, h => by
    unfold compG
    rw [h x List.mem_cons_self, List.filterMap_cons]
    show Res.bind (compG body xs ()) _ = _
    rw [comp_eq xs fun y hy => h y (List.mem_cons_of_mem _ hy)]
    cases g x <;> rfl
/-- a loop that folds -/
theorem for_fold {body : α → σT → Res ω (Fl β σT)} {f : σT → α → σT} (I : List α → σT → Prop) : ∀ (xs pre : List α) (s : σT), I pre s → (∀ p x r s, pre ++ xs = p ++ x :: r → I p s → body x s = .ok (.next (f s x)) ∧ I (p ++ [x]) (f s x)) →
    forM body xs s = .ok (.next (xs.foldl f s))
  | [], pre, s, h0, _ => rfl
  | x :: xs, pre, s, h0, step => by
    obtain ⟨e, h1⟩ := step pre x xs s rfl h0
    unfold forM
    rw [e]
    show forM body xs (f s x) = _
    exact for_fold I xs (pre ++ [x]) (f s x) h1 fun p y r s hp hI => step p y r s (by rw [← hp, List.append_assoc]; rfl) hI
end

/-! ## sums -/
def Sm (l : List Int) : Prop := l.Pairwise (· < ·)
instance (l : List Int) : Decidable (Sm l) := inferInstanceAs (Decidable (l.Pairwise (· < ·)))
def joinF (a b : List Int) : List Int := sortI (a.filter (fun x => !decide (x ∈ b)) ++ b.filter (fun x => !decide (x ∈ a)))
theorem mem_sort {x : Int} {l : List Int} : x ∈ sortI l ↔ x ∈ l := (sortI_perm l).mem_iff
theorem mem_join {x : Int} {a b : List Int} : x ∈ joinF a b ↔ (x ∈ a ∧ x ∉ b) ∨ (x ∈ b ∧ x ∉ a) := by
  unfold joinF
  rw [mem_sort, List.mem_append, List.mem_filter, List.mem_filter]
  simp
theorem Sm.nodup {l : List Int} (h : Sm l) : l.Nodup := List.Pairwise.imp (fun h => Int.ne_of_lt h) h
theorem sm_of {l : List Int} (h1 : l.Pairwise (· ≤ ·)) (h2 : l.Nodup) : Sm l := by
  unfold Sm
  have := List.pairwise_and_iff.mpr ⟨h1, h2⟩
  exact this.imp fun ⟨a, b⟩ => by omega
theorem Sm.le {l : List Int} (h : Sm l) : l.Pairwise (· ≤ ·) := List.Pairwise.imp (fun h => Int.le_of_lt h) h
theorem perm_of {a b : List Int} (ha : a.Nodup) (hb : b.Nodup) (h : ∀ x, x ∈ a ↔ x ∈ b) : a.Perm b := by
  rw [List.perm_iff_count]
  intro x
  rw [ha.count, hb.count]
  by_cases hx : x ∈ a
  · rw [if_pos hx, if_pos ((h x).mp hx)]
  · rw [if_neg hx, if_neg fun z => hx ((h x).mpr z)]
theorem Sm.ext {a b : List Int} (ha : Sm a) (hb : Sm b) (h : ∀ x, x ∈ a ↔ x ∈ b) : a = b := sorted_eq (perm_of ha.nodup hb.nodup h) ha.le hb.le
theorem sm_sort {l : List Int} (h : l.Nodup) : Sm (sortI l) := sm_of (sortI_sorted l) ((sortI_perm l).nodup_iff.mpr h)
theorem sm_join {a b : List Int} (ha : Sm a) (hb : Sm b) : Sm (joinF a b) := by
  refine sm_sort (List.nodup_append.mpr ⟨ha.nodup.filter _, hb.nodup.filter _, fun x hx y hy => ?_⟩)
  rintro rfl
  simp at hx hy
  exact hy.2 hx.1
theorem join_len (a b : List Int) : (joinF a b).length ≤ a.length + b.length := by
  unfold joinF
  rw [(sortI_perm _).length_eq, List.length_append]
  exact Nat.add_le_add (List.length_filter_le _ _) (List.length_filter_le _ _)
theorem join_comm (a b : List Int) (ha : Sm a) (hb : Sm b) : joinF a b = joinF b a := (sm_join ha hb).ext (sm_join hb ha) fun x => by
  rw [mem_join, mem_join]
  exact Or.comm
theorem join_self (a : List Int) : joinF a a = [] := by
  apply List.eq_nil_iff_forall_not_mem.mpr
  intro x
  rw [mem_join]
  simp
theorem join_nil (a : List Int) (ha : Sm a) : joinF a [] = a := (sm_join ha .nil).ext ha fun x => by
  rw [mem_join]
  simp
theorem nil_join (a : List Int) (ha : Sm a) : joinF [] a = a := (sm_join .nil ha).ext ha fun x => by
  rw [mem_join]
  simp
theorem join_assoc (a b c : List Int) (ha : Sm a) (hb : Sm b) (hc : Sm c) : joinF (joinF a b) c = joinF a (joinF b c) :=
  (sm_join (sm_join ha hb) hc).ext (sm_join ha (sm_join hb hc)) fun x => by
    simp only [mem_join]
    by_cases h1 : x ∈ a <;> by_cases h2 : x ∈ b <;> by_cases h3 : x ∈ c <;> simp [h1, h2, h3]
theorem map_id_fun (l : List Int) : l.map (fun z => z) = l := List.map_id' l
end SB

namespace SB
open PySem PySem.Spec PyProof.Rows L2 Res
/-! ## tables with ints for keys -/
section
variable {α : Type}
def agt (l : List (Int × α)) (k : Int) : Option α := (l.find? fun p => decide (p.1 = k)).map (·.2)
def aput (l : List (Int × α)) (k : Int) (x : α) : List (Int × α) := if (l.any fun p => decide (p.1 = k)) = true then l.map (fun p => if p.1 = k then (p.1, x) else p) else l ++ [(k, x)]
def adrop (l : List (Int × α)) (k : Int) : List (Int × α) := l.filter fun p => decide (p.1 ≠ k)
@[irreducible] def agR {ω : Type} (l : List (Int × α)) (k : Int) : Res ω α := match agt l k with
  | some x => .ok x
  | none => .bad
@[irreducible] def aputR {ω : Type} (l : List (Int × α)) (k : Int) (x : α) : Res ω (List (Int × α)) := if l.length < sizeLine then .ok (aput l k x) else .bad
@[irreducible] def apopR {ω : Type} (l : List (Int × α)) (k : Int) : Res ω (α × List (Int × α)) := match agt l k with
  | some x => .ok (x, adrop l k)
  | none => .bad
end
section
variable {α : Type} [Rep α] {A B H : Hp} {kvs : List (Key × V)} {l : List (Int × α)}
def DK (A : Hp) : List (Key × V) → List (Int × α) → Prop
  | [], [] => True
  | kv :: kvs, p :: l => kv.1 = Sum.inl p.1 ∧ Is A kv.2 p.2 ∧ DK A kvs l
  | _, _ => False
theorem DK.up : ∀ {kvs : List (Key × V)} {l : List (Int × α)}, DK A kvs l → Same A B → DK B kvs l
  | [], [], h, _ => h
  | _ :: _, _ :: _, h, e => ⟨h.1, SB.up h.2.1 e, DK.up h.2.2 e⟩
  | [], _ :: _, h, _ => h.elim
  | _ :: _, [], h, _ => h.elim
theorem DK.len : ∀ {kvs : List (Key × V)} {l : List (Int × α)}, DK A kvs l → kvs.length = l.length
  | [], [], _ => rfl
  | _ :: kvs, _ :: l, h => by
    show kvs.length + 1 = l.length + 1
    rw [DK.len h.2.2]
  | [], _ :: _, h => h.elim
  | _ :: _, [], h => h.elim
theorem DK.keys : ∀ {kvs : List (Key × V)} {l : List (Int × α)}, DK A kvs l → (kvs.map fun kv => kV kv.1) = (l.map (·.1)).map V.int
  | [], [], _ => rfl
  | kv :: kvs, p :: l, h => by
    rw [List.map_cons, DK.keys h.2.2, h.1]
    rfl
  | [], _ :: _, h => h.elim
  | _ :: _, [], h => h.elim
theorem inl_iff {a b : Int} : (Sum.inl a : Key) = Sum.inl b ↔ a = b := ⟨Sum.inl.inj, fun h => by rw [h]⟩
theorem DK.none_of {k : Int} : ∀ {kvs : List (Key × V)} {l : List (Int × α)}, DK A kvs l → agt l k = none → valV kvs (Sum.inl k : Key) = none
  | [], [], _, _ => rfl
  | kv :: kvs, p :: l, h, e => by
    by_cases hp : p.1 = k
    · unfold agt at e
      rw [List.find?_cons, decide_eq_true hp] at e
      cases e
    · have e' : agt l k = none := by
        unfold agt at e ⊢
        rw [List.find?_cons, decide_eq_false hp] at e
        exact e
      rw [valV_neg (by rw [h.1]; exact fun z => hp (Sum.inl.inj z))]
      exact DK.none_of h.2.2 e'
  | [], _ :: _, h, _ => h.elim
  | _ :: _, [], h, _ => h.elim
theorem DK.some_of {k : Int} {x : α} : ∀ {kvs : List (Key × V)} {l : List (Int × α)}, DK A kvs l → agt l k = some x → ∃ w, valV kvs (Sum.inl k : Key) = some w ∧ Is A w x
  | [], [], _, e => by cases e
  | kv :: kvs, p :: l, h, e => by
    by_cases hp : p.1 = k
    · unfold agt at e
      rw [List.find?_cons, decide_eq_true hp] at e
      cases e
      exact ⟨kv.2, valV_pos (by rw [h.1, hp]), h.2.1⟩
    · have e' : agt l k = some x := by
        unfold agt at e ⊢
        rw [List.find?_cons, decide_eq_false hp] at e
        exact e
      rw [valV_neg (by rw [h.1]; exact fun z => hp (Sum.inl.inj z))]
      exact DK.some_of h.2.2 e'
  | [], _ :: _, h, _ => h.elim
  | _ :: _, [], h, _ => h.elim
theorem DK.isSome {k : Int} (h : DK A kvs l) : (valV kvs (Sum.inl k : Key)).isSome = (agt l k).isSome := by
  cases e : agt l k with
  | none =>
    rw [h.none_of e]
    rfl
  | some x =>
    obtain ⟨w, e', _⟩ := h.some_of e
    rw [e']
    rfl
theorem DK.any {k : Int} : ∀ {kvs : List (Key × V)} {l : List (Int × α)}, DK A kvs l → (kvs.any fun kv => decide (kv.1 = (Sum.inl k : Key))) = l.any fun p => decide (p.1 = k)
  | [], [], _ => rfl
  | kv :: kvs, p :: l, h => by
    rw [List.any_cons, List.any_cons, DK.any h.2.2, h.1]
    congr 1
    by_cases e : p.1 = k
    · rw [decide_eq_true e, decide_eq_true (inl_iff.mpr e)]
    · rw [decide_eq_false e, decide_eq_false fun z => e (inl_iff.mp z)]
  | [], _ :: _, h => h.elim
  | _ :: _, [], h => h.elim
theorem DK.mapPut {k : Int} {w : V} {x : α} (hw : Is A w x) : ∀ {kvs : List (Key × V)} {l : List (Int × α)}, DK A kvs l → DK A (kvs.map fun kv => if kv.1 = (Sum.inl k : Key) then (kv.1, w) else kv) (l.map fun p => if p.1 = k then (p.1, x) else p)
  | [], [], h => h
  | kv :: kvs, p :: l, h => by
    rw [List.map_cons, List.map_cons]
    refine ⟨?_, ?_, DK.mapPut hw h.2.2⟩
    · by_cases e : p.1 = k
      · rw [if_pos e, if_pos (h.1.trans (inl_iff.mpr e))]
        exact h.1
      · rw [if_neg e, if_neg fun z => e (inl_iff.mp (h.1.symm.trans z))]
        exact h.1
    · by_cases e : p.1 = k
      · rw [if_pos e, if_pos (h.1.trans (inl_iff.mpr e))]
        exact hw
      · rw [if_neg e, if_neg fun z => e (inl_iff.mp (h.1.symm.trans z))]
        exact h.2.1
  | [], _ :: _, h => h.elim
  | _ :: _, [], h => h.elim
theorem DK.snoc {k : Int} {w : V} {x : α} (hw : Is A w x) : ∀ {kvs : List (Key × V)} {l : List (Int × α)}, DK A kvs l → DK A (kvs ++ [(Sum.inl k, w)]) (l ++ [(k, x)])
  | [], [], _ => ⟨rfl, hw, trivial⟩
  | _ :: _, _ :: _, h => ⟨h.1, h.2.1, DK.snoc hw h.2.2⟩
  | [], _ :: _, h => h.elim
  | _ :: _, [], h => h.elim
theorem DK.put {k : Int} {w : V} {x : α} (h : DK A kvs l) (hw : Is A w x) : DK A (putK kvs (Sum.inl k) w) (aput l k x) := by
  unfold putK aput
  rw [h.any]
  by_cases c : (l.any fun p => decide (p.1 = k)) = true
  · rw [if_pos c, if_pos c]
    exact h.mapPut hw
  · rw [if_neg c, if_neg c]
    exact h.snoc hw
theorem DK.drop {k : Int} : ∀ {kvs : List (Key × V)} {l : List (Int × α)}, DK A kvs l → DK A (dropK kvs (Sum.inl k)) (adrop l k)
  | [], [], h => h
  | kv :: kvs, p :: l, h => by
    unfold dropK adrop
    rw [List.filter_cons, List.filter_cons]
    by_cases e : p.1 = k
    · rw [if_neg (by rw [h.1]; simpa using e), if_neg (by simpa using e)]
      exact DK.drop h.2.2
    · rw [if_pos (by rw [h.1]; simpa using e), if_pos (by simpa using e)]
      exact ⟨h.1, h.2.1, DK.drop h.2.2⟩
  | [], _ :: _, h => h.elim
  | _ :: _, [], h => h.elim
end
/-! ## what is asked of a table -/
def DInV (x y : V) (H : Hp) (Q : VK) : Prop := ∃ a o, x = .ref a ∧ DGet H a y o ∧ Q (.bl o.isSome) H
def DNotInV (x y : V) (H : Hp) (Q : VK) : Prop := ∃ a o, x = .ref a ∧ DGet H a y o ∧ Q (.bl (!o.isSome)) H
def DGetV (x y : V) (H : Hp) (Q : VK) : Prop := ∃ a v, x = .ref a ∧ DGet H a y (some v) ∧ Q v H
def DPutV (x y v : V) (H : Hp) (N : Hp → Prop) : Prop := ∃ a H4, x = .ref a ∧ DPut H a y v H4 ∧ N H4
def DPopV (a : Addr) (y : V) (H : Hp) (Q : VK) : Prop := ∃ kvs k v, H a = some (.dK kvs) ∧ y = kV k ∧ valV kvs k = some v ∧ Q v (upd H a (.dK (dropK kvs k)))
def rLenD : List V → Hp → VK → Prop := fun xs H Q => ∃ a kvs, xs = [V.ref a] ∧ H a = some (.dK kvs) ∧ Q (.int kvs.length) H
section
variable {σ : L2.St} {H A : Hp} {R : List Hp} {Q : VK} {td ty tv : TE} {D : Ends} {tz : TS} {d : Addr} {kvs : List (Key × V)} {n : Int}
theorem c_din (h : ty σ H fun y H1 => td σ H1 fun x H2 => DInV x y H2 Q) : tDIn ty td σ H Q := h
theorem c_dnotin (h : ty σ H fun y H1 => td σ H1 fun x H2 => DNotInV x y H2 Q) : tDNotIn ty td σ H Q := h
theorem c_dget (h : td σ H fun x H1 => ty σ H1 fun y H2 => DGetV x y H2 Q) : tDGet td ty σ H Q := h
theorem q_dput (h : tv σ H fun v H1 => td σ H1 fun x H2 => ty σ H2 fun y H3 => DPutV x y v H3 fun H4 => tz D σ H4) : tSeq (sDPut td ty tv) tz D σ H := h
theorem s_dput (h : tv σ H fun v H1 => td σ H1 fun x H2 => ty σ H2 fun y H3 => DPutV x y v H3 fun H4 => D.nx σ H4) : sDPut td ty tv D σ H := h
theorem c_dpop (h : td σ H fun x H1 => ∃ a, x = .ref a ∧ IsD H1 a ∧ ty σ H1 fun y H2 => DPopV a y H2 Q) : tDPop1 td ty σ H Q := h
theorem d_isd {P : Addr → Prop} (hd : H d = some (.dK kvs)) (h : P d) : ∃ a, V.ref d = .ref a ∧ IsD H a ∧ P a := ⟨d, rfl, .inl ⟨kvs, .inl hd⟩, h⟩
end
section
variable {ω α γ : Type} [Rep α] {H A : Hp} {R : List Hp} {Q : VK} {d : Addr} {kvs : List (Key × V)} {l : List (Int × α)} {li : List (Int × Int)} {n : Int} {Qr : γ → Prop} {Er : Exn → ω → Prop}
theorem d_in (hd : H d = some (.dK kvs)) (hk : DK A kvs l) (k : Q (.bl (agt l n).isSome) H) : DInV (.ref d) (.int n) H Q := by
  refine ⟨d, _, rfl, DGet.k (k := Sum.inl n) hd, ?_⟩
  rw [hk.isSome]
  exact k
theorem d_notin (hd : H d = some (.dK kvs)) (hk : DK A kvs l) (k : Q (.bl (!(agt l n).isSome)) H) : DNotInV (.ref d) (.int n) H Q := by
  refine ⟨d, _, rfl, DGet.k (k := Sum.inl n) hd, ?_⟩
  rw [hk.isSome]
  exact k
theorem d_get {f : α → Res ω γ} (hd : H d = some (.dK kvs)) (hk : DK A kvs l) (hm : (bind (agR l n) f).wp Qr Er) (k : ∀ x w, Is A w x → (f x).wp Qr Er → Q w H) : DGetV (.ref d) (.int n) H Q := by
  unfold agR at hm
  cases e : agt l n with
  | none =>
    rw [e] at hm
    exact hm.elim
  | some x =>
    rw [e] at hm
    obtain ⟨w, e', hw⟩ := hk.some_of e
    refine ⟨d, w, rfl, ?_, k x w hw hm⟩
    rw [← e']
    exact DGet.k (k := Sum.inl n) hd
theorem d_getI {f : Int → Res ω γ} (hd : H d = some (.dK kvs)) (hk : DK A kvs li) (hm : (bind (agR li n) f).wp Qr Er) (k : ∀ x : Int, (f x).wp Qr Er → Q (.int x) H) : DGetV (.ref d) (.int n) H Q :=
  d_get hd hk hm fun x w hw h => by
    obtain rfl : w = .int x := hw
    exact k x h
theorem d_put {N : Hp → Prop} {x : α} {w : V} {f : List (Int × α) → Res ω γ} (hd : H d = some (.dK kvs)) (hk : DK A kvs l) (hw : Is A w x) (hm : (bind (aputR l n x) f).wp Qr Er) (k : ∀ kvs' l', (f l').wp Qr Er → DK A kvs' l' → N (upd H d (.dK kvs'))) : DPutV (.ref d) (.int n) w H N := by
  unfold aputR at hm
  by_cases c : l.length < sizeLine
  · rw [if_pos c] at hm
    exact ⟨d, _, rfl, DPut.k (k := Sum.inl n) hd (by rw [hk.len]; exact c), k _ _ hm (hk.put hw)⟩
  · rw [if_neg c] at hm
    exact hm.elim
theorem d_pop {f : α × List (Int × α) → Res ω γ} (hd : H d = some (.dK kvs)) (hk : DK A kvs l) (hm : (bind (apopR l n) f).wp Qr Er) (k : ∀ y w kvs', Is A w y.1 → (f y).wp Qr Er → DK A kvs' y.2 → Q w (upd H d (.dK kvs'))) : DPopV d (.int n) H Q := by
  unfold apopR at hm
  cases e : agt l n with
  | none =>
    rw [e] at hm
    exact hm.elim
  | some x =>
    rw [e] at hm
    obtain ⟨w, e', hw⟩ := hk.some_of e
    exact ⟨kvs, Sum.inl n, w, hd, rfl, e', k (x, adrop l n) w _ hw hm hk.drop⟩
theorem d_len {K : PySem.W.Frag} (hd : H d = some (.dK kvs)) (hk : DK A kvs l) (k : Q (.int (l.length : Int)) H) : rLenD [.ref d] H Q := by
  refine ⟨d, kvs, rfl, hd, ?_⟩
  rw [hk.len]
  exact k
@[irreducible] def keysR (l : List (Int × α)) : Res ω (List Int) := if l.length ≤ sizeLine then .ok (l.map (·.1)) else .bad
theorem d_list {f : List Int → Res ω γ} (hd : H d = some (.dK kvs)) (hk : DK A kvs l) (hm : (bind (keysR l) f).wp Qr Er) (k : ∀ zs, (f zs).wp Qr Er → RawL A H Q zs) : rListD [.ref d] H Q := by
  unfold keysR at hm
  by_cases c : l.length ≤ sizeLine
  · rw [if_pos c] at hm
    refine ⟨d, kvs, rfl, hd, fun p hp => ?_⟩
    rw [hk.keys]
    exact k _ hm p _ hp (int_ol (by rw [List.length_map]; exact c))
  · rw [if_neg c] at hm
    exact hm.elim
end
/-! ## bodies and fields -/
/-- the state of a Body (t false) or a Field (t true) -/
structure FS (t : Bool) where
  ranks : List (Int × Int)
  edges : List (Int × List Int)
  after : Int
  ahead : List (Int × Int)
  behind : List (Int × Int)
def Cs.cls (T : Cs) (t : Bool) : Addr := if t then T.field else T.body
def flds (t : Bool) (dr de : Addr) (n : Int) (da db : Addr) : List (Str × V) := match t with
  | false => [("ranks", .ref dr), ("edges", .ref de), ("after", .int n)]
  | true => [("ranks", .ref dr), ("edges", .ref de), ("after", .int n), ("ahead", .ref da), ("behind", .ref db)]
/-- the arrows' two tables, where it is a field -/
def Arr (t : Bool) (A m : Hp) (dr de da db : Addr) (ah be : List (Int × Int)) : Prop := match t with
  | false => True
  | true => (∃ ka, m da = some (.dK ka) ∧ DK A ka ah) ∧ (∃ kb, m db = some (.dK kb) ∧ DK A kb be) ∧ da ≠ db ∧ da ≠ dr ∧ da ≠ de ∧ db ≠ dr ∧ db ≠ de
def FAt (t : Bool) (T : Cs) (A m : Hp) (v : V) (s : FS t) : Prop := ∃ p dx dr de da db, v = .ref p ∧ m p = some (.ins (T.cls t) dx (flds t dr de s.after da db)) ∧ (∃ kr, m dr = some (.dK kr) ∧ DK A kr s.ranks) ∧ (∃ ke, m de = some (.dK ke) ∧ DK A ke s.edges) ∧ dr ≠ de ∧ Arr t A m dr de da db s.ahead s.behind
theorem Arr.up {t : Bool} {A B m : Hp} {dr de da db : Addr} {ah be : List (Int × Int)} (h : Arr t A m dr de da db ah be) (e : Same A B) : Arr t B m dr de da db ah be := by
  cases t with
  | false => trivial
  | true =>
    obtain ⟨⟨ka, h1, h2⟩, ⟨kb, h3, h4⟩, h5⟩ := h
    exact ⟨⟨ka, h1, h2.up e⟩, ⟨kb, h3, h4.up e⟩, h5⟩
instance instObFS {t : Bool} : Ob (FS t) := ⟨FAt t, fun e ⟨p, dx, dr, de, da, db, h1, h2, ⟨kr, h3, h4⟩, ⟨ke, h5, h6⟩, h7, h8⟩ => ⟨p, dx, dr, de, da, db, h1, h2, ⟨kr, h3, h4.up e⟩, ⟨ke, h5, h6.up e⟩, h7, h8.up e⟩⟩
/-- what the walk asks of a class -/
structure Kl (K : PySem.W.Frag) (C : Addr) (t : Bool) : Prop where
  cl : Cls K C
  ranks : NoAttr K C "ranks"
  edges : NoAttr K C "edges"
  after : NoAttr K C "after"
  ahead : t = true → NoAttr K C "ahead"
  behind : t = true → NoAttr K C "behind"
/-- x.f, x.f = y, x.m(..): by values -/
def FldV (K : PySem.W.Frag) (f : Str) (x : V) (H : Hp) (Q : VK) : Prop := ∃ a C dx fs v, x = .ref a ∧ H a = some (.ins C dx fs) ∧ Cls K C ∧ NoAttr K C f ∧ fs.lookup f = some v ∧ Q v H
def FldS (K : PySem.W.Frag) (f : Str) (y x : V) (H : Hp) (N : Hp → Prop) : Prop := ∃ a C dx fs, x = .ref a ∧ H a = some (.ins C dx fs) ∧ Cls K C ∧ NoAttr K C f ∧ fs.length < 1000 ∧ N (upd H a (.ins C dx (putF f y fs)))
def MetV (C : Addr) (m : Str) (x : V) (H : Hp) (P : Prop) : Prop := ∃ a dx fs, x = .ref a ∧ H a = some (.ins C dx fs) ∧ fs.lookup m = none ∧ P
section
variable {K : PySem.W.Frag} {σ : L2.St} {H : Hp} {Q : VK} {ta tv : TE} {f m : Str} {D : Ends} {tz : TS} {C : Addr} {sp : Sp} {dvs : List V} {E : XK} {t : TA}
theorem c_fld (h : ta σ H fun x H1 => FldV K f x H1 Q) : tFld K ta f σ H Q := h
theorem q_fld (h : tv σ H fun y H1 => ta σ H1 fun x H2 => FldS K f y x H2 fun H3 => tz D σ H3) : tSeq (sFld K ta tv f) tz D σ H := h
theorem s_fldS (h : tv σ H fun y H1 => ta σ H1 fun x H2 => FldS K f y x H2 fun H3 => D.nx σ H3) : sFld K ta tv f D σ H := h
theorem c_met (h : ta σ H fun x H1 => MetV C m x H1 (t σ H1 fun vs H2 => sp (x :: (vs ++ dvs)) H2 Q E)) : tMeth C m sp dvs E ta t σ H Q := h
end
theorem lk_ranks {t : Bool} {dr de : Addr} {n : Int} {da db : Addr} : (flds t dr de n da db).lookup ("ranks" : Str) = some (.ref dr) := by cases t <;> rfl
theorem lk_edges {t : Bool} {dr de : Addr} {n : Int} {da db : Addr} : (flds t dr de n da db).lookup ("edges" : Str) = some (.ref de) := by cases t <;> rfl
theorem lk_after {t : Bool} {dr de : Addr} {n : Int} {da db : Addr} : (flds t dr de n da db).lookup ("after" : Str) = some (.int n) := by cases t <;> rfl
theorem lk_ahead {dr de : Addr} {n : Int} {da db : Addr} : (flds true dr de n da db).lookup ("ahead" : Str) = some (.ref da) := rfl
theorem lk_behind {dr de : Addr} {n : Int} {da db : Addr} : (flds true dr de n da db).lookup ("behind" : Str) = some (.ref db) := rfl
theorem put_after {t : Bool} {dr de : Addr} {n : Int} {da db : Addr} {k : Int} : putF "after" (.int k) (flds t dr de n da db) = flds t dr de k da db := by cases t <;> rfl
theorem fl_len {t : Bool} {dr de : Addr} {n : Int} {da db : Addr} : (flds t dr de n da db).length < 1000 := by
  cases t with
  | false => exact (by decide : 3 < 1000)
  | true => exact (by decide : 5 < 1000)
/-- a table of an object may be changed -/
def Cap {S α : Type} [Ob S] [Rep α] (T : Cs) (A m : Hp) (R : List Hp) (H : Hp) (v : V) (d : Addr) (g : List (Int × α) → S) : Prop :=
  ∀ kvs' l', DK A kvs' l' → ∃ m', St (upd H d (.dK kvs')) (A :: m' :: R) ∧ Ob.isAt T A m' v (g l')
section
variable {K : PySem.W.Frag} {T : Cs} {A m H : Hp} {R : List Hp} {v : V} {Q : VK} {t : Bool} {s : FS t} {sf : FS true}
theorem ins_ne {a b : Addr} {C dx : Addr} {fs : List (Str × V)} {kvs : List (Key × V)} (h1 : m a = some (.ins C dx fs)) (h2 : m b = some (.dK kvs)) : a ≠ b := ne_of h1 h2 (fun z => by cases z)
theorem arr_upd {dr de da db a : Addr} {o : HO} {ah be : List (Int × Int)} (h : Arr t A m dr de da db ah be) (h1 : t = true → da ≠ a ∧ db ≠ a) : Arr t A (upd m a o) dr de da db ah be := by
  cases t with
  | false => trivial
  | true =>
    obtain ⟨⟨ka, e1, e2⟩, ⟨kb, e3, e4⟩, e5⟩ := h
    obtain ⟨n1, n2⟩ := h1 rfl
    exact ⟨⟨ka, by rw [upd_ne n1]; exact e1, e2⟩, ⟨kb, by rw [upd_ne n2]; exact e3, e4⟩, e5⟩
theorem f_ranks (kl : Kl K (T.cls t) t) (S : St H (A :: m :: R)) (h : Ob.isAt T A m v s) (k : ∀ d kvs, H d = some (.dK kvs) → DK A kvs s.ranks → Cap T A m R H v d (fun l => ({ s with ranks := l } : FS t)) → Q (.ref d) H) : FldV K "ranks" v H Q := by
  obtain ⟨p, dx, dr, de, da, db, rfl, h2, ⟨kr, h3, h4⟩, ⟨ke, h5, h6⟩, h7, h8⟩ := h
  refine ⟨p, _, dx, _, _, rfl, S.second _ _ h2, kl.cl, kl.ranks, lk_ranks, k dr kr (S.second _ _ h3) h4 fun kvs' l' hk => ⟨_, S.wr h3, p, dx, dr, de, da, db, rfl, ?_, ⟨kvs', upd_same, hk⟩, ⟨ke, ?_, h6⟩, h7, arr_upd h8 fun ht => ?_⟩⟩
  · rw [upd_ne (ins_ne h2 h3)]
    exact h2
  · rw [upd_ne h7.symm]
    exact h5
  · subst ht
    exact ⟨h8.2.2.2.1, h8.2.2.2.2.2.1⟩
theorem f_edges (kl : Kl K (T.cls t) t) (S : St H (A :: m :: R)) (h : Ob.isAt T A m v s) (k : ∀ d kvs, H d = some (.dK kvs) → DK A kvs s.edges → Cap T A m R H v d (fun l => ({ s with edges := l } : FS t)) → Q (.ref d) H) : FldV K "edges" v H Q := by
  obtain ⟨p, dx, dr, de, da, db, rfl, h2, ⟨kr, h3, h4⟩, ⟨ke, h5, h6⟩, h7, h8⟩ := h
  refine ⟨p, _, dx, _, _, rfl, S.second _ _ h2, kl.cl, kl.edges, lk_edges, k de ke (S.second _ _ h5) h6 fun kvs' l' hk => ⟨_, S.wr h5, p, dx, dr, de, da, db, rfl, ?_, ⟨kr, ?_, h4⟩, ⟨kvs', upd_same, hk⟩, h7, arr_upd h8 fun ht => ?_⟩⟩
  · rw [upd_ne (ins_ne h2 h5)]
    exact h2
  · rw [upd_ne h7]
    exact h3
  · subst ht
    exact ⟨h8.2.2.2.2.1, h8.2.2.2.2.2.2⟩
theorem f_ahead (kl : Kl K (T.cls true) true) (S : St H (A :: m :: R)) (h : Ob.isAt T A m v sf) (k : ∀ d kvs, H d = some (.dK kvs) → DK A kvs sf.ahead → Cap T A m R H v d (fun l => ({ sf with ahead := l } : FS true)) → Q (.ref d) H) : FldV K "ahead" v H Q := by
  obtain ⟨p, dx, dr, de, da, db, rfl, h2, ⟨kr, h3, h4⟩, ⟨ke, h5, h6⟩, h7, ⟨ka, e1, e2⟩, ⟨kb, e3, e4⟩, n1, n2, n3, n4, n5⟩ := h
  refine ⟨p, _, dx, _, _, rfl, S.second _ _ h2, kl.cl, kl.ahead rfl, lk_ahead, k da ka (S.second _ _ e1) e2 fun kvs' l' hk => ⟨_, S.wr e1, p, dx, dr, de, da, db, rfl, ?_, ⟨kr, ?_, h4⟩, ⟨ke, ?_, h6⟩, h7, ⟨kvs', upd_same, hk⟩, ⟨kb, ?_, e4⟩, n1, n2, n3, n4, n5⟩⟩
  · rw [upd_ne (ins_ne h2 e1)]
    exact h2
  · rw [upd_ne n2.symm]
    exact h3
  · rw [upd_ne n3.symm]
    exact h5
  · rw [upd_ne n1.symm]
    exact e3
theorem f_behind (kl : Kl K (T.cls true) true) (S : St H (A :: m :: R)) (h : Ob.isAt T A m v sf) (k : ∀ d kvs, H d = some (.dK kvs) → DK A kvs sf.behind → Cap T A m R H v d (fun l => ({ sf with behind := l } : FS true)) → Q (.ref d) H) : FldV K "behind" v H Q := by
  obtain ⟨p, dx, dr, de, da, db, rfl, h2, ⟨kr, h3, h4⟩, ⟨ke, h5, h6⟩, h7, ⟨ka, e1, e2⟩, ⟨kb, e3, e4⟩, n1, n2, n3, n4, n5⟩ := h
  refine ⟨p, _, dx, _, _, rfl, S.second _ _ h2, kl.cl, kl.behind rfl, lk_behind, k db kb (S.second _ _ e3) e4 fun kvs' l' hk => ⟨_, S.wr e3, p, dx, dr, de, da, db, rfl, ?_, ⟨kr, ?_, h4⟩, ⟨ke, ?_, h6⟩, h7, ⟨ka, ?_, e2⟩, ⟨kvs', upd_same, hk⟩, n1, n2, n3, n4, n5⟩⟩
  · rw [upd_ne (ins_ne h2 e3)]
    exact h2
  · rw [upd_ne n4.symm]
    exact h3
  · rw [upd_ne n5.symm]
    exact h5
  · rw [upd_ne n1]
    exact e1
theorem f_after (kl : Kl K (T.cls t) t) (S : St H (A :: m :: R)) (h : Ob.isAt T A m v s) (k : Q (.int s.after) H) : FldV K "after" v H Q := by
  obtain ⟨p, dx, dr, de, da, db, rfl, h2, _⟩ := h
  exact ⟨p, _, dx, _, _, rfl, S.second _ _ h2, kl.cl, kl.after, lk_after, k⟩
theorem f_setAfter {n : Int} {N : Hp → Prop} (kl : Kl K (T.cls t) t) (S : St H (A :: m :: R)) (h : Ob.isAt T A m v s) (k : ∀ m' H', St H' (A :: m' :: R) → Ob.isAt T A m' v ({ s with after := n } : FS t) → N H') : FldS K "after" (.int n) v H N := by
  obtain ⟨p, dx, dr, de, da, db, rfl, h2, ⟨kr, h3, h4⟩, ⟨ke, h5, h6⟩, h7, h8⟩ := h
  refine ⟨p, _, dx, _, rfl, S.second _ _ h2, kl.cl, kl.after, fl_len, k _ _ (S.wr h2) ⟨p, dx, dr, de, da, db, rfl, ?_, ⟨kr, ?_, h4⟩, ⟨ke, ?_, h6⟩, h7, arr_upd h8 fun ht => ?_⟩⟩
  · rw [upd_same, put_after]
  · rw [upd_ne (ins_ne h2 h3).symm]
    exact h3
  · rw [upd_ne (ins_ne h2 h5).symm]
    exact h5
  · subst ht
    obtain ⟨⟨ka, e1, _⟩, ⟨kb, e2, _⟩, _⟩ := h8
    exact ⟨(ins_ne h2 e1).symm, (ins_ne h2 e2).symm⟩
theorem fl_no {t : Bool} {dr de : Addr} {n : Int} {da db : Addr} {x : Str} (h : (["ranks", "edges", "after", "ahead", "behind"] : List Str).all (fun y => !(x == y)) = true) : (flds t dr de n da db).lookup x = none := by
  simp only [List.all_cons, List.all_nil, Bool.and_true, Bool.and_eq_true, Bool.not_eq_true'] at h
  obtain ⟨h1, h2, h3, h4, h5⟩ := h
  cases t with
  | false => simp only [flds, List.lookup, h1, h2, h3]
  | true => simp only [flds, List.lookup, h1, h2, h3, h4, h5]
theorem f_met {x : Str} {P : Prop} (S : St H (A :: m :: R)) (h : Ob.isAt T A m v s) (hx : (["ranks", "edges", "after", "ahead", "behind"] : List Str).all (fun y => !(x == y)) = true) (k : P) : MetV (T.cls t) x v H P := by
  obtain ⟨p, dx, dr, de, da, db, rfl, h2, _⟩ := h
  exact ⟨p, dx, _, rfl, S.second _ _ h2, fl_no hx, k⟩
end
end SB

namespace SB
open PySem PySem.Spec PyProof.Rows L2 Res
/-! ## while, with fuel -/
def whileM {ω β σT : Type} (test : σT → Res ω Bool) (body : σT → Res ω (Fl β σT)) : Nat → σT → Res ω (Fl β σT)
  | 0, _ => .bad
  | n + 1, s => bind (test s) fun b => if b = true then bind (body s) fun r => (match r with
      | .next s' => whileM test body n s'
      | .ret y => .ok (.ret y)) else .ok (.next s)
@[irreducible] def fuel : Nat := 100000
section
variable {ω β β' γ σT α : Type} [Rep α] {A H : Hp} {R : List Hp} {Qr : γ → Prop} {Er : Exn → ω → Prop} {xs : List α} {K : PySem.W.Frag} {v : V}
theorem c_while {σ : L2.St} {tc : TT} {tu : TS} {D : Ends} {s0 : σT} {test : σT → Res ω Bool} {body : σT → Res ω (Fl β' σT)} {f : Fl β' σT → Res ω γ} {n : Nat} (Rel : Hp → L2.St → List Hp → σT → Prop)
    (S : St H (A :: R)) (h0 : Rel A σ R s0) (hm : (bind (whileM test body n s0) f).wp Qr Er)
    (step : ∀ A' H' σ' R' s (C : Bool → Prop) (P : Bool → Hp → Prop), Same A A' → St H' (A' :: R') → Rel A' σ' R' s →
      (∀ b A'' H'' R'', Same A A'' → St H'' (A'' :: R'') → Rel A'' σ' R'' s → C b → P b H'') → (test s).wp C Er → tc σ' H' P)
    (turn : ∀ A' H' σ' R' s (C : σT → Prop) (N : L2.St → Hp → Prop), Same A A' → St H' (A' :: R') → Rel A' σ' R' s →
      (∀ A'' H'' σ'' R'' s', Same A A'' → St H'' (A'' :: R'') → Rel A'' σ'' R'' s' → C s' → N σ'' H'') →
      (body s).wp (fun r => match r with | .next s' => C s' | .ret y => (f (.ret y)).wp Qr Er) Er → tu { D with nx := N, ct := N, bk := D.nx } σ' H')
    (done : ∀ A' H' σ' R' s, Same A A' → St H' (A' :: R') → Rel A' σ' R' s → (f (.next s)).wp Qr Er → D.nx σ' H') : tWhile tc tu D σ H := by
  refine ⟨fun m σ' H' => ∃ A' R' s, Same A A' ∧ St H' (A' :: R') ∧ Rel A' σ' R' s ∧ (bind (whileM test body m s) f).wp Qr Er, ⟨n, A, R, s0, Same.refl _, S, h0, hm⟩, ?_⟩
  rintro m σ' H' ⟨A', R', s, e, S', hr, hw⟩
  cases m with
  | zero => exact hw.elim
  | succ m =>
    unfold whileM at hw
    have hw : (bind (test s) fun b => bind (if b = true then bind (body s) fun r => (match r with
      | .next s' => whileM test body m s'
      | .ret y => .ok (.ret y)) else .ok (.next s)) f).wp Qr Er := by
      cases ht : test s with
      | ok b =>
        rw [ht] at hw
        exact hw
      | ex e w =>
        rw [ht] at hw
        exact hw
      | bad =>
        rw [ht] at hw
        exact hw
    refine step A' H' σ' R' s (fun b => (bind (if b = true then bind (body s) fun r => (match r with
      | .next s' => whileM test body m s'
      | .ret y => .ok (.ret y)) else .ok (.next s)) f).wp Qr Er) _ e S' hr (fun b A'' H'' R'' e' S'' hr' hc => ?_) (wp_bind hw)
    cases b with
    | false => exact done A'' H'' σ' R'' s e' S'' hr' hc
    | true =>
      show ∃ N, _
      refine ⟨fun σ2 H2 => ∃ A2 R2 s', Same A A2 ∧ St H2 (A2 :: R2) ∧ Rel A2 σ2 R2 s' ∧ (bind (whileM test body m s') f).wp Qr Er, fun σ2 H2 h => ⟨m, Nat.lt_succ_self m, h⟩, ?_⟩
      refine turn A'' H'' σ' R'' s (fun s' => (bind (whileM test body m s') f).wp Qr Er) _ e' S'' hr' (fun A3 H3 σ3 R3 s' e3 S3 hr3 hc3 => ⟨A3, R3, s', e3, S3, hr3, hc3⟩) ?_
      have hc : (bind (bind (body s) fun r => (match r with
        | .next s' => whileM test body m s'
        | .ret y => .ok (.ret y))) f).wp Qr Er := hc
      cases hb : body s with
      | ok r =>
        rw [hb] at hc
        cases r with
        | next s' => exact hc
        | ret y => exact hc
      | ex e w =>
        rw [hb] at hc
        exact hc
      | bad =>
        rw [hb] at hc
        exact hc
/-- a value whose ways meet -/
theorem q_val {te : TE} {P : VK} {σ : L2.St} {m : Res ω α} {f : α → Res ω γ} (hm : (bind m f).wp Qr Er)
    (h1 : ∀ Qv : VK, (∀ x w A' H', Same A A' → St H' (A' :: R) → Is A' w x → (Res.ok x : Res ω α).wp (fun x => (f x).wp Qr Er) Er → Qv w H') → m.wp (fun x => (f x).wp Qr Er) Er → te σ H Qv)
    (h2 : ∀ x w A' H', Same A A' → St H' (A' :: R) → Is A' w x → (f x).wp Qr Er → P w H') : te σ H P := h1 P (fun x w A' H' e S hw h => h2 x w A' H' e S hw h) (wp_bind hm)
theorem c_ife {tt : TT} {ta tb : TE} {σ : L2.St} {Q : VK} (h : tt σ H fun c H1 => if c = true then ta σ H1 Q else tb σ H1 Q) : tIf tt ta tb σ H Q := h
/-- for a, b in a frozen list of pairs -/
theorem c_forP {σ : L2.St} {tl : TE} {tu : TS} {j1 j2 : Nat} {D : Ends} {s0 : σT} {ps : List (α × β)} [Rep β] {body : α × β → σT → Res ω (Fl β' σT)} {f : Fl β' σT → Res ω γ} (Rel : Hp → L2.St → List Hp → σT → Prop)
    (S : St H (A :: R)) (htl : ∀ Q' : VK, Q' v H → tl σ H Q') (hx : Is A v ps) (h0 : Rel A σ R s0) (hm : (bind (forM body ps s0) f).wp Qr Er)
    (step : ∀ x w1 w2 A' H' σ' R' s (C : σT → Prop) (N : L2.St → Hp → Prop), x ∈ ps → Same A A' → St H' (A' :: R') → Is A' w1 x.1 → Is A' w2 x.2 → Rel A' σ' R' s →
      (∀ A'' H'' σ'' R'' s', Same A A'' → St H'' (A'' :: R'') → Rel A'' σ'' R'' s' → C s' → N σ'' H'') →
      (body x s).wp (fun r => match r with | .next s' => C s' | .ret y => (f (.ret y)).wp Qr Er) Er → tu { D with nx := N, ct := N, bk := D.nx } ((σ'.set j1 (some w1)).set j2 (some w2)) H')
    (done : ∀ A' H' σ' R' s, Same A A' → St H' (A' :: R') → Rel A' σ' R' s → (f (.next s)).wp Qr Er → D.nx σ' H') : tFor (iList K tl) (gTup K 2 (gCons (gName j1) (gCons (gName j2) gNil))) tu D σ H := by
  obtain ⟨a, us, rfl, h1, h2⟩ := hx
  refine htl _ ⟨a, rfl, ⟨us, SqL.of (S.1 _ _ h1)⟩, ?_⟩
  refine for_list (xs := us) (fun i σ' H' => ∃ A' R' s, Same A A' ∧ St H' (A' :: R') ∧ Rel A' σ' R' s ∧ (bind (forM body (ps.drop i) s) f).wp Qr Er) ⟨A, R, s0, Same.refl _, S, h0, hm⟩ (fun i σ' H' _ ⟨A', R', s, e, S', _⟩ => SqL.of (S'.1 _ _ (e _ _ h1))) (fun i w σ' H' hi ⟨A', R', s, e, S', hr, hw⟩ => ?_) (fun σ' H' ⟨A', R', s, e, S', hr, hw⟩ => ?_)
  · obtain ⟨x, hxi, hxw⟩ := h2.1.getV hi
    have ed : ps.drop i = x :: ps.drop (i + 1) := by
      obtain ⟨hlt, hg⟩ := List.getElem?_eq_some_iff.mp hxi
      rw [← hg]
      exact List.drop_eq_getElem_cons hlt
    rw [ed] at hw
    obtain ⟨b, u1, u2, rfl, k1, k2, k3⟩ := Rep.mono e hxw
    refine ⟨b, [u1, u2], rfl, SqT.of (S'.1 _ _ k1), rfl, u1, [u2], rfl, u2, [], rfl, rfl, ?_⟩
    refine step x u1 u2 A' H' σ' R' s (fun s' => (bind (forM body (ps.drop (i + 1)) s') f).wp Qr Er) _ (List.mem_of_getElem? hxi) e S' k2 k3 hr (fun A'' H'' σ'' R'' s' e' S'' hr' hc => ⟨A'', R'', s', e', S'', hr', hc⟩) ?_
    unfold forM at hw
    cases hb : body x s with
    | ok r =>
      rw [hb] at hw
      cases r with
      | next s' => exact hw
      | ret y => exact hw
    | ex e w =>
      rw [hb] at hw
      exact hw
    | bad =>
      rw [hb] at hw
      exact hw
  · rw [h2.len, List.drop_length] at hw
    exact done A' H' σ' R' s e S' hr hw
/-- a list with its places -/
def enumF {α : Type} : Int → List α → List (Int × α)
  | _, [] => []
  | k, x :: xs => (k, x) :: enumF (k + 1) xs
def enumL {α : Type} (xs : List α) : List (Int × α) := enumF 0 xs
theorem enumF_get {α : Type} : ∀ {xs : List α} {i : Nat} {x : α} (k : Int), xs[i]? = some x → (enumF k xs)[i]? = some (k + (i : Int), x)
  | [], _, _, _, h => by cases h
  | y :: xs, 0, x, k, h => by
    cases h
    show some (k, _) = some (k + ((0 : Nat) : Int), _)
    rw [show k + ((0 : Nat) : Int) = k by omega]
  | y :: xs, i + 1, x, k, h => by
    have := enumF_get (k + 1) (show xs[i]? = some x from h)
    show (enumF (k + 1) xs)[i]? = _
    rw [this, show k + 1 + (i : Int) = k + ((i + 1 : Nat) : Int) by omega]
theorem enum_get {α : Type} {xs : List α} {i : Nat} {x : α} (h : xs[i]? = some x) : (enumL xs)[i]? = some ((i : Int), x) := by
  have := enumF_get 0 h
  rw [show (0 : Int) + (i : Int) = (i : Int) by omega] at this
  exact this
theorem enumF_len {α : Type} : ∀ (k : Int) (xs : List α), (enumF k xs).length = xs.length
  | _, [] => rfl
  | k, x :: xs => by
    show (enumF (k + 1) xs).length + 1 = xs.length + 1
    rw [enumF_len]
theorem enum_len {α : Type} (xs : List α) : (enumL xs).length = xs.length := enumF_len 0 xs
theorem c_forE {σ : L2.St} {ta : TA} {tu : TS} {j1 j2 : Nat} {D : Ends} {s0 : σT} {body : Int × α → σT → Res ω (Fl β' σT)} {f : Fl β' σT → Res ω γ} (Rel : Hp → L2.St → List Hp → σT → Prop)
    (S : St H (A :: R)) (hta : ∀ Q' : List V → Hp → Prop, Q' [v] H → ta σ H Q') (hx : Is A v xs) (h0 : Rel A σ R s0) (hm : (bind (forM body (enumL xs) s0) f).wp Qr Er)
    (step : ∀ x w2 A' H' σ' R' s (C : σT → Prop) (N : L2.St → Hp → Prop), x ∈ enumL xs → Same A A' → St H' (A' :: R') → Is A' w2 x.2 → Rel A' σ' R' s →
      (∀ A'' H'' σ'' R'' s', Same A A'' → St H'' (A'' :: R'') → Rel A'' σ'' R'' s' → C s' → N σ'' H'') →
      (body x s).wp (fun r => match r with | .next s' => C s' | .ret y => (f (.ret y)).wp Qr Er) Er → tu { D with nx := N, ct := N, bk := D.nx } ((σ'.set j1 (some (.int x.1))).set j2 (some w2)) H')
    (done : ∀ A' H' σ' R' s, Same A A' → St H' (A' :: R') → Rel A' σ' R' s → (f (.next s)).wp Qr Er → D.nx σ' H') : tFor (iEnum K ta) (gTup K 2 (gCons (gName j1) (gCons (gName j2) gNil))) tu D σ H := by
  obtain ⟨a, us, rfl, h1, h2⟩ := hx
  refine hta _ ⟨a, us, rfl, SqL.of (S.1 _ _ h1), ?_⟩
  refine ⟨fun i m σ' H' => i + m = xs.length ∧ ∃ A' R' s, Same A A' ∧ St H' (A' :: R') ∧ Rel A' σ' R' s ∧ (bind (forM body ((enumL xs).drop i) s) f).wp Qr Er, ⟨xs.length, by omega, A, R, s0, Same.refl _, S, h0, hm⟩, ?_⟩
  rintro i m σ' H' ⟨him, A', R', s, e, S', hr, hw⟩
  have hq : SqL K H' a us := SqL.of (S'.1 _ _ (e _ _ h1))
  by_cases hi : i < xs.length
  · have hxi : xs[i]? = some xs[i] := List.getElem?_eq_getElem hi
    obtain ⟨u, hu, hxu⟩ := h2.1.get hxi
    refine .inr ⟨⟨us, u, hq, hu⟩, fun σ2 H2 => ∃ A' R' s, Same A A' ∧ St H2 (A' :: R') ∧ Rel A' σ2 R' s ∧ (bind (forM body ((enumL xs).drop (i + 1)) s) f).wp Qr Er, fun σ2 H2 h => ⟨m - 1, by omega, by omega, h⟩, ?_⟩
    rintro y H2 ⟨Tp, z, rfl, hT, rfl, hz⟩
    have ez : z = u := Option.some.inj ((hz us hq).symm.trans hu)
    subst ez
    have S2 := S'.new (o := .tup [.int (i : Nat), z]) hT
    have hT' : A' Tp = none := S'.1.free hT
    have e2 := same_upd (o := .tup [.int (i : Nat), z]) hT'
    refine ⟨Tp, _, rfl, SqT.of upd_same, rfl, _, [z], rfl, z, [], rfl, rfl, ?_⟩
    have hg := enum_get hxi
    have ed : (enumL xs).drop i = ((i : Int), xs[i]) :: (enumL xs).drop (i + 1) := by
      obtain ⟨hlt, hg'⟩ := List.getElem?_eq_some_iff.mp hg
      rw [← hg']
      exact List.drop_eq_getElem_cons hlt
    rw [ed] at hw
    -- the relation holds still: the tuple is dropped
    refine step ((i : Int), xs[i]) z A' (upd H' Tp (.tup [.int (i : Nat), z])) σ' R' s (fun s' => (bind (forM body ((enumL xs).drop (i + 1)) s') f).wp Qr Er) _ (List.mem_of_getElem? hg) e (S'.grow (same_upd hT)) (Rep.mono e hxu) hr (fun A'' H'' σ'' R'' s' e' S'' hr' hc => ⟨A'', R'', s', e', S'', hr', hc⟩) ?_
    unfold forM at hw
    cases hb : body ((i : Int), xs[i]) s with
    | ok r =>
      rw [hb] at hw
      cases r with
      | next s' => exact hw
      | ret y => exact hw
    | ex e w =>
      rw [hb] at hw
      exact hw
    | bad =>
      rw [hb] at hw
      exact hw
  · refine .inl ⟨⟨us, hq, by rw [h2.len]; omega⟩, ?_⟩
    have ei : (enumL xs).drop i = [] := List.drop_eq_nil_of_le (by rw [enum_len]; omega)
    rw [ei] at hw
    exact done A' H' σ' R' s e S' hr hw
end
section
variable {K : PySem.W.Frag} {tl : TE} {ta : TA} {tu tz : TS} {g : TG} {D : Ends} {σ : L2.St} {H : Hp} {c : TT} {to ti te : TE} {tget : V → V → Hp → VK → Prop} {tip : TIp} {tset : TSet}
theorem q_forE (h : ta σ H fun us H1 => tFor (iEnum K (tArgs us)) g tu { D with nx := tz D } σ H1) : tSeq (tFor (iEnum K ta) g tu) tz D σ H := h
theorem s_forE (h : ta σ H fun us H1 => tFor (iEnum K (tArgs us)) g tu D σ H1) : tFor (iEnum K ta) g tu D σ H := h
theorem q_while (h : tWhile c tu { D with nx := tz D } σ H) : tSeq (tWhile c tu) tz D σ H := h
theorem q_augS (h : to σ H fun o H1 => ti σ H1 fun i H2 => tget o i H2 fun x H3 => te σ H3 fun y H4 => tip x y H4 fun z H5 => tset o i z H5 fun H6 => tz D σ H6) : tSeq (tAugS to ti te tget tip tset) tz D σ H := h
theorem s_augS (h : to σ H fun o H1 => ti σ H1 fun i H2 => tget o i H2 fun x H3 => te σ H3 fun y H4 => tip x y H4 fun z H5 => tset o i z H5 fun H6 => D.nx σ H6) : tAugS to ti te tget tip tset D σ H := h
end
/-- a method that is called through an object -/
structure MGlob (P : Program) (w : World) (K : PySem.W.Frag) (mg : Str → Option Value) (base : Heap) (X : CXT) (k : Nat) (C : Addr) (x : Str) (ps : List Str) (sp : Sp) (f : Addr) (fd : FuncData) : Prop where
  ok : FnOk P w K mg base X k f fd ps sp
  mt : Meth K C x f
  b : Binds K fd ps []
/-- a class that is made without arguments -/
structure NGlob (P : Program) (w : World) (K : PySem.W.Frag) (mg : Str → Option Value) (base : Heap) (k : Nat) (C : Addr) (x : Str) (sp : Sp) (f : Addr) (fd : FuncData) : Prop where
  ok : FnOk P w K mg base CX0 k f fd ["self"] sp
  g : mg x = some (.ref C)
  made : Mk K C f
  b : Binds K fd ["self"] []
/-! ## a new object -/
def sp_new (t : Bool) (T : Cs) (K : PySem.W.Frag) : Sp := fun vs H Q _ => ∃ (A : Hp) (R : List Hp) (p dx : Addr), vs = [.ref p] ∧ St H (A :: one p (.ins (T.cls t) dx []) :: R) ∧
  ∀ m H', St H' (A :: m :: R) → Ob.isAt T A m (.ref p) (FS.mk [] [] 0 [] [] : FS t) → Q .non H'
def emptyF (t : Bool) : FS t := FS.mk [] [] 0 [] []
theorem c_new {t : Bool} {T : Cs} {K : PySem.W.Frag} {A H : Hp} {R : List Hp} {E : XK} {σ : L2.St} {Q : VK} (S : St H (A :: R)) (k : ∀ p m H', St H' (A :: m :: R) → Ob.isAt T A m (.ref p) (emptyF t) → Q (.ref p) H') : tMake (T.cls t) (sp_new t T K) [] E tNil σ H Q := by
  intro x dx hx hdx hne
  have S1 : St (upd H dx (.own x)) (A :: R) := S.grow (same_upd hdx)
  refine ⟨A, R, x, dx, rfl, S1.newM (by rw [upd_ne hne.symm]; exact hx), fun m H' S' h => ⟨rfl, k x m H' S' h⟩⟩
def rd_Body_init (T : Cs) (K : PySem.W.Frag) (E : XK) : TS := tSeq (sFld K (tVar 0) tDNewK "ranks") (tSeq (sFld K (tVar 0) tDNewK "edges") (sFld K (tVar 0) (tC (.int 0)) "after"))
theorem wk_Body_init {T : Cs} {K : PySem.W.Frag} {vs : List V} {H : Hp} {Q : VK} {E : XK} (kl : Kl K (T.cls false) false) (h : sp_new false T K vs H Q E) : rd_Body_init T K E { nx := fun _ H' => Q .non H', rt := Q } (L2.start ["self"] vs) H := by
  obtain ⟨A, R, p, dx, rfl, S, h⟩ := h
  have hp := S.second _ _ one_same
  show rd_Body_init T K E _ [some (.ref p)] H
  unfold rd_Body_init
  refine q_seq fun dr hdr => ?_
  have npr : p ≠ dr := ne_of_none hp hdr
  refine ⟨_, rfl, p, _, dx, [], rfl, by rw [upd_ne npr]; exact hp, kl.cl, kl.ranks, (by show 0 < 1000; decide), ?_⟩
  have S1 := (S.newM (o := .dK []) hdr).pick 1 (Nat.le_of_ble_eq_true rfl)
  have S2 : St (upd (upd H dr (.dK [])) p (.ins (T.cls false) dx (putF "ranks" (.ref dr) []))) (A :: one p (.ins (T.cls false) dx (putF "ranks" (.ref dr) [])) :: one dr (.dK []) :: R) := S1.wr1
  generalize upd (upd H dr (.dK [])) p (.ins (T.cls false) dx (putF "ranks" (.ref dr) [])) = H2 at S2 ⊢
  refine q_seq fun de hde => ?_
  have hp2 := S2.second _ _ one_same
  have npe : p ≠ de := ne_of_none hp2 hde
  refine ⟨_, rfl, p, _, dx, _, rfl, by rw [upd_ne npe]; exact hp2, kl.cl, kl.edges, (by show 1 < 1000; decide), ?_⟩
  have S3 := (S2.newM (o := .dK []) hde).pick 1 (Nat.le_of_ble_eq_true rfl)
  have S4 : St (upd (upd H2 de (.dK [])) p (.ins (T.cls false) dx (putF "edges" (.ref de) (putF "ranks" (.ref dr) [])))) (A :: one p (.ins (T.cls false) dx (putF "edges" (.ref de) (putF "ranks" (.ref dr) []))) :: one de (.dK []) :: one dr (.dK []) :: R) := S3.wr1
  generalize upd (upd H2 de (.dK [])) p (.ins (T.cls false) dx (putF "edges" (.ref de) (putF "ranks" (.ref dr) []))) = H4 at S4 ⊢
  have hp4 := S4.second _ _ one_same
  refine ⟨_, rfl, p, _, dx, _, rfl, hp4, kl.cl, kl.after, (by show 2 < 1000; decide), ?_⟩
  have S5 : St (upd H4 p (.ins (T.cls false) dx (flds false dr de 0 dr de))) (A :: one p (.ins (T.cls false) dx (flds false dr de 0 dr de)) :: one de (.dK []) :: one dr (.dK []) :: R) := S4.wr1
  have d1 : dr ≠ de := by
    intro z
    subst z
    exact S5.2.2.2.2.2.1 _ (List.mem_cons_self) _ _ _ one_same one_same
  have dp1 : p ≠ de := by
    intro z
    subst z
    exact S5.2.2.2.1 _ (List.mem_cons_self) _ _ _ one_same one_same
  have dp2 : p ≠ dr := by
    intro z
    subst z
    exact S5.2.2.2.1 _ (List.mem_cons_of_mem _ List.mem_cons_self) _ _ _ one_same one_same
  have S6 : St (upd H4 p (.ins (T.cls false) dx (flds false dr de 0 dr de))) (A :: join (join (one p (.ins (T.cls false) dx (flds false dr de 0 dr de))) (one de (.dK []))) (one dr (.dK [])) :: R) := S5.join2.join2
  refine h _ _ S6 ⟨p, dx, dr, de, dr, de, rfl, ?_, ⟨[], ?_, trivial⟩, ⟨[], ?_, trivial⟩, d1, trivial⟩
  · exact same_join_l _ _ (same_join_l _ _ one_same)
  · refine same_join_r (fun b o u e e' => ?_) _ _ one_same
    obtain ⟨rfl, _⟩ := one_some e'
    rcases join_some e with e | e
    · exact dp2 (one_some e).1.symm
    · exact d1 (one_some e).1
  · refine same_join_l _ _ (same_join_r (fun b o u e e' => ?_) _ _ one_same)
    obtain ⟨rfl, _⟩ := one_some e'
    exact dp1 (one_some e).1.symm
end SB
namespace SB
open PySem PySem.Spec PyProof.Rows L2 Res
/-! ## pairs or none -/
section
variable {α β : Type} [Rep α] [Rep β] {A : Hp} {v : V} {ws : List V}
theorem opt_some {x : α × β} (h : Is A v x) : Is A v (some x) := by
  refine ⟨?_, h⟩
  obtain ⟨a, _, _, rfl, _⟩ := h
  exact fun z => by cases z
theorem all2_some : ∀ {ws : List V} {xs : List (α × β)}, All2 (Rep.is A) ws xs → All2 (Rep.is A) ws (xs.map some)
  | [], [], _ => trivial
  | _ :: _, _ :: _, h => ⟨opt_some h.1, all2_some h.2⟩
  | [], _ :: _, h => h.elim
  | _ :: _, [], h => h.elim
theorem ol_some {xs : List (α × β)} (h : OL A ws xs) : OL A ws (xs.map some) := ⟨all2_some h.1, by rw [List.length_map]; exact h.2⟩
theorem is_somes {xs : List (α × β)} (h : Is A v xs) : Is A v (xs.map some) := by
  obtain ⟨a, vs, h1, h2, h3⟩ := h
  exact ⟨a, vs, h1, h2, ol_some h3⟩
end
/-! ## comprehensions over any list that stays -/
section
variable {ω α β γ σT : Type} [Rep α] [Rep β] {A H : Hp} {v : V} {xs : List α} {R : List Hp} {K : PySem.W.Frag} {Q : VK} {Qr : γ → Prop} {Er : Exn → ω → Prop}
theorem c_lcGX {σ : L2.St} {tl : TE} {tt : TT} {te : TE} {j : Nat} {vs : List Nat} {a : Addr} {us : List V} {s0 : σT} {body : α → σT → Res ω (Option β × σT)} {f : List β × σT → Res ω γ} (Rel : Hp → List Hp → σT → Prop)
    (S : St H (A :: R)) (htl : ∀ Q' : VK, Q' (.ref a) H → tl σ H Q') (h2 : OL A us xs) (hsrc : ∀ A' R' s, Same A A' → Rel A' R' s → A' a = some (.lst us) ∨ ∃ n ∈ R', n a = some (.lst us)) (h0 : Rel A R s0) (hm : (bind (compG body xs s0) f).wp Qr Er) (hw : ∀ x, wipe ((wipe σ vs).set j (some x)) vs = wipe σ vs)
    (step : StepG A tt te (fun w => (wipe σ vs).set j (some w)) body Rel (fun w x A' => x ∈ xs ∧ Is A' w x))
    (k : ∀ p A' H' R' ws y, (f y).wp Qr Er → Same A A' → St H' (A' :: one p (.lst ws) :: R') → Rel A' R' y.2 → OL A' ws y.1 → Q (.ref p) H') : tLc (iList K tl) (gName j) tt te vs σ H Q := by
  have hat : ∀ {A' H' R' s n}, Same A A' → St H' (A' :: n :: R') → Rel A' R' s → H' a = some (.lst us) := fun {A' H' R' s n} e S' hr => by
    rcases hsrc A' R' s e hr with z | ⟨q, hq, z⟩
    · exact S'.1 _ _ z
    · exact St.mem S'.2.2.2.2 q hq _ _ z
  have hat0 : H a = some (.lst us) := by
    rcases hsrc A R s0 (Same.refl _) h0 with z | ⟨q, hq, z⟩
    · exact S.1 _ _ z
    · exact St.mem S.2.2 q hq _ _ z
  refine htl _ ⟨a, rfl, ⟨us, SqL.of hat0⟩, fun Dl hD => ?_⟩
  refine lc_list (xs := us) (CgP A Rel body f Qr Er xs Dl) ⟨A, R, [], [], s0, Same.refl _, S.newM hD, h0, trivial, Nat.le_refl _, hm⟩ (fun i H' _ p => ?_) (fun i w H' hi p => ?_) (fun H' p => ?_)
  · obtain ⟨A', R', ws, ys, s, e, S', hr, _⟩ := p
    exact SqL.of (hat e S' hr)
  · obtain ⟨x, hxi, hxw⟩ := h2.1.getV hi
    have hlt : i < xs.length := (List.getElem?_eq_some_iff.mp hxi).1
    exact ⟨hw w, cg_turn step hxi (Nat.lt_of_lt_of_le hlt h2.2) (fun A' e => ⟨List.mem_of_getElem? hxi, Rep.mono e hxw⟩) p⟩
  · obtain ⟨A', R', ws, ys, s, e, S', hr, hv, hl, hc⟩ := p
    rw [h2.len, List.drop_length] at hc
    have hc : (f (ys ++ [], s)).wp Qr Er := hc
    rw [List.append_nil] at hc
    exact k Dl A' H' R' ws (ys, s) hc e S' hr ⟨hv, by rw [h2.len] at hl; exact Nat.le_trans hl h2.2⟩
variable {α2 : Type} [Rep α2] {ps : List (α × α2)}
/-- the step where the target is a pair -/
def StepP (A : Hp) (tt : TT) (te : TE) (σ2 : V → V → L2.St) (body : α × α2 → σT → Res ω (Option β × σT)) (Rel : Hp → List Hp → σT → Prop) (xs : List (α × α2)) : Prop :=
  ∀ x w1 w2 A' H' R' s n (C : Option β → σT → Prop) (K1 : VK) (K0 : Hp → Prop), x ∈ xs → Is A' w1 x.1 → Is A' w2 x.2 → Same A A' → St H' (A' :: n :: R') → Rel A' R' s →
    (∀ A'' H'' R'' y u s', Same A' A'' → St H'' (A'' :: n :: R'') → Rel A'' R'' s' → Is A'' u y → C (some y) s' → K1 u H'') →
    (∀ A'' H'' R'' s', Same A' A'' → St H'' (A'' :: n :: R'') → Rel A'' R'' s' → C none s' → K0 H'') →
    (body x s).wp (fun r => C r.1 r.2) (fun _ _ => False) → tt (σ2 w1 w2) H' (fun b H3 => if b = true then te (σ2 w1 w2) H3 K1 else K0 H3)
theorem c_lcGP {σ : L2.St} {tl : TE} {tt : TT} {te : TE} {j1 j2 : Nat} {vs : List Nat} {a : Addr} {us : List V} {s0 : σT} {body : α × α2 → σT → Res ω (Option β × σT)} {f : List β × σT → Res ω γ} (Rel : Hp → List Hp → σT → Prop)
    (S : St H (A :: R)) (htl : ∀ Q' : VK, Q' (.ref a) H → tl σ H Q') (h2 : OL A us ps) (hsrc : ∀ A' R' s, Same A A' → Rel A' R' s → A' a = some (.lst us) ∨ ∃ n ∈ R', n a = some (.lst us)) (h0 : Rel A R s0) (hm : (bind (compG body ps s0) f).wp Qr Er)
    (hw : ∀ x y, wipe (((wipe σ vs).set j1 (some x)).set j2 (some y)) vs = wipe σ vs)
    (step : StepP A tt te (fun w1 w2 => ((wipe σ vs).set j1 (some w1)).set j2 (some w2)) body Rel ps)
    (k : ∀ p A' H' R' ws y, (f y).wp Qr Er → Same A A' → St H' (A' :: one p (.lst ws) :: R') → Rel A' R' y.2 → OL A' ws y.1 → Q (.ref p) H') : tLc (iList K tl) (gTup K 2 (gCons (gName j1) (gCons (gName j2) gNil))) tt te vs σ H Q := by
  have hat : ∀ {A' H' R' s n}, Same A A' → St H' (A' :: n :: R') → Rel A' R' s → H' a = some (.lst us) := fun {A' H' R' s n} e S' hr => by
    rcases hsrc A' R' s e hr with z | ⟨q, hq, z⟩
    · exact S'.1 _ _ z
    · exact St.mem S'.2.2.2.2 q hq _ _ z
  have hat0 : H a = some (.lst us) := by
    rcases hsrc A R s0 (Same.refl _) h0 with z | ⟨q, hq, z⟩
    · exact S.1 _ _ z
    · exact St.mem S.2.2 q hq _ _ z
  refine htl _ ⟨a, rfl, ⟨us, SqL.of hat0⟩, fun Dl hD => ?_⟩
  refine lc_list (xs := us) (CgP A Rel body f Qr Er ps Dl) ⟨A, R, [], [], s0, Same.refl _, S.newM hD, h0, trivial, Nat.le_refl _, hm⟩ (fun i H' _ p => ?_) (fun i w H' hi p => ?_) (fun H' p => ?_)
  · obtain ⟨A', R', ws, ys, s, e, S', hr, _⟩ := p
    exact SqL.of (hat e S' hr)
  · obtain ⟨x, hxi, hxw⟩ := h2.1.getV hi
    have hlt : i < ps.length := (List.getElem?_eq_some_iff.mp hxi).1
    obtain ⟨b, u1, u2, rfl, k1, k2, k3⟩ := hxw
    obtain ⟨A', R', ws, ys, s, e, S', hr, rest⟩ := id p
    refine ⟨b, [u1, u2], rfl, SqT.of (S'.1 _ _ (e _ _ k1)), rfl, u1, [u2], rfl, u2, [], rfl, rfl, hw u1 u2, ?_⟩
    refine cg_turn (A := A) (σ2 := fun _ => ((wipe σ vs).set j1 (some u1)).set j2 (some u2)) (P := fun _ y A' => y = x ∧ Same A A') (w := .non) (x := x) ?_ hxi (Nat.lt_of_lt_of_le hlt h2.2) (fun A' e => ⟨rfl, e⟩) p
    rintro y _ A1 H1 R1 s1 n1 C K1 K0 ⟨rfl, e1⟩ e2 S1 hr1 hK1 hK0 hb
    exact step y u1 u2 A1 H1 R1 s1 n1 C K1 K0 (List.mem_of_getElem? hxi) (Rep.mono e1 k2) (Rep.mono e1 k3) e2 S1 hr1 hK1 hK0 hb
  · obtain ⟨A', R', ws, ys, s, e, S', hr, hv, hl, hc⟩ := p
    rw [h2.len, List.drop_length] at hc
    have hc : (f (ys ++ [], s)).wp Qr Er := hc
    rw [List.append_nil] at hc
    exact k Dl A' H' R' ws (ys, s) hc e S' hr ⟨hv, by rw [h2.len] at hl; exact Nat.le_trans hl h2.2⟩
theorem c_lcPF {σ : L2.St} {tl : TE} {tt : TT} {te : TE} {j1 j2 : Nat} {vs : List Nat} {s0 : σT} {body : α × α2 → σT → Res ω (Option β × σT)} {f : List β × σT → Res ω γ} (Rel : Hp → List Hp → σT → Prop)
    (S : St H (A :: R)) (htl : ∀ Q' : VK, Q' v H → tl σ H Q') (hx : Is A v ps) (h0 : Rel A R s0) (hm : (bind (compG body ps s0) f).wp Qr Er)
    (hw : ∀ x y, wipe (((wipe σ vs).set j1 (some x)).set j2 (some y)) vs = wipe σ vs)
    (step : StepP A tt te (fun w1 w2 => ((wipe σ vs).set j1 (some w1)).set j2 (some w2)) body Rel ps)
    (k : ∀ p A' H' R' ws y, (f y).wp Qr Er → Same A A' → St H' (A' :: one p (.lst ws) :: R') → Rel A' R' y.2 → OL A' ws y.1 → Q (.ref p) H') : tLc (iList K tl) (gTup K 2 (gCons (gName j1) (gCons (gName j2) gNil))) tt te vs σ H Q := by
  obtain ⟨a, us, rfl, h1, h2⟩ := hx
  exact c_lcGP Rel S htl h2 (fun A' R' s e _ => .inl (e _ _ h1)) h0 hm hw step k
end
/-- a module's name, by its value -/
theorem pe_kc {X : Cx} {x : Str} {v : V} {pos : Pos} (hg : Gl X x) (h : ∃ u, X.mg x = some u ∧ RelV v u) (hd : (x == ("__debug__" : Str)) = false := by decide) : PE X (.Name x pos) (tC v) :=
  match h with
  | ⟨_, hm, r⟩ => pe_glob hg hm r hd
end SB

namespace SB
open PySem PySem.Spec PyProof.Rows L2 Res
/-! ## try with clauses of any kind -/
/-- a clause: the classes that it names, the slot of its name, its suite -/
structure Cla where
  cs : List Value
  slot : Option Nat
  ts : Addr → Value → Option Addr → TS
def inAs (o : Option Nat) (a : Addr) (σ : L2.St) : L2.St := match o with
  | none => σ
  | some i => σ.set i (some (.ref a))
def outAs (o : Option Nat) (σ : L2.St) : L2.St := match o with
  | none => σ
  | some i => σ.set i none
def endAs (o : Option Nat) (D : Ends) : Ends := { nx := fun σ H => D.nx (outAs o σ) H, rt := D.rt, bk := fun σ H => D.bk (outAs o σ) H, ct := fun σ H => D.ct (outAs o σ) H }
def wCl (K : PySem.W.Frag) (Wout : WX) (D : Ends) : List Cla → WX
  | [] => Wout
  | c :: r => fun cls d σ H => ∃ b, PySem.W.exmAny K cls c.cs = some b ∧ (b = true → ∀ a, H a = none → c.ts a cls d (endAs c.slot D) (inAs c.slot a σ) H) ∧ (b = false → wCl K Wout D r cls d σ H)
def SuOk (X : Cx) (body : List Stmt) (ts : Addr → Value → Option Addr → TS) : Prop := ∀ (a : Addr) (oe : Obj) (cls : Value) (d : Option Addr) (pn : List (Addr × Obj)), Zc cls d oe → (∃ vs, oe.data = .fields vs) → PSs (X.suite a ((a, oe) :: pn)) body (ts a cls d)
inductive ClOk (X : Cx) : List ExceptHandler → List Cla → Prop
  | nil : ClOk X [] []
  | one {x : Str} {c : Value} {ts : Addr → Value → Option Addr → TS} {b0 : Stmt} {su : List Stmt} {np q : Pos} {hs : List ExceptHandler} {l : List Cla} (hc : Names X x c) (hsu : SuOk X (b0 :: su) ts) (r : ClOk X hs l) :
      ClOk X (.ExceptHandler (some (.Name x np)) none (b0 :: su) q :: hs) (⟨[c], none, ts⟩ :: l)
  | two {x y : Str} {c e : Value} {ts : Addr → Value → Option Addr → TS} {b0 : Stmt} {su : List Stmt} {np mp tp q : Pos} {kk : Nat} {hs : List ExceptHandler} {l : List Cla} (hc : Names X x c) (he : Names X y e) (hsu : SuOk X (b0 :: su) ts) (r : ClOk X hs l) :
      ClOk X (.ExceptHandler (some (.Tuple [.Name x np, .Name y mp] kk tp)) none (b0 :: su) q :: hs) (⟨[c, e], none, ts⟩ :: l)
  | as {x n : Str} {c : Value} {i : Nat} {ts : Addr → Value → Option Addr → TS} {b0 : Stmt} {su : List Stmt} {np q : Pos} {hs : List ExceptHandler} {l : List Cla} (hN : X.N.Nodup) (hi : X.N[i]? = some n) (hln : X.env.kindOf n = some .local) (hc : Names X x c) (hsu : SuOk X (b0 :: su) ts) (r : ClOk X hs l) :
      ClOk X (.ExceptHandler (some (.Name x np)) (some n) (b0 :: su) q :: hs) (⟨[c], some i, ts⟩ :: l)
/-- an exception at a, seen by this frame, all else as σ and H tell -/
structure Seen (X : Cx) (pins : List (Addr × Obj)) (σ : L2.St) (H : Hp) (a : Addr) (cls : Value) (d : Option Addr) (B : Heap) (sI s : Shared) : Prop where
  inv : Inv X pins σ H sI
  nb : ∀ b o, sI.heap.get? b = some o → b ∉ frs X.stack → B.get? b = some o
  up : sI.heap.UpToSlots s.heap
  fl : HandSPX.FlyingZ B (X.env :: X.outer) a (Zc cls d) s.heap
  na : H a = none
  os : s.os = sI.os
  ag : AllBare s.gens
section
variable {X : Cx} {pins : List (Addr × Obj)} {σ : L2.St} {H : Hp} {a : Addr} {cls : Value} {d : Option Addr} {B : Heap} {sI s : Shared}
theorem Seen.here (z : Seen X pins σ H a cls d B sI s) : Inv X pins σ H s := z.inv.landed z.nb z.fl.1 z.up z.os z.ag
theorem Seen.more (z : Seen X pins σ H a cls d B sI s) {h : Heap} (fl : HandSPX.FlyingZ B (X.env :: X.outer) a (Zc cls d) h) (u : s.heap.UpToSlots h) : Seen X pins σ H a cls d B sI { s with heap := h } :=
  ⟨z.inv, z.nb, z.up.trans u, fl, z.na, z.os, z.ag⟩
theorem Seen.keeps (z : Seen X pins σ H a cls d B sI s) {h : Heap} (k : ∀ b o, s.heap.get? b = some o → h.get? b = some o) : Seen X pins σ H a cls d B sI { s with heap := h } := by
  refine z.more ?_ (Heap.UpToSlots.of_keeps k)
  obtain ⟨f1, f2, f3, oe, vs, T, oT, ts, g1, g2, g3, g4, g5, g6, g7, g8⟩ := z.fl
  exact ⟨fun b o e => k b o (f1 b o e), f2, Heap.FunFrames.of_keeps (fun b o e _ => ⟨o, k b o e, rfl⟩) f3, oe, vs, T, oT, ts, k _ _ g1, g2, g3, g4, g5, g6, k _ _ g7, g8⟩
theorem Seen.suite (hf : X.env.frame = some X.env.locals) (z : Seen X pins σ H a cls d B sI s) : ∃ oe, s.heap.get? a = some oe ∧ Zc cls d oe ∧ (∃ vs, oe.data = .fields vs) ∧ Inv (X.suite a ((a, oe) :: (X.pn ++ pins))) [] σ H s := by
  obtain ⟨oe, vs, h1, h2, h3⟩ := z.fl.there
  have nfr : a ∉ frs (X.env :: X.outer) := fun hm => by
    obtain ⟨_, o', e', hnf⟩ := z.fl.2.2.1.mem hm
    rw [h1] at e'
    cases e'
    exact hnf _ h3
  refine ⟨oe, h1, h2, ⟨vs, h3⟩, z.here.suite h1 h3 z.na (fun q => nfr (List.mem_filterMap.mpr ⟨X.env, List.mem_cons_self, by rw [hf, q]⟩)) fun hm => ?_⟩
  obtain ⟨e, he, q⟩ := List.mem_filterMap.mp hm
  exact nfr (List.mem_filterMap.mpr ⟨e, List.mem_cons_of_mem _ he, q⟩)
theorem Seen.ty (z : Seen X pins σ H a cls d B sI s) : PySem.W.Looks (model X.prog X.w) s.heap (typeOf (.ref a)) cls := by
  obtain ⟨oe, vs, h1, h2, h3⟩ := z.fl.there
  exact fun A Q E s k q => wpAny_typeOf_ref (k _ _ h1) (by rw [h2.1]; exact q)
/-- a class that is named in a clause -/
theorem name_in {x : Str} {c : Value} {np : Pos} {A' : Addr} {l : List (Addr × Obj)} {Q : Value → Shared → Prop} {E : Value → Shared → Prop} (hc : Names X x c) (I : Inv (X.suite A' l) [] σ H s) (q : Q c s) :
    wpAny (model X.prog X.w) (X.A.mark (some (.ref A'))) (eval (.Name x np) X.env) Q E s := by
  obtain ⟨hg, hb, hm | ⟨hm, hv, hn⟩⟩ := hc
  · exact ld_glob (X := X.suite A' l) I hg hm q hb
  · exact ld_blt (X := X.suite A' l) I hg hm hv q hn hb
theorem exm_one_of {K : PySem.W.Frag} {c : Value} {b : Bool} (h : PySem.W.exmAny K cls [c] = some b) : PySem.W.exmOne K cls c = some b := by
  obtain ⟨b1, d1, h1, h2, rfl⟩ := PySem.W.exmAny_cons h
  cases h2
  rw [h1, Bool.or_false]
end
section
variable {X : Cx} {body : List Stmt} {h0 : ExceptHandler} {hds : List ExceptHandler} {l : List Cla} {pos : Pos} {tb : WX → TS} {Wout : WX}
theorem clauses {pins : List (Addr × Obj)} {σ : L2.St} {H : Hp} {a : Addr} {cls : Value} {d : Option Addr} {B : Heap} {sI : Shared} {D : Ends} (ok : X.Ok) (hs : X.stack = X.env :: X.outer) (hf : X.env.frame = some X.env.locals) (tk : Takes X Wout) :
    ∀ {hds : List ExceptHandler} {l : List Cla}, ClOk X hds l → ∀ s : Shared, Seen X pins σ H a cls d B sI s → wCl X.K Wout D l cls d σ H → wpAny (model X.prog X.w) X.A (handleBy (.ref a) X.env hds) (SP X pins D) X.xe s := by
  intro hds l hk
  induction hk with
  | nil =>
    intro s z w
    refine wpAny_handleBy_nil ?_
    obtain ⟨_, _, _, oe, vs, T, oT, ts, g1, g2, g3, g4, g5⟩ := id z.fl
    unfold PySem.passOn
    refine wpAny_bind (wpAny_field g1 g3 g4 ?_)
    rw [if_neg (show ¬ ((Value.ref T == Value.none) = true) from by simp)]
    have go : wpAny (model X.prog X.w) X.A (setFlight (.ref a) X.env.frame) (fun _ t => wpAny (model X.prog X.w) X.A (throw (.ref a) : Sem Flow) (SP X pins D) X.xe t) X.xe s := by
      rw [hf]
      refine HandSPX.setFlight_upZ z.fl fun h hh u => wpAny_throw (tk _ _ ⟨a, B, sI, pins, σ, H, cls, d, rfl, z.inv, z.nb, z.up.trans u, .inr (.inr ?_), z.na, z.os, z.ag, w⟩)
      rw [hs]
      exact hh
    first
      | exact wpAny_bind (wpAny_pure (wpAny_bind go))
      | exact wpAny_bind go
  | one hc hsu r ih =>
    intro s z w
    obtain ⟨b, w1, w2, w3⟩ := w
    obtain ⟨oe, g1, g2, g3, S⟩ := z.suite hf
    refine wpAny_handleBy_cons (codeAny_handlers_test ?_) (by intro q; cases q)
    refine name_in hc S ((PySem.W.exm_one (M := model X.prog X.w) z.here.kIn z.ty (exm_one_of w1)).here ?_)
    cases b with
    | false => exact ih s z (w3 rfl)
    | true =>
      refine codeAny_handlers_suite (HandSPX.lands_againZ z.fl fun h f u => ?_)
      have z2 := z.more f u
      obtain ⟨oe2, k1, k2, k3, S2⟩ := z2.suite hf
      refine wpAny_mono ((hsu a oe2 cls d (X.pn ++ pins) k2 k3).run [] _ _ H _ S2 (w2 rfl a z.na)) (fun f t q => ?_) (fun _ _ z => False.elim z)
      cases f with
      | ret v =>
        obtain ⟨v', σ', H', S', rv, q'⟩ := q
        exact ⟨_, _, _, S'.unsuite ok, rv, q'⟩
      | next | brk | cont =>
        obtain ⟨σ', H', S', q'⟩ := q
        exact ⟨_, _, S'.unsuite ok, q'⟩
  | two hc he hsu r ih =>
    intro s z w
    obtain ⟨b, w1, w2, w3⟩ := w
    obtain ⟨oe, g1, g2, g3, S⟩ := z.suite hf
    refine wpAny_handleBy_cons (codeAny_handlers_test ?_) (by intro q; cases q)
    refine wpAny_Tuple (wpAny_items_cons (name_in hc S (wpAny_items_cons (name_in he S (wpAny_items_nil ⟨by size_fits, ?_⟩)))))
    rename_i c1 c2 _ _ _ _ _ _ _ _ _ _
    have kp : ∀ q o, s.heap.get? q = some o → (s.heap.push { cls := .type "tuple", data := .seq [c1, c2].toArray }).get? q = some o := fun _ _ e => Heap.get?_push_of_some _ e
    have zt := z.keeps kp
    refine (PySem.W.exm_tup2 (M := model X.prog X.w) zt.here.kIn zt.ty (Heap.get?_push_size s.heap rfl) w1).here ?_
    cases b with
    | false => exact ih _ zt (w3 rfl)
    | true =>
      refine codeAny_handlers_suite (HandSPX.lands_againZ zt.fl fun h f u => ?_)
      have z2 := zt.more f u
      obtain ⟨oe2, k1, k2, k3, S2⟩ := z2.suite hf
      refine wpAny_mono ((hsu a oe2 cls d (X.pn ++ pins) k2 k3).run [] _ _ H _ S2 (w2 rfl a z.na)) (fun f t q => ?_) (fun _ _ z => False.elim z)
      cases f with
      | ret v =>
        obtain ⟨v', σ', H', S', rv, q'⟩ := q
        exact ⟨_, _, _, S'.unsuite ok, rv, q'⟩
      | next | brk | cont =>
        obtain ⟨σ', H', S', q'⟩ := q
        exact ⟨_, _, S'.unsuite ok, q'⟩
  | @as x n c i ts b0 su np qp hs2 l2 hN hi hln hc hsu r ih =>
    intro s z w
    obtain ⟨b, w1, w2, w3⟩ := w
    obtain ⟨oe, g1, g2, g3, S⟩ := z.suite hf
    refine wpAny_handleBy_cons (codeAny_handlers_test ?_) (by intro q; cases q)
    refine name_in hc S ((PySem.W.exm_one (M := model X.prog X.w) z.here.kIn z.ty (exm_one_of w1)).here ?_)
    cases b with
    | false => exact ih s z (w3 rfl)
    | true =>
      refine codeAny_handlers_suite_as (HandSPX.lands_againZ z.fl fun h f u => ?_)
      have z2 := z.more f u
      obtain ⟨oe2, k1, k2, k3, S2⟩ := z2.suite hf
      refine store_ok (X := X.suite a ((a, oe2) :: (X.pn ++ pins))) (v := .ref a) S2 hN hi (.inl hln) rfl (fun t St => ?_) (.inr hln)
      refine wpAny_mono ((hsu a oe2 cls d (X.pn ++ pins) k2 k3).run [] t _ H _ St (w2 rfl a z.na)) (fun f t2 q => ?_) (fun _ _ z => False.elim z)
      have leave : ∀ {σ' : L2.St} {H' : Hp} {Q : Shared → Prop}, Inv (X.suite a ((a, oe2) :: (X.pn ++ pins))) [] σ' H' t2 → (∀ t3, Inv X pins (σ'.set i none) H' t3 → Q t3) → _ := fun {σ' H' Q} S' hq => gone_ok (M := model X.prog X.w) (A := X.A) (E := X.xe) (pos := qp) (Q := fun _ t3 => Q t3) (S'.unsuite ok) hN hi hln hq
      cases f with
      | ret v =>
        obtain ⟨v', σ', H', S', rv, q'⟩ := q
        exact leave S' fun t3 J => ⟨_, _, _, J, rv, q'⟩
      | next | brk | cont =>
        obtain ⟨σ', H', S', q'⟩ := q
        exact leave S' fun t3 J => ⟨_, _, J, q'⟩
theorem ps_tryG (hs : X.stack = X.env :: X.outer) (hf : X.env.frame = some X.env.locals) (tk : Takes X Wout)
    (hb : ∀ (W : WX) (pn : List (Addr × Obj)) (xe : Value → Shared → Prop), Takes (X.tr pn xe) W → PassesOwn (model X.prog X.w) X.A X.env xe → PSs (X.tr pn xe) body (tb W)) (hh : ClOk X (h0 :: hds) l) :
    PS X (.Try body (h0 :: hds) [] [] pos) (fun D σ H => tb (wCl X.K Wout D l) D σ H) := by
  refine ⟨fun pins s σ H D I h => ?_⟩
  have ok := I.ok
  refine wpAny_Try_except ?_
  refine wpAny_mono ((hb (wCl X.K Wout D l) (X.pn ++ pins) (fun e s1 => wpAny (model X.prog X.w) X.A (noteFrame e X.env) (fun _ s2 => wpAny (model X.prog X.w) X.A (setFlight e none) (fun _ s3 => wpAny (model X.prog X.w) X.A (handleBy e X.env (h0 :: hds)) (SP X pins D) X.xe s3) X.xe s2) X.xe s1)
    (fun u t xx => ?_) PassesOwn.looking).run [] s σ H D (I.toTry _) h) (fun f t q => ?_) (fun e t he => he)
  · obtain ⟨a, B, sI, pins', σ', H', cls, d, rfl, J', nb, up, sky, na, os, ag, w⟩ := xx
    have sky2 : Sky B (X.env :: X.outer) a (Zc cls d) X.env.locals t.heap := by
      rw [← hs]
      exact sky
    show wpAny (model X.prog X.w) X.A (noteFrame (.ref a) X.env) _ _ _
    exact Sky.land Zc.steady (by rw [ok.frames, hs]) hf sky2 fun h3 fl3 up3 => clauses ok hs hf tk hh _ ⟨J'.ofTry ok, nb, up.trans up3, fl3, na, os, ag⟩ w
  · cases f with
    | next =>
      obtain ⟨σ', H', J', q'⟩ := q
      exact wpAny_execs_nil ⟨σ', H', J'.ofTry ok, q'⟩
    | brk | cont =>
      obtain ⟨σ', H', J', q'⟩ := q
      exact ⟨σ', H', J'.ofTry ok, q'⟩
    | ret u =>
      obtain ⟨v, σ', H', J', rv, q'⟩ := q
      exact ⟨v, σ', H', J'.ofTry ok, rv, q'⟩
end
end SB

namespace SB
open PySem PySem.Spec PyProof.Rows L2 Res
/-! ## calls in a try -/
def tMetS (C : Addr) (m : Str) (sp : Sp) (E : L2.St → XK) (ta : TE) (t : TA) : TE := fun σ H Q => ta σ H fun x H1 => MetV C m x H1 (t σ H1 fun vs H2 => sp (x :: vs) H2 Q (E σ))
section
variable {X : Cx} {CX : CXT} {k : Nat} {f C : Addr} {fd : FuncData} {ps : List Str} {sp : Sp} {E : L2.St → XK} {m : Str} {pos apos : Pos} {e o : Expr} {es : List Expr} {ta : TE} {t : TA}
theorem pe_metS {pl : Sem Bool} (he : PE X o ta) (c : Cls X.K C) (hm : Meth X.K C m f) (F : FnOk X.prog X.w X.K X.mg X.base CX k f fd ps sp) (hr : Room k X.A) (hb : Binds X.K fd ps []) (hx : ∀ σ, PassesAt CX X σ (E σ)) (ha : PA X (e :: es) t)
    (hst : starEach (e :: es) X.env = (false, eval e X.env) :: starEach es X.env := by rfl) (hpl : (backTo pos (starEach es X.env)).any (·.1) = false := by rfl)
    (ht : eval (.Call (.Attribute o m apos) (e :: es) [] pos) X.env = (do
      let ov ← eval o X.env; standAt apos.atName; let (f, first) ← holding [ov] (getMethod ov m pl); callWith pos f first (backTo pos (starEach (e :: es) X.env)) (backToKw pos (keywordEach [] X.env))) := by rfl) :
    PE X (.Call (.Attribute o m apos) (e :: es) [] pos) (tMetS C m sp E ta t) := by
  refine ⟨fun pins s σ H Q I h => ?_⟩
  refine PySem.W.methodCall_KW (pl := pl) (thn (he.run pins s σ H _ I h) fun u s1 ⟨x, H1, I1, rx, a, dx, fs, hx1, ea, l, q⟩ => ?_) ht
  subst hx1
  obtain rfl : u = Value.ref a := rx
  refine getmeth_ok I1 ea c hm l (PySem.W.callWith_K (first := [.ref a]) (h₀ := X.base) I.ok.mod.kin hm.kp (thn (ha.run pos pins s1 σ H1 _ I1 q) fun us s2 ⟨vs, H2, I2, r, q2⟩ => ⟨I2.kIn, ?_⟩) hst hpl)
  exact run_fnS (us := .ref a :: us) (vs := .ref a :: vs) F hr hb (hx σ) I2 (.cons rfl r) q2
theorem pe_metS0 {pl : Sem Bool} (he : PE X o ta) (c : Cls X.K C) (hm : Meth X.K C m f) (F : FnOk X.prog X.w X.K X.mg X.base CX k f fd ps sp) (hr : Room k X.A) (hb : Binds X.K fd ps []) (hx : ∀ σ, PassesAt CX X σ (E σ))
    (ht : eval (.Call (.Attribute o m apos) [] [] pos) X.env = (do
      let ov ← eval o X.env; standAt apos.atName; let (f, first) ← holding [ov] (getMethod ov m pl); callWith pos f first (backTo pos (starEach [] X.env)) (backToKw pos (keywordEach [] X.env))) := by rfl) :
    PE X (.Call (.Attribute o m apos) [] [] pos) (tMetS C m sp E ta tNil) := by
  refine ⟨fun pins s σ H Q I h => ?_⟩
  refine PySem.W.methodCall_KW (pl := pl) (thn (he.run pins s σ H _ I h) fun u s1 ⟨x, H1, I1, rx, a, dx, fs, hx1, ea, l, q⟩ => ?_) ht
  subst hx1
  obtain rfl : u = Value.ref a := rx
  refine getmeth_ok I1 ea c hm l (PySem.W.callWith_K0 (first := [.ref a]) I1.kIn hm.kp ?_)
  exact run_fnS (us := [.ref a]) (vs := [.ref a]) F hr hb (hx σ) I1 (.cons rfl .nil) q
theorem c_metS {σ : L2.St} {H : Hp} {Q : VK} (h : ta σ H fun x H1 => MetV C m x H1 (t σ H1 fun vs H2 => sp (x :: vs) H2 Q (E σ))) : tMetS C m sp E ta t σ H Q := h
theorem c_callS {σ : L2.St} {H : Hp} {Q : VK} (h : t σ H fun vs H1 => sp vs H1 Q (E σ)) : tCallS sp E t σ H Q := h
/-- C.m(self, ..) where C is a class and m a def of it -/
def tCC (C : Addr) (sp : Sp) (E : XK) (ta : TE) (t : TA) : TE := fun σ H Q => ta σ H fun x H1 => x = .ref C ∧ t σ H1 fun vs H2 => sp vs H2 Q E
theorem pe_cc {pl : Sem Bool} {mc : Value} {E : XK} (he : PE X o ta) (r : ClX.CRead X.K C mc) (ha1 : PySem.W.findCls X.K (.ref C) mc m = some (.val (.ref f))) (kp : PySem.W.keepIn X.K (.ref f) = true) (F : FnOk X.prog X.w X.K X.mg X.base CX k f fd ps sp) (hr : Room k X.A) (hb : Binds X.K fd ps []) (hx : Passes CX X E) (ha : PA X (e :: es) t)
    (hst : starEach (e :: es) X.env = (false, eval e X.env) :: starEach es X.env := by rfl) (hpl : (backTo pos (starEach es X.env)).any (·.1) = false := by rfl)
    (ht : eval (.Call (.Attribute o m apos) (e :: es) [] pos) X.env = (do
      let ov ← eval o X.env; standAt apos.atName; let (f, first) ← holding [ov] (getMethod ov m pl); callWith pos f first (backTo pos (starEach (e :: es) X.env)) (backToKw pos (keywordEach [] X.env))) := by rfl) :
    PE X (.Call (.Attribute o m apos) (e :: es) [] pos) (tCC C sp E ta t) := by
  refine ⟨fun pins s σ H Q I h => ?_⟩
  refine PySem.W.methodCall_KW (pl := pl) (thn (he.run pins s σ H _ I h) fun u s1 ⟨x, H1, I1, rx, hx1, q⟩ => ?_) ht
  subst hx1
  obtain rfl : u = Value.ref C := rx
  refine PySem.W.method_cls I1.kIn r.ga (ClX.getcval_ok (v := .ref f) I1 r ⟨ha1, rfl⟩ fun s2 I2 => ?_)
  refine PySem.W.callWith_K (first := []) (h₀ := X.base) I.ok.mod.kin kp (thn (ha.run pos pins s2 σ H1 _ I2 q) fun us s3 ⟨vs, H2, I3, rv, q2⟩ => ⟨I3.kIn, ?_⟩) hst hpl
  refine run_fn (us := us) (vs := vs) (dvs := []) F hr hb .nil hx I3 rv ?_
  rw [List.append_nil]
  exact q2
end
/-! ## try -/
def tTry (K : PySem.W.Frag) (Wout : WX) (tb : WX → TS) (l : List Cla) : TS := fun D σ H => tb (wCl K Wout D l) D σ H
def tryM {ωb ω σT : Type} (mb : Res ωb σT) (mh : Exn → ωb → Res ω σT) : Res ω σT := match mb with
  | .ok s => .ok s
  | .ex e w => mh e w
  | .bad => .bad
section
variable {ωb ω γ σT : Type} {A H : Hp} {Qr : γ → Prop} {Er : Exn → ω → Prop} {T : Cs} {K : PySem.W.Frag} {Wout : WX} {tb : WX → TS} {l : List Cla} {u : TS} {D : Ends} {σ : L2.St} {mb : Res ωb σT} {mh : Exn → ωb → Res ω σT} {f : σT → Res ω γ}
abbrev TryB (T : Cs) (A : Hp) (H : Hp) (σ : L2.St) (D : Ends) (tb : WX → TS) (mb : Res ωb σT) (Rel : Hp → L2.St → List Hp → σT → Prop) (RelX : Hp → L2.St → List Hp → ωb → Prop) : Prop :=
  ∀ (C : σT → Prop) (CE : Exn → ωb → Prop) (W : WX) (N : L2.St → Hp → Prop), (∀ A' H' σ' R' s, Same A A' → St H' (A' :: R') → Rel A' σ' R' s → C s → N σ' H') →
    (∀ A' B' H' σ' R' w e cls d, Same A A' → Same A' B' → St H' (B' :: R') → RelX A' σ' R' w → XA T e cls d A' B' → CE e w → W cls d σ' H') → mb.wp C CE → tb W { D with nx := N } σ H
abbrev TryH (T : Cs) (A : Hp) (K : PySem.W.Frag) (Wout : WX) (D : Ends) (l : List Cla) (mh : Exn → ωb → Res ω σT) (Er : Exn → ω → Prop) (Rel : Hp → L2.St → List Hp → σT → Prop) (RelX : Hp → L2.St → List Hp → ωb → Prop) : Prop :=
  ∀ (C : σT → Prop) (N : L2.St → Hp → Prop), (∀ A' H' σ' R' s, Same A A' → St H' (A' :: R') → Rel A' σ' R' s → C s → N σ' H') →
    ∀ A' B' H' σ' R' w e cls d, Same A A' → Same A' B' → St H' (B' :: R') → RelX A' σ' R' w → XA T e cls d A' B' → (mh e w).wp C Er → wCl K Wout { D with nx := N } l cls d σ' H'
theorem try_go (Rel : Hp → L2.St → List Hp → σT → Prop) (RelX : Hp → L2.St → List Hp → ωb → Prop) {P : σT → Prop} {N : L2.St → Hp → Prop} (hm : (tryM mb mh).wp P Er) (h1 : TryB T A H σ D tb mb Rel RelX) (h2 : TryH T A K Wout D l mh Er Rel RelX)
    (h3 : ∀ A' H' σ' R' s, Same A A' → St H' (A' :: R') → Rel A' σ' R' s → P s → N σ' H') : tTry K Wout tb l { D with nx := N } σ H := by
  refine h1 P (fun e w => (mh e w).wp P Er) _ N h3 (fun A' B' H' σ' R' w e cls d g g' S r x c => h2 P N h3 A' B' H' σ' R' w e cls d g g' S r x c) ?_
  cases mb <;> exact hm
theorem q_try (Rel : Hp → L2.St → List Hp → σT → Prop) (RelX : Hp → L2.St → List Hp → ωb → Prop) (hm : (bind (tryM mb mh) f).wp Qr Er) (h1 : TryB T A H σ D tb mb Rel RelX) (h2 : TryH T A K Wout D l mh Er Rel RelX)
    (h3 : ∀ A' H' σ' R' s, Same A A' → St H' (A' :: R') → Rel A' σ' R' s → (f s).wp Qr Er → u D σ' H') : Evl.tCut (tTry K Wout tb l) u D σ H :=
  ⟨fun σ' H' => ∃ A' R' s, Same A A' ∧ St H' (A' :: R') ∧ Rel A' σ' R' s ∧ (f s).wp Qr Er, try_go Rel RelX (P := fun s => (f s).wp Qr Er) (wp_bind hm) h1 h2 fun A' H' σ' R' s e S r w => ⟨A', R', s, e, S, r, w⟩, fun σ' H' ⟨A', R', s, e, S, r, w⟩ => h3 A' H' σ' R' s e S r w⟩
theorem s_try {N : L2.St → Hp → Prop} {b : VK} {c d : L2.St → Hp → Prop} (Rel : Hp → L2.St → List Hp → σT → Prop) (RelX : Hp → L2.St → List Hp → ωb → Prop) (hm : (bind (tryM mb mh) f).wp Qr Er) (h1 : TryB T A H σ (Ends.mk N b c d) tb mb Rel RelX) (h2 : TryH T A K Wout (Ends.mk N b c d) l mh Er Rel RelX)
    (h3 : ∀ A' H' σ' R' s, Same A A' → St H' (A' :: R') → Rel A' σ' R' s → (f s).wp Qr Er → N σ' H') : tTry K Wout tb l (Ends.mk N b c d) σ H :=
  try_go (D := Ends.mk N b c d) Rel RelX (P := fun s => (f s).wp Qr Er) (wp_bind hm) h1 h2 h3
end
/-! ## which clause takes an exception -/
section
variable {K : PySem.W.Frag} {Wout : WX} {D : Ends} {c : Cla} {r : List Cla} {cls : Value} {d : Option Addr} {σ : L2.St} {H : Hp} {c1 c2 : Value} {b1 b2 : Bool}
theorem cl_yes (he : PySem.W.exmAny K cls c.cs = some true) (h : ∀ a, H a = none → c.ts a cls d (endAs c.slot D) (inAs c.slot a σ) H) : wCl K Wout D (c :: r) cls d σ H := ⟨true, he, fun _ => h, fun z => nomatch z⟩
theorem cl_no (he : PySem.W.exmAny K cls c.cs = some false) (h : wCl K Wout D r cls d σ H) : wCl K Wout D (c :: r) cls d σ H := ⟨false, he, fun z => (nomatch z), fun _ => h⟩
theorem ex_1 (h : PySem.W.exmOne K cls c1 = some b1) : PySem.W.exmAny K cls [c1] = some b1 := by
  unfold PySem.W.exmAny PySem.W.exmAny
  rw [h]
  show some (b1 || false) = _
  rw [Bool.or_false]
theorem ex_2 (h : PySem.W.exmOne K cls c1 = some b1) (h2 : PySem.W.exmOne K cls c2 = some b2) : PySem.W.exmAny K cls [c1, c2] = some (b1 || b2) := by
  unfold PySem.W.exmAny
  rw [h, ex_1 h2]
end
/-! ## targets -/
section
variable {K : PySem.W.Frag} {σ : L2.St} {H : Hp} {a : Addr} {xs : List V} {n i : Nat} {t : TGs} {Q : L2.St → Hp → Prop} {x v : V} {g : TG} {te : TE} {tz : TS} {D : Ends}
theorem q_asgG (h : te σ H fun v H' => g v σ H' fun σ' H'' => tz D σ' H'') : tSeq (tAsg te g) tz D σ H := h
theorem s_asgG (h : te σ H fun v H' => g v σ H' fun σ' H'' => D.nx σ' H'') : tAsg te g D σ H := h
theorem g_tup (hv : H a = some (.tup xs)) (hl : xs.length = n) (h : t xs σ H Q) : gTup K n t (.ref a) σ H Q := ⟨a, xs, rfl, SqT.of hv, hl, h⟩
theorem g_cons (h : g x σ H fun σ' H' => t xs σ' H' Q) : gCons g t (x :: xs) σ H Q := ⟨x, xs, rfl, h⟩
theorem g_nil (h : Q σ H) : gNil [] σ H Q := ⟨rfl, h⟩
theorem g_name (h : Q (σ.set i (some v)) H) : gName i v σ H Q := h
end
end SB
namespace SB
open PySem PySem.Spec PyProof.Rows L2 Res
/-! ## a list or None, owned -/
def emp : Hp := fun _ => none
def OptAt {α : Type} [Rep α] (A m : Hp) (v : V) (x : Option (List α)) : Prop := match x with
  | none => v = .non ∧ m = emp
  | some l => ∃ p ws, v = .ref p ∧ m = one p (.lst ws) ∧ OL A ws l
instance instObOpt {α : Type} [Rep α] : Ob (Option (List α)) := ⟨fun _ A m v x => OptAt A m v x, fun {T A B m v x} e h => match x, h with
  | none, h => h
  | some _, ⟨p, ws, h1, h2, h3⟩ => ⟨p, ws, h1, h2, h3.up e⟩⟩
theorem St.emp {H : Hp} {m : Hp} {R : List Hp} (S : St H (m :: R)) : St H (m :: emp :: R) :=
  ⟨S.1, fun n hn => by
    cases hn with
    | head => exact fun a o u _ e => nomatch e
    | tail _ hn => exact S.2.1 n hn, fun a o e => (nomatch e), fun n _ a o u e _ => (nomatch e), S.2.2⟩
section
variable {ω α γ : Type} [Rep α] {T : Cs} {A H m : Hp} {R : List Hp} {v : V} {x : Option (List α)} {Q : VK} {P : Prop} {Qr : γ → Prop} {Er : Exn → ω → Prop}
theorem oo_none : Ob.isAt T A emp .non (none : Option (List α)) := ⟨rfl, rfl⟩
theorem oo_some {p : Addr} {ws : List V} {l : List α} (h : OL A ws l) : Ob.isAt T A (one p (.lst ws)) (.ref p) (some l) := ⟨p, ws, rfl, rfl, h⟩
theorem oo_dec (h : Ob.isAt T A m v x) : decide (v = .non) = x.isNone := by
  cases x with
  | none => exact decide_eq_true h.1
  | some l =>
    obtain ⟨p, ws, rfl, _⟩ := h
    rfl
theorem c_isNo (h : Ob.isAt T A m v x) (k : Q (.bl x.isNone) H) : L2.rIsN v .non H Q := by
  refine ⟨rfl, ?_⟩
  rw [oo_dec h]
  exact k
theorem c_notNo (h : Ob.isAt T A m v x) (k : Q (.bl (!x.isNone)) H) : L2.rNotN v .non H Q := by
  refine ⟨rfl, ?_⟩
  rw [oo_dec h]
  exact k
theorem oo_get {f : List α → Res ω γ} (h : Ob.isAt T A m v x) (hm : (bind (getR x) f).wp Qr Er) (k : ∀ p ws l, v = .ref p → m = one p (.lst ws) → OL A ws l → (f l).wp Qr Er → P) : P := by
  unfold getR at hm
  cases x with
  | none => exact hm.elim
  | some l =>
    obtain ⟨p, ws, h1, h2, h3⟩ := h
    exact k p ws l h1 h2 h3 hm
theorem un_opt {β : Type} [Rep β] {x : Option β} {f : β → Res ω γ} (h : Is A v x) (hm : (bind (getR x) f).wp Qr Er) (k : ∀ y, Is A v y → (f y).wp Qr Er → P) : P := by
  unfold getR at hm
  cases x with
  | none => exact hm.elim
  | some y => exact k y h.2 hm
theorem opt_int {n : Int} : Is A (.int n) (some n : Option Int) := ⟨fun z => (nomatch z), rfl⟩
theorem opt_any {β : Type} [Rep β] {y : β} {p : Addr} (h : Is A (.ref p) y) : Is A (.ref p) (some y) := ⟨fun z => (nomatch z), h⟩
end
/-! ## exceptions with a field -/
structure XoC (K : PySem.W.Frag) (C : Addr) (f : Str) : Prop where
  o : OexC K C
  no : PySem.W.findIn K (.ref C) f = some none
  xf : XfC K C
def sp_xi (K : PySem.W.Frag) (C : Addr) (f : Str) : Sp := fun vs H Q _ => ∃ (a : Addr) (y : V), vs = [.ref a, y] ∧ OexC K C ∧ PySem.W.findIn K (.ref C) f = some none ∧ H a = some (exo a C none) ∧ ∀ dx, H dx = none → dx ≠ a → Q .non (upd (upd H dx (exd dx [(f, y)])) a (exo a C (some dx)))
structure XiC (P : Program) (w : World) (K : PySem.W.Frag) (mg : Str → Option Value) (base : Heap) (C : Addr) (f : Str) (fI : Addr) (fd : FuncData) : Prop where
  ini : PySem.W.findIn K (.ref C) "__init__" = some (some (.ref fI))
  ty : PySem.W.typeIn K (.ref fI) = some (.type "function")
  ok : FnOk P w K mg base CX0 1 fI fd ["self", f] (sp_xi K C f)
  b : Binds K fd ["self", f] []
def rd_xi (K : PySem.W.Frag) (f : Str) : TS := tOst K f (tVar 0) (tVar 1)
theorem wk_xi {K : PySem.W.Frag} {C : Addr} {f p : Str} {vs : List V} {H : Hp} {Q : VK} {E : XK} (h : sp_xi K C f vs H Q E) : rd_xi K f { nx := fun _ H' => Q .non H', rt := Q } (L2.start ["self", p] vs) H := by
  obtain ⟨a, y, rfl, h1, h2, h3, h4⟩ := h
  exact ⟨y, rfl, .ref a, rfl, a, C, rfl, h1, h2, .inl ⟨h3, fun dx hd hn => h4 dx hd hn⟩⟩
def tRaiseP (K : PySem.W.Frag) (E : XK) (C : Addr) (f : Str) (te : TE) : TS := fun _ σ H => tMkO C (sp_xi K C f) [] (tCons te tNil) σ H fun cls d H' => E cls d H'
theorem s_raiseP {K : PySem.W.Frag} {E : XK} {C : Addr} {f : Str} {te : TE} {D : Ends} {σ : L2.St} {H : Hp} (o : OexC K C) (no : PySem.W.findIn K (.ref C) f = some none) (h : te σ H fun y H1 => ∀ d, H1 d = none → E (.ref C) (some d) (upd H1 d (.xd [(f, y)]))) (mono : ∀ (Q Q' : VK), (∀ y H1, Q y H1 → Q' y H1) → te σ H Q → te σ H Q') : tRaiseP K E C f te D σ H := by
  refine mono _ _ (fun y H1 h => ?_) h
  refine ⟨Nat.le_of_ble_eq_true rfl, fun a ha => ⟨a, y, rfl, o, no, upd_same, fun dx hd hn => ⟨rfl, dx, [(f, y)], upd_same, ?_, ?_, ?_⟩⟩⟩
  · rw [upd_ne hn, upd_same]
  · rw [upd_ne hn] at hd
    exact hd
  · rw [upd_ne hn] at hd
    have e : upd (del (upd (upd (upd H1 a (exo a C none)) dx (exd dx [(f, y)])) a (exo a C (some dx))) a) dx (.xd [(f, y)]) = upd H1 dx (.xd [(f, y)]) := by
      funext b
      by_cases hb : b = dx
      · rw [hb, upd_same, upd_same]
      · rw [upd_ne hb, upd_ne hb]
        by_cases hb2 : b = a
        · rw [hb2, del_same, ha]
        · rw [del_ne hb2, upd_ne hb2, upd_ne hb, upd_ne hb2]
    rw [e]
    exact h dx hd
theorem mono_var {σ : L2.St} {H : Hp} {i : Nat} (Q Q' : VK) (k : ∀ y H1, Q y H1 → Q' y H1) (h : tVar i σ H Q) : tVar i σ H Q' := by
  obtain ⟨v, h1, h2⟩ := h
  exact ⟨v, h1, k _ _ h2⟩
section
variable {T : Cs} {A0 A H : Hp} {R : List Hp} {p : Addr} {ws : List V} {l : List Int} {E : XK} {n : Int}
theorem x_ring (S : St H (A :: one p (.lst ws) :: R)) (h : OL A ws l) (k : ∀ B' H' d, Same A B' → St H' (B' :: R) → XA T (.ring l) (.ref T.ring) (some d) A B' → E (.ref T.ring) (some d) H') : ∀ d, H d = none → E (.ref T.ring) (some d) (upd H d (.xd [("ring", .ref p)])) := fun d hd => by
  have S1 := S.frz
  have hA : A p = none := by
    cases e : A p with
    | none => rfl
    | some o => exact (S.dj _ _ _ e one_same).elim
  have hjd : join A (one p (.lst ws)) d = none := S1.1.free hd
  have ne : p ≠ d := fun z => by
    subst z
    rw [same_join_r S.dj _ _ one_same] at hjd
    cases hjd
  refine k _ _ d (same_join_l.trans (same_upd hjd)) (S1.new hd) ⟨d, p, ws, rfl, rfl, upd_same, ?_, hA, ?_, OL.any h⟩
  · exact none_of_same same_join_l hjd
  · rw [upd_ne ne]
    exact same_join_r S.dj _ _ one_same
theorem x_many (S : St H (A :: R)) (k : ∀ B' H' d, Same A B' → St H' (B' :: R) → XA T (.many n) (.ref T.many) (some d) A B' → E (.ref T.many) (some d) H') : ∀ d, H d = none → E (.ref T.many) (some d) (upd H d (.xd [("many", .int n)])) := fun d hd =>
  k _ _ d (same_upd (S.1.free hd)) (S.new hd) ⟨d, rfl, rfl, upd_same, S.1.free hd⟩
theorem x_row (S : St H (A :: R)) (k : ∀ B' H' d, Same A B' → St H' (B' :: R) → XA T (.atRow n) (.ref T.row) (some d) A B' → E (.ref T.row) (some d) H') : ∀ d, H d = none → E (.ref T.row) (some d) (upd H d (.xd [("at", .int n)])) := fun d hd =>
  k _ _ d (same_upd (S.1.free hd)) (S.new hd) ⟨d, rfl, rfl, upd_same, S.1.free hd⟩
end
/-- by the kind of exception -/
def exM {ω α : Type} (e : Exn) (p : Nat → Res ω α) (r : List Int → Res ω α) (m a : Int → Res ω α) : Res ω α := match e with
  | .plain k => p k
  | .ring l => r l
  | .many n => m n
  | .atRow n => a n
section
variable {ω α : Type} {T : Cs} {A B : Hp} {cls : Value} {d : Option Addr} {e : Exn} {p : Nat → Res ω α} {r : List Int → Res ω α} {m a : Int → Res ω α} {C : α → Prop} {Er : Exn → ω → Prop} {G : Prop}
theorem exM_by (x : XA T e cls d A B) (h : (exM e p r m a).wp C Er) (h1 : ∀ k, cls = .ref (T.ex k) → d = none → (p k).wp C Er → G) (h2 : ∀ l dd q vs, cls = .ref T.ring → d = some dd → B dd = some (.xd [("ring", .ref q)]) → A q = none → B q = some (.lst vs) → OL B vs l → (r l).wp C Er → G)
    (h3 : ∀ n dd, cls = .ref T.many → d = some dd → B dd = some (.xd [("many", .int n)]) → (m n).wp C Er → G) (h4 : ∀ n dd, cls = .ref T.row → d = some dd → B dd = some (.xd [("at", .int n)]) → (a n).wp C Er → G) : G := by
  cases e with
  | plain k => exact h1 k x.1 x.2 h
  | ring l =>
    obtain ⟨dd, q, vs, x1, x2, x3, _, x6, x4, x5⟩ := x
    exact h2 l dd q vs x1 x2 x3 x6 x4 x5 h
  | many n =>
    obtain ⟨dd, x1, x2, x3, _⟩ := x
    exact h3 n dd x1 x2 x3 h
  | atRow n =>
    obtain ⟨dd, x1, x2, x3, _⟩ := x
    exact h4 n dd x1 x2 x3 h
theorem ring_own {H : Hp} {R : List Hp} {q dd : Addr} {vs : List V} (S : St H (B :: R)) (g : Same A B) (hd : B dd = some (.xd [("ring", .ref q)])) (ha : A q = none) (hq : B q = some (.lst vs)) :
    Same A (minus B (one q (.lst vs))) ∧ minus B (one q (.lst vs)) dd = some (.xd [("ring", .ref q)]) ∧ St H (minus B (one q (.lst vs)) :: one q (.lst vs) :: R) := by
  have n1 : ∀ b, b ≠ q → one q (.lst vs) b = none := fun b hb => by
    unfold one
    rw [if_neg hb]
  refine ⟨fun b o h => minus_of (g _ _ h) (n1 b fun z => ?_), minus_of hd (n1 dd fun z => ?_), S.back1 fun b o h => ?_⟩
  · rw [z, ha] at h
    cases h
  · rw [z, hq] at hd
    cases hd
  · obtain ⟨rfl, rfl⟩ := one_some h
    exact hq
theorem c_ifk {k j : Nat} {m1 m2 : Res ω α} (h : (if k = j then m1 else m2).wp C Er) (h1 : k = j → m1.wp C Er → G) (h2 : m2.wp C Er → G) : G := by
  by_cases e : k = j
  · rw [if_pos e] at h
    exact h1 e h
  · rw [if_neg e] at h
    exact h2 h
end
section
variable {K : PySem.W.Frag} {Wout : WX} {D : Ends} {cs : List Value} {ts : Addr → Value → Option Addr → TS} {r : List Cla} {cls : Value} {d : Option Addr} {σ : L2.St} {H : Hp} {i : Nat}
theorem cl_yes0 (he : PySem.W.exmAny K cls cs = some true) (h : ∀ a, H a = none → ts a cls d D σ H) : wCl K Wout D (⟨cs, none, ts⟩ :: r) cls d σ H := cl_yes he h
theorem cl_yesA (he : PySem.W.exmAny K cls cs = some true) (h : ∀ a, H a = none → ts a cls d (Ends.mk (fun σ' H' => D.nx (σ'.set i none) H') D.rt (fun σ' H' => D.bk (σ'.set i none) H') (fun σ' H' => D.ct (σ'.set i none) H')) (σ.set i (some (.ref a))) H) : wCl K Wout D (⟨cs, some i, ts⟩ :: r) cls d σ H := cl_yes he h
theorem c_xf {a C : Addr} {f : Str} {te : TE} {Q : VK} {dd : Addr} {v : V} (h : te σ H fun x H1 => x = .ref a ∧ H1 dd = some (.xd [(f, v)]) ∧ Q v H1) (mono : ∀ (Q Q' : VK), (∀ y H1, Q y H1 → Q' y H1) → te σ H Q → te σ H Q') : tXf a (.ref C) (some dd) C f te σ H Q :=
  mono _ _ (fun x H1 ⟨h1, h2, h3⟩ => ⟨h1, rfl, dd, _, v, rfl, h2, by simp [List.lookup], h3⟩) h
end
theorem ps_tryT {X : Cx} {body : List Stmt} {h0 : ExceptHandler} {hds : List ExceptHandler} {l : List Cla} {pos : Pos} {tb : WX → TS} {Wout : WX} (hs : X.stack = X.env :: X.outer) (hf : X.env.frame = some X.env.locals) (tk : Takes X Wout)
    (hb : ∀ (W : WX) (pn : List (Addr × Obj)) (xe : Value → Shared → Prop), Takes (X.tr pn xe) W → PassesOwn (model X.prog X.w) X.A X.env xe → PSs (X.tr pn xe) body (tb W)) (hh : ClOk X (h0 :: hds) l) : PS X (.Try body (h0 :: hds) [] [] pos) (tTry X.K Wout tb l) := ps_tryG hs hf tk hb hh
end SB

namespace SB
open PySem PySem.Spec PyProof.Rows L2 Res
/-! ## sorted pairs -/
def leP (x y : Int × Int) : Prop := x.1 < y.1 ∨ (x.1 = y.1 ∧ x.2 ≤ y.2)
instance (x y : Int × Int) : Decidable (leP x y) := inferInstanceAs (Decidable (_ ∨ _))
theorem leP_total {x y : Int × Int} (h : ¬ leP x y) : leP y x := by
  unfold leP at *
  omega
theorem leP_trans {x y z : Int × Int} (h : leP x y) (k : leP y z) : leP x z := by
  unfold leP at *
  omega
theorem leP_anti {x y : Int × Int} (h : leP x y) (k : leP y x) : x = y := by
  unfold leP at *
  exact Prod.ext (by omega) (by omega)
def insP (x : Int × Int) : List (Int × Int) → List (Int × Int)
  | [] => [x]
  | y :: ys => if leP x y then x :: y :: ys else y :: insP x ys
def sortP : List (Int × Int) → List (Int × Int)
  | [] => []
  | x :: xs => insP x (sortP xs)
theorem insP_perm (x : Int × Int) : ∀ ys : List (Int × Int), (insP x ys).Perm (x :: ys)
  | [] => List.Perm.refl _
  | y :: ys => by
    unfold insP
    split
    · exact List.Perm.refl _
    · exact ((insP_perm x ys).cons y).trans (List.Perm.swap _ _ _)
theorem sortP_perm : ∀ xs : List (Int × Int), (sortP xs).Perm xs
  | [] => List.Perm.refl _
  | x :: xs => (insP_perm x _).trans ((sortP_perm xs).cons x)
theorem insP_sorted (x : Int × Int) : ∀ ys : List (Int × Int), ys.Pairwise leP → (insP x ys).Pairwise leP
  | [], _ => List.pairwise_singleton _ _
  | y :: ys, h => by
    unfold insP
    have h' := List.pairwise_cons.mp h
    split
    · rename_i c
      refine List.pairwise_cons.mpr ⟨fun z hz => ?_, h⟩
      cases hz with
      | head => exact c
      | tail _ hz => exact leP_trans c (h'.1 z hz)
    · rename_i c
      refine List.pairwise_cons.mpr ⟨fun z hz => ?_, insP_sorted x ys h'.2⟩
      cases (insP_perm x ys).mem_iff.mp hz with
      | head => exact leP_total c
      | tail _ hz => exact h'.1 z hz
theorem sortP_sorted : ∀ xs : List (Int × Int), (sortP xs).Pairwise leP
  | [] => .nil
  | x :: xs => insP_sorted x _ (sortP_sorted xs)
theorem sortedP_eq : ∀ {xs ys : List (Int × Int)}, xs.Perm ys → xs.Pairwise leP → ys.Pairwise leP → xs = ys
  | [], ys, h, _, _ => (List.Perm.eq_nil h.symm).symm
  | x :: xs, [], h, _, _ => absurd h.length_eq (by simp)
  | x :: xs, y :: ys, h, h1, h2 => by
    have a1 := List.pairwise_cons.mp h1
    have a2 := List.pairwise_cons.mp h2
    have e : x = y := by
      have m1 : x ∈ y :: ys := h.mem_iff.mp List.mem_cons_self
      have m2 : y ∈ x :: xs := h.mem_iff.mpr List.mem_cons_self
      cases m1 with
      | head => rfl
      | tail _ m1 =>
        cases m2 with
        | head => rfl
        | tail _ m2 => exact leP_anti (a1.1 y m2) (a2.1 x m1)
    subst e
    rw [sortedP_eq h.cons_inv a1.2 a2.2]
def keyP (A : Hp) : V → Int × Int
  | .ref t => match A t with
    | some (.tup [.int i, .int j]) => (i, j)
    | _ => (0, 0)
  | _ => (0, 0)
theorem keyP_of {A : Hp} {v : V} {x : Int × Int} (h : Is A v x) : keyP A v = x ∧ ∃ t, v = .ref t ∧ A t = some (.tup [.int x.1, .int x.2]) := by
  obtain ⟨a, u, w, rfl, h2, h3, h4⟩ := h
  obtain rfl : u = .int x.1 := h3
  obtain rfl : w = .int x.2 := h4
  refine ⟨?_, a, rfl, h2⟩
  show (match A a with | some (.tup [.int i, .int j]) => (i, j) | _ => (0, 0)) = x
  rw [h2]
theorem all2_map {α : Type} {P : V → α → Prop} {g : V → α} : ∀ {us : List V} {ps : List α}, All2 P us ps → (∀ v x, P v x → g v = x) → us.map g = ps
  | [], [], _, _ => rfl
  | _ :: _, _ :: _, h, k => by rw [List.map_cons, k _ _ h.1, all2_map h.2 k]
  | [], _ :: _, h, _ => h.elim
  | _ :: _, [], h, _ => h.elim
theorem map_all2 {α : Type} {P : V → α → Prop} {g : V → α} : ∀ {us : List V}, (∀ v ∈ us, P v (g v)) → All2 P us (us.map g)
  | [], _ => trivial
  | v :: us, h => ⟨h v List.mem_cons_self, map_all2 fun w hw => h w (List.mem_cons_of_mem _ hw)⟩
theorem all2_mem {α : Type} {P : V → α → Prop} : ∀ {us : List V} {ps : List α}, All2 P us ps → ∀ v ∈ us, ∃ x ∈ ps, P v x
  | [], [], _, _, h => nomatch h
  | u :: us, p :: ps, h, v, hv => by
    cases hv with
    | head => exact ⟨p, List.mem_cons_self, h.1⟩
    | tail _ hv =>
      obtain ⟨x, hx, hp⟩ := all2_mem h.2 v hv
      exact ⟨x, List.mem_cons_of_mem _ hx, hp⟩
  | [], _ :: _, h, _, _ => h.elim
  | _ :: _, [], h, _, _ => h.elim
section
variable {ω γ : Type} {A H : Hp} {R : List Hp} {v : V} {ps : List (Int × Int)} {K : PySem.W.Frag} {Q : VK} {Qr : γ → Prop} {Er : Exn → ω → Prop}
theorem c_sortP {f : List (Int × Int) → Res ω γ} (S : St H (A :: R)) (h : LA A H v ps) (hm : (bind (.ok (sortP ps)) f).wp Qr Er) (k : ∀ zs, (f zs).wp Qr Er → RawL A H Q zs) : rSortedPO K [v] H Q := by
  obtain ⟨a, us, rfl, h1, h2, h3⟩ := h
  have hk : ∀ x ∈ us, ∃ y, Is A x y ∧ keyP A x = y := fun x hx => by
    obtain ⟨y, _, hy⟩ := all2_mem h2 x hx
    exact ⟨y, hy, (keyP_of hy).1⟩
  refine ⟨a, us, keyP A, rfl, SqL.of h1, fun x hx => ?_, fun ys p hs hb hp => ?_⟩
  · obtain ⟨y, hy, e⟩ := hk x hx
    obtain ⟨_, t, e1, e2⟩ := keyP_of hy
    exact ⟨t, e1, by rw [e]; exact S.1 _ _ e2⟩
  · have hd : ∀ x ∈ ys, Is A x (keyP A x) := fun x hx => by
      obtain ⟨y, hy, e⟩ := hk x (hb.perm.mem_iff.mp hx)
      rw [e]
      exact hy
    have e1 : us.map (keyP A) = ps := all2_map h2 fun v x hx => (keyP_of hx).1
    have e2 : ys.map (keyP A) = sortP ps := by
      refine sortedP_eq ?_ ?_ (sortP_sorted ps)
      · have := hb.perm.map (keyP A)
        rw [e1] at this
        exact this.trans (sortP_perm ps).symm
      · refine List.pairwise_map.mpr (List.Pairwise.imp (fun {x y} h => ?_) hs)
        have := SrtO.lexB_no.mp h
        unfold leP
        omega
    have hl : (sortP ps).length ≤ sizeLine := by
      rw [(sortP_perm ps).length_eq]
      exact h3
    refine k _ hm p ys hp ⟨?_, hl⟩
    rw [← e2]
    exact map_all2 hd
end
/-! ## local tables -/
section
variable {ω α γ : Type} [Rep α] {A H : Hp} {R : List Hp} {Q : VK} {σ : L2.St} {D : Ends} {tz : TS} {d : Addr} {kvs : List (Key × V)} {l : List (Int × α)} {li : List (Int × Int)} {n : Int} {Qr : γ → Prop} {Er : Exn → ω → Prop} {td ty tv : TE} {rd : V → V → Hp → VK → Prop}
theorem c_dnew (S : St H (A :: R)) (k : ∀ p H', St H' (A :: one p (.dK []) :: R) → Q (.ref p) H') : tDNewK σ H Q := fun p hp => k p _ (S.newM hp)
theorem dk_nil : DK A [] ([] : List (Int × α)) := trivial
theorem q_daug (h : td σ H fun x H1 => ty σ H1 fun y H2 => ∃ a v, x = .ref a ∧ DGet H2 a y (some v) ∧ tv σ H2 fun y2 H3 => rd v y2 H3 fun z H4 => ∃ H5, DPut H4 a y z H5 ∧ tz D σ H5) : tSeq (sDAug td ty tv rd) tz D σ H := h
theorem s_daug (h : td σ H fun x H1 => ty σ H1 fun y H2 => ∃ a v, x = .ref a ∧ DGet H2 a y (some v) ∧ tv σ H2 fun y2 H3 => rd v y2 H3 fun z H4 => ∃ H5, DPut H4 a y z H5 ∧ D.nx σ H5) : sDAug td ty tv rd D σ H := h
theorem d_augG {P : Addr → V → Prop} {f : Int → Res ω γ} (hd : H d = some (.dK kvs)) (hk : DK A kvs li) (hm : (bind (agR li n) f).wp Qr Er) (k : ∀ x : Int, (f x).wp Qr Er → P d (.int x)) : ∃ a v, V.ref d = .ref a ∧ DGet H a (.int n) (some v) ∧ P a v := by
  unfold agR at hm
  cases e : agt li n with
  | none =>
    rw [e] at hm
    exact hm.elim
  | some x =>
    rw [e] at hm
    obtain ⟨w, e', hw⟩ := hk.some_of e
    obtain rfl : w = .int x := hw
    refine ⟨d, .int x, rfl, ?_, k x hm⟩
    rw [← e']
    exact DGet.k (k := Sum.inl n) hd
theorem d_augP {P : Hp → Prop} {x : Int} {f : List (Int × Int) → Res ω γ} (hd : H d = some (.dK kvs)) (hk : DK A kvs li) (hm : (bind (aputR li n x) f).wp Qr Er) (k : ∀ kvs' l', (f l').wp Qr Er → DK A kvs' l' → P (upd H d (.dK kvs'))) : ∃ H5, DPut H d (.int n) (.int x) H5 ∧ P H5 := by
  unfold aputR at hm
  by_cases c : li.length < sizeLine
  · rw [if_pos c] at hm
    exact ⟨_, DPut.k (k := Sum.inl n) hd (by rw [hk.len]; exact c), k _ _ hm (hk.put (x := x) rfl)⟩
  · rw [if_neg c] at hm
    exact hm.elim
theorem c_rAdd {a b : Int} (h : Q (.int (a + b)) H) : L2.rAdd (.int a) (.int b) H Q := ⟨a, b, rfl, rfl, h⟩
theorem c_rSub {a b : Int} (h : Q (.int (a - b)) H) : L2.rSub (.int a) (.int b) H Q := ⟨a, b, rfl, rfl, h⟩
end
/-! ## lists by their methods -/
def rIns : V → List V → Hp → VK → Prop := fun x vs H Q => ∃ (l : Addr) (xs : List V) (i : Int) (y : V), x = .ref l ∧ vs = [.int i, y] ∧ H l = some (.lst xs) ∧ xs.length < sizeLine ∧ 0 ≤ i ∧ i < 2 ^ 63 ∧ Q .non (upd H l (.lst (xs.take i.toNat ++ [y] ++ xs.drop i.toNat)))
theorem mt_ins {X : Cx} : MtR X "list.insert" rIns := mt_insert
section
variable {ω α β γ : Type} [Rep α] [Rep β] {A H : Hp} {v u : V} {xs : List α} {R : List Hp} {K : PySem.W.Frag} {Q : VK} {Qr : γ → Prop} {Er : Exn → ω → Prop} {p : Addr} {ws : List V}
@[irreducible] def popR (xs : List α) (i : Int) : Res ω (α × List α) := match (if -(2 ^ 63) ≤ i ∧ i < 2 ^ 63 then seqIndex? i xs.length else none) with
  | some j => match xs[j]? with
    | some x => .ok (x, xs.eraseIdx j)
    | none => .bad
  | none => .bad
@[irreducible] def popLR (xs : List α) : Res ω (α × List α) := match xs[xs.length - 1]? with
  | some x => .ok (x, xs.dropLast)
  | none => .bad
@[irreducible] def insR (xs : List α) (i : Int) (x : α) : Res ω (List α) := if xs.length < sizeLine ∧ 0 ≤ i ∧ i < 2 ^ 63 then .ok (xs.take i.toNat ++ [x] ++ xs.drop i.toNat) else .bad
theorem All2.erase {P : V → α → Prop} : ∀ {vs : List V} {xs : List α} (i : Nat), All2 P vs xs → All2 P (vs.eraseIdx i) (xs.eraseIdx i)
  | [], [], _, h => h
  | _ :: _, _ :: _, 0, h => h.2
  | _ :: _, _ :: _, i + 1, h => ⟨h.1, All2.erase i h.2⟩
  | [], _ :: _, _, h => h.elim
  | _ :: _, [], _, h => h.elim
theorem All2.reverse {P : V → α → Prop} : ∀ {vs : List V} {xs : List α}, All2 P vs xs → All2 P vs.reverse xs.reverse
  | [], [], h => h
  | v :: vs, x :: xs, h => by
    rw [List.reverse_cons, List.reverse_cons]
    exact All2.append (All2.reverse h.2) ⟨h.1, trivial⟩
  | [], _ :: _, h => h.elim
  | _ :: _, [], h => h.elim
theorem All2.dropLast {P : V → α → Prop} {vs : List V} {xs : List α} (h : All2 P vs xs) : All2 P vs.dropLast xs.dropLast := by
  rw [List.dropLast_eq_take, List.dropLast_eq_take, h.len]
  exact h.take _
theorem c_popAt {i : Int} {f : α × List α → Res ω γ} (S : St H (A :: one p (.lst ws) :: R)) (h : OL A ws xs) (hm : (bind (popR xs i) f).wp Qr Er) (k : ∀ y w us H', Is A w y.1 → (f y).wp Qr Er → St H' (A :: one p (.lst us) :: R) → OL A us y.2 → Q w H') : rPopAt (.ref p) [.int i] H Q := by
  unfold popR at hm
  by_cases c : -(2 ^ 63) ≤ i ∧ i < 2 ^ 63
  · rw [if_pos c] at hm
    cases e : seqIndex? i xs.length with
    | none =>
      rw [e] at hm
      exact hm.elim
    | some j =>
      rw [e] at hm
      cases e2 : xs[j]? with
      | none =>
        have hm : (bind (match xs[j]? with | some x => Res.ok (x, xs.eraseIdx j) | none => Res.bad) f).wp Qr Er := hm
        rw [e2] at hm
        exact hm.elim
      | some x =>
        have hm : (bind (match xs[j]? with | some x => Res.ok (x, xs.eraseIdx j) | none => Res.bad) f).wp Qr Er := hm
        rw [e2] at hm
        obtain ⟨w, hw1, hw2⟩ := h.1.get e2
        exact ⟨p, ws, i, j, w, rfl, rfl, S.second _ _ one_same, c.1, c.2, by rw [h.len]; exact e, hw1, k (x, xs.eraseIdx j) w _ _ hw2 hm S.wr1 ⟨h.1.erase j, Nat.le_trans (List.length_eraseIdx_le _ _) h.2⟩⟩
  · rw [if_neg c] at hm
    exact hm.elim
theorem c_popL {f : α × List α → Res ω γ} (S : St H (A :: one p (.lst ws) :: R)) (h : OL A ws xs) (hm : (bind (popLR xs) f).wp Qr Er) (k : ∀ y w us H', Is A w y.1 → (f y).wp Qr Er → St H' (A :: one p (.lst us) :: R) → OL A us y.2 → Q w H') : rPop (.ref p) [] H Q := by
  unfold popLR at hm
  cases e2 : xs[xs.length - 1]? with
  | none =>
    rw [e2] at hm
    exact hm.elim
  | some x =>
    rw [e2] at hm
    obtain ⟨w, hw1, hw2⟩ := h.1.get e2
    refine ⟨p, ws, w, rfl, rfl, S.second _ _ one_same, by rw [h.len]; exact hw1, k (x, xs.dropLast) w _ _ hw2 hm S.wr1 ⟨h.1.dropLast, ?_⟩⟩
    rw [List.length_dropLast]
    exact Nat.le_trans (Nat.sub_le _ _) h.2
theorem c_ins {i : Int} {x : α} {f : List α → Res ω γ} (S : St H (A :: one p (.lst ws) :: R)) (h : OL A ws xs) (hx : Is A u x) (hm : (bind (insR xs i x) f).wp Qr Er) (k : ∀ zs us H', (f zs).wp Qr Er → St H' (A :: one p (.lst us) :: R) → OL A us zs → Q .non H') : rIns (.ref p) [.int i, u] H Q := by
  unfold insR at hm
  by_cases c : xs.length < sizeLine ∧ 0 ≤ i ∧ i < 2 ^ 63
  · rw [if_pos c] at hm
    refine ⟨p, ws, i, u, rfl, rfl, S.second _ _ one_same, by rw [h.len]; exact c.1, c.2.1, c.2.2, k _ _ _ hm S.wr1 ⟨((h.1.take _).append (show All2 (Rep.is A) [u] [x] from ⟨hx, trivial⟩)).append (h.1.drop _), ?_⟩⟩
    have := c.1
    simp only [List.length_append, List.length_take, List.length_drop, List.length_singleton]
    omega
  · rw [if_neg c] at hm
    exact hm.elim
theorem c_ext {ys : List α} {f : List α → Res ω γ} {b : Addr} {zs : List V} (S : St H (A :: one p (.lst ws) :: R)) (h : OL A ws xs) (hy : LA A H u ys) (hm : (bind (catR xs ys) f).wp Qr Er) (k : ∀ zs us H', (f zs).wp Qr Er → St H' (A :: one p (.lst us) :: R) → OL A us zs → Q .non H') : rExtend (.ref p) [u] H Q := by
  obtain ⟨b, us, rfl, h1, h2⟩ := hy
  unfold catR at hm
  by_cases c : xs.length + ys.length ≤ sizeLine
  · rw [if_pos c] at hm
    exact ⟨p, b, ws, us, rfl, rfl, S.second _ _ one_same, h1, by rw [h.len, h2.len]; exact c, k _ _ _ hm S.wr1 ⟨h.1.append h2.1, by rw [List.length_append]; exact c⟩⟩
  · rw [if_neg c] at hm
    exact hm.elim
theorem c_revL (h : LA A H v xs) (k : RawL A H Q xs.reverse) : ∃ a ys, v = .ref a ∧ SqL K H a ys ∧ ∀ p, H p = none → Q (.ref p) (upd H p (.lst ys.reverse)) := by
  obtain ⟨a, us, rfl, h1, h2⟩ := h
  exact ⟨a, us, rfl, SqL.of h1, fun p hp => k p _ hp ⟨h2.1.reverse, by rw [List.length_reverse]; exact h2.2⟩⟩
theorem c_trevL {te : TE} {σ : L2.St} (h : te σ H fun x H1 => ∃ a ys, x = .ref a ∧ SqL K H1 a ys ∧ ∀ p, H1 p = none → Q (.ref p) (upd H1 p (.lst ys.reverse))) : tRevL K te σ H Q := h
@[irreducible] def idxR (ns : List Int) (x : Int) : Res ω Int := if x ∈ ns then .ok ((ns.idxOf x : Nat) : Int) else .bad
theorem c_idx {ns : List Int} {x : Int} {f : Int → Res ω γ} (h : LA A H v ns) (hm : (bind (idxR ns x) f).wp Qr Er) (k : ∀ j : Int, (f j).wp Qr Er → Q (.int j) H) : rIndex K v [.int x] H Q := by
  unfold idxR at hm
  by_cases c : x ∈ ns
  · rw [if_pos c] at hm
    obtain ⟨a, us, rfl, h1, h2⟩ := h
    rw [h2.int] at h1
    have hlt := List.idxOf_lt_length_iff.mpr c
    refine ⟨a, _, .int x, ns.idxOf x, .int x, rfl, rfl, SqL.of h1, rfl, flat_ints ns, ?_, ?_, fun m z hm' hz => ?_, k _ hm⟩
    · rw [List.getElem?_map, List.getElem?_eq_getElem hlt, List.getElem_idxOf hlt]
      rfl
    · unfold eqV
      simp
    · rw [List.getElem?_map] at hz
      cases e : ns[m]? with
      | none =>
        rw [e] at hz
        cases hz
      | some y =>
        rw [e] at hz
        obtain rfl : V.int y = z := Option.some.inj hz
        have hlm : m < ns.length := (List.getElem?_eq_some_iff.mp e).1
        have hne := List.not_of_lt_findIdx (show m < List.findIdx (· == x) ns from hm')
        have hy : ns[m] = y := (List.getElem?_eq_some_iff.mp e).2
        rw [hy] at hne
        unfold eqV
        simpa using hne
  · rw [if_neg c] at hm
    exact hm.elim
end
end SB
namespace SB
open PySem PySem.Spec PyProof.Rows L2 Res
/-! ## loops backwards and by steps -/
def stepL (lo c : Int) (n : Nat) : List Int := (List.range n).map fun (i : Nat) => lo + (i : Int) * c
@[irreducible] def rg3R {ω : Type} (lo hi c : Int) : Res ω (List Int) := if c = 2 ∧ -1000000 ≤ lo ∧ lo ≤ 1000000 ∧ -1000000 ≤ hi ∧ hi ≤ 1000000 then .ok (stepL lo c ((hi - lo + 1) / 2).toNat) else .bad
@[irreducible] def rvR {ω : Type} (lo hi : Int) : Res ω (List Int) := if -(2 ^ 62) ≤ lo ∧ lo < 2 ^ 62 ∧ -(2 ^ 62) ≤ hi ∧ hi < 2 ^ 62 then .ok (rangeL lo hi).reverse else .bad
section
variable {ω α β' γ σT : Type} [Rep α] {A H : Hp} {v : V} {xs : List α} {R : List Hp} {K : PySem.W.Frag} {Qr : γ → Prop} {Er : Exn → ω → Prop} {σ : L2.St} {D : Ends} {tu tz : TS} {j : Nat} {ta : TA} {g : TG}
theorem wp_turn {body : α → σT → Res ω (Fl β' σT)} {f : Fl β' σT → Res ω γ} {x : α} {l : List α} {s : σT} (h : (bind (forM body (x :: l) s) f).wp Qr Er) : (body x s).wp (fun r => match r with | .next s' => (bind (forM body l s') f).wp Qr Er | .ret y => (f (.ret y)).wp Qr Er) Er := by
  unfold forM at h
  cases hb : body x s with
  | ok r =>
    rw [hb] at h
    cases r <;> exact h
  | ex e w =>
    rw [hb] at h
    exact h
  | bad =>
    rw [hb] at h
    exact h
theorem drop_of {α : Type} {xs : List α} {i : Nat} {x : α} (h : xs[i]? = some x) : xs.drop i = x :: xs.drop (i + 1) := by
  obtain ⟨hlt, hg⟩ := List.getElem?_eq_some_iff.mp h
  rw [← hg]
  exact List.drop_eq_getElem_cons hlt
/-- for x in reversed(a frozen list) -/
theorem c_forV {s0 : σT} {body : α → σT → Res ω (Fl β' σT)} {f : Fl β' σT → Res ω γ} (Rel : Hp → L2.St → List Hp → σT → Prop)
    (S : St H (A :: R)) (hta : ∀ Q' : List V → Hp → Prop, Q' [v] H → ta σ H Q') (hx : Is A v xs) (h0 : Rel A σ R s0) (hm : (bind (forM body xs.reverse s0) f).wp Qr Er)
    (step : ∀ x w A' H' σ' R' s (C : σT → Prop) (N : L2.St → Hp → Prop), x ∈ xs.reverse → Same A A' → St H' (A' :: R') → Is A' w x → Rel A' σ' R' s →
      (∀ A'' H'' σ'' R'' s', Same A A'' → St H'' (A'' :: R'') → Rel A'' σ'' R'' s' → C s' → N σ'' H'') →
      (body x s).wp (fun r => match r with | .next s' => C s' | .ret y => (f (.ret y)).wp Qr Er) Er → tu { D with nx := N, ct := N, bk := D.nx } (σ'.set j (some w)) H')
    (done : ∀ A' H' σ' R' s, Same A A' → St H' (A' :: R') → Rel A' σ' R' s → (f (.next s)).wp Qr Er → D.nx σ' H') : tFor (iRev K ta) (gName j) tu D σ H := by
  obtain ⟨a, us, rfl, h1, h2⟩ := hx
  refine hta _ ⟨a, us, rfl, SqL.of (S.1 _ _ h1), ?_⟩
  refine ⟨fun i m σ' H' => i + m = xs.length ∧ ∃ A' R' s, Same A A' ∧ St H' (A' :: R') ∧ Rel A' σ' R' s ∧ (bind (forM body (xs.reverse.drop i) s) f).wp Qr Er, ⟨xs.length, by omega, A, R, s0, Same.refl _, S, h0, hm⟩, ?_⟩
  rintro i m σ' H' ⟨him, A', R', s, e, S', hr, hw⟩
  have hq : SqL K H' a us := SqL.of (S'.1 _ _ (e _ _ h1))
  by_cases hi : i < xs.length
  · have hxi : xs[us.length - 1 - i]? = some (xs[xs.length - 1 - i]) := by
      rw [h2.len]
      exact List.getElem?_eq_getElem (by omega)
    have hyi : xs.reverse[i]? = some (xs[xs.length - 1 - i]) := by
      rw [List.getElem?_reverse hi]
      exact List.getElem?_eq_getElem (by omega)
    obtain ⟨u, hu, hxu⟩ := h2.1.get hxi
    refine .inr ⟨⟨by rw [h2.len]; exact hi, us, u, hq, hu⟩, fun σ2 H2 => ∃ A' R' s, Same A A' ∧ St H2 (A' :: R') ∧ Rel A' σ2 R' s ∧ (bind (forM body (xs.reverse.drop (i + 1)) s) f).wp Qr Er, fun σ2 H2 h => ⟨m - 1, by omega, by omega, h⟩, ?_⟩
    rintro y H2 ⟨rfl, hz⟩
    have ez : u = y := Option.some.inj (hu.symm.trans (hz us hq))
    subst ez
    rw [drop_of hyi] at hw
    exact step _ u A' _ σ' R' s (fun s' => (bind (forM body (xs.reverse.drop (i + 1)) s') f).wp Qr Er) _ (List.mem_of_getElem? hyi) e S' (Rep.mono e hxu) hr (fun A'' H'' σ'' R'' s' e' S'' hr' hc => ⟨A'', R'', s', e', S'', hr', hc⟩) (wp_turn hw)
  · refine .inl ⟨by show us.length ≤ i; rw [h2.len]; omega, ?_⟩
    rw [List.drop_eq_nil_of_le (by rw [List.length_reverse]; omega)] at hw
    exact done A' H' σ' R' s e S' hr hw
theorem stepL_get {lo c : Int} {n i : Nat} (h : i < n) : (stepL lo c n)[i]? = some (lo + (i : Int) * c) := by
  unfold stepL
  rw [List.getElem?_map, List.getElem?_range h]
  rfl
theorem for_steps {lo c : Int} {n : Nat} {s0 : σT} {body : Int → σT → Res ω (Fl β' σT)} {f : Fl β' σT → Res ω γ} (Rel : Hp → L2.St → List Hp → σT → Prop)
    (S : St H (A :: R)) (h0 : Rel A σ R s0) (hm : (bind (forM body (stepL lo c n) s0) f).wp Qr Er)
    (step : ∀ (x : Int) A' H' σ' R' s (C : σT → Prop) (N : L2.St → Hp → Prop), Same A A' → St H' (A' :: R') → Rel A' σ' R' s →
      (∀ A'' H'' σ'' R'' s', Same A A'' → St H'' (A'' :: R'') → Rel A'' σ'' R'' s' → C s' → N σ'' H'') →
      (body x s).wp (fun r => match r with | .next s' => C s' | .ret y => (f (.ret y)).wp Qr Er) Er → tu { D with nx := N, ct := N, bk := D.nx } (σ'.set j (some (.int x))) H')
    (done : ∀ A' H' σ' R' s, Same A A' → St H' (A' :: R') → Rel A' σ' R' s → (f (.next s)).wp Qr Er → D.nx σ' H') :
    ∃ W : Nat → Nat → L2.St → Hp → Prop, (∃ m, W 0 m σ H) ∧ ∀ i m σ H, W i m σ H → ((Itc lo c n).stop i H ∧ D.nx σ H) ∨ ((Itc lo c n).go i H ∧ ∃ N : L2.St → Hp → Prop, (∀ σ' H', N σ' H' → ∃ m', m' < m ∧ W (i + 1) m' σ' H') ∧ ∀ x H', (Itc lo c n).yld i H x H' → gName j x σ H' fun σ2 H2 => tu { D with nx := N, ct := N, bk := D.nx } σ2 H2) := by
  refine for_rangeC (fun i σ' H' => ∃ A' R' s, Same A A' ∧ St H' (A' :: R') ∧ Rel A' σ' R' s ∧ (bind (forM body ((stepL lo c n).drop i) s) f).wp Qr Er) ⟨A, R, s0, Same.refl _, S, h0, hm⟩ (fun i σ' H' hi ⟨A', R', s, e, S', hr, hw⟩ => ?_) (fun σ' H' ⟨A', R', s, e, S', hr, hw⟩ => ?_)
  · rw [drop_of (stepL_get hi)] at hw
    exact step _ A' H' σ' R' s (fun s' => (bind (forM body ((stepL lo c n).drop (i + 1)) s') f).wp Qr Er) _ e S' hr (fun A'' H'' σ'' R'' s' e' S'' hr' hc => ⟨A'', R'', s', e', S'', hr', hc⟩) (wp_turn hw)
  · rw [List.drop_eq_nil_of_le (by unfold stepL; rw [List.length_map, List.length_range]; exact Nat.le_refl _)] at hw
    exact done A' H' σ' R' s e S' hr hw
theorem size2 (lo hi : Int) : Builtin.Range.rangeSize lo hi 2 = ((((hi - lo + 1) / 2).toNat : Nat) : Int) := by
  unfold Builtin.Range.rangeSize
  rw [if_pos (by decide)]
  split <;> omega
theorem fits_of {i : Int} (h : -4000000 ≤ i ∧ i ≤ 4000000) : Builtin.Range.rangeFitsLong i = true := by
  unfold Builtin.Range.rangeFitsLong
  rw [Bool.and_eq_true, decide_eq_true_iff, decide_eq_true_iff]
  have : (2 : Int) ^ 63 = 9223372036854775808 := by decide
  omega
theorem small_of {lo hi : Int} (h : -1000000 ≤ lo ∧ lo ≤ 1000000 ∧ -1000000 ≤ hi ∧ hi ≤ 1000000) : Builtin.Range.small lo hi 2 = true := by
  unfold Builtin.Range.small
  rw [size2, fits_of (by omega), fits_of (by omega), fits_of (by omega), fits_of (by omega), if_pos (by decide), fits_of (by omega), Bool.or_true]
  rfl
theorem c_forR3 {lo hi c : Int} {s0 : σT} {body : Int → σT → Res ω (Fl β' σT)} {f : Fl β' σT → Res ω γ} (Rel : Hp → L2.St → List Hp → σT → Prop)
    (S : St H (A :: R)) (hta : ∀ Q' : List V → Hp → Prop, Q' [.int lo, .int hi, .int c] H → ta σ H Q') (h0 : Rel A σ R s0) (hm : (bind (bind (rg3R lo hi c) fun l => forM body l s0) f).wp Qr Er)
    (step : ∀ (x : Int) A' H' σ' R' s (C : σT → Prop) (N : L2.St → Hp → Prop), Same A A' → St H' (A' :: R') → Rel A' σ' R' s →
      (∀ A'' H'' σ'' R'' s', Same A A'' → St H'' (A'' :: R'') → Rel A'' σ'' R'' s' → C s' → N σ'' H'') →
      (body x s).wp (fun r => match r with | .next s' => C s' | .ret y => (f (.ret y)).wp Qr Er) Er → tu { D with nx := N, ct := N, bk := D.nx } (σ'.set j (some (.int x))) H')
    (done : ∀ A' H' σ' R' s, Same A A' → St H' (A' :: R') → Rel A' σ' R' s → (f (.next s)).wp Qr Er → D.nx σ' H') : tFor (iRng3 ta) (gName j) tu D σ H := by
  unfold rg3R at hm
  by_cases hc : c = 2 ∧ -1000000 ≤ lo ∧ lo ≤ 1000000 ∧ -1000000 ≤ hi ∧ hi ≤ 1000000
  · rw [if_pos hc] at hm
    obtain ⟨rfl, hc⟩ := hc
    refine hta _ ⟨lo, hi, 2, _, rfl, ⟨by decide, by decide, small_of hc, size2 lo hi⟩, ?_⟩
    exact for_steps Rel S h0 hm step done
  · rw [if_neg hc] at hm
    exact hm.elim
theorem rangeL_rev (lo hi : Int) : (rangeL lo hi).reverse = stepL (lo + (((hi - lo).toNat : Nat) : Int) - 1) (-1) (hi - lo).toNat := by
  apply List.ext_getElem?
  intro i
  by_cases h : i < (hi - lo).toNat
  · rw [List.getElem?_reverse (by rw [range_len]; exact h), stepL_get h, range_len]
    unfold rangeL
    rw [List.getElem?_map, List.getElem?_range (by omega)]
    show some (lo + (((hi - lo).toNat - 1 - i : Nat) : Int)) = _
    congr 1
    omega
  · rw [List.getElem?_eq_none (by rw [List.length_reverse, range_len]; omega), List.getElem?_eq_none (by unfold stepL; rw [List.length_map, List.length_range]; omega)]
theorem c_forRV {lo hi : Int} {tr : L2.St → Hp → (Int → Int → Hp → Prop) → Prop} {s0 : σT} {body : Int → σT → Res ω (Fl β' σT)} {f : Fl β' σT → Res ω γ} (Rel : Hp → L2.St → List Hp → σT → Prop)
    (S : St H (A :: R)) (htr : ∀ Q' : Int → Int → Hp → Prop, Q' lo hi H → tr σ H Q') (h0 : Rel A σ R s0) (hm : (bind (bind (rvR lo hi) fun l => forM body l s0) f).wp Qr Er)
    (step : ∀ (x : Int) A' H' σ' R' s (C : σT → Prop) (N : L2.St → Hp → Prop), Same A A' → St H' (A' :: R') → Rel A' σ' R' s →
      (∀ A'' H'' σ'' R'' s', Same A A'' → St H'' (A'' :: R'') → Rel A'' σ'' R'' s' → C s' → N σ'' H'') →
      (body x s).wp (fun r => match r with | .next s' => C s' | .ret y => (f (.ret y)).wp Qr Er) Er → tu { D with nx := N, ct := N, bk := D.nx } (σ'.set j (some (.int x))) H')
    (done : ∀ A' H' σ' R' s, Same A A' → St H' (A' :: R') → Rel A' σ' R' s → (f (.next s)).wp Qr Er → D.nx σ' H') : tFor (iRevR tr) (gName j) tu D σ H := by
  unfold rvR at hm
  by_cases hc : -(2 ^ 62) ≤ lo ∧ lo < 2 ^ 62 ∧ -(2 ^ 62) ≤ hi ∧ hi < 2 ^ 62
  · rw [if_pos hc, rangeL_rev] at hm
    refine htr _ ⟨hc.1, hc.2.1, hc.2.2.1, hc.2.2.2, ?_⟩
    exact for_steps Rel S h0 hm step done
  · rw [if_neg hc] at hm
    exact hm.elim
theorem q_forV (h : ta σ H fun us H1 => tFor (iRev K (tArgs us)) g tu { D with nx := tz D } σ H1) : tSeq (tFor (iRev K ta) g tu) tz D σ H := h
theorem s_forV (h : ta σ H fun us H1 => tFor (iRev K (tArgs us)) g tu D σ H1) : tFor (iRev K ta) g tu D σ H := h
theorem q_forR3 (h : ta σ H fun us H1 => tFor (iRng3 (tArgs us)) g tu { D with nx := tz D } σ H1) : tSeq (tFor (iRng3 ta) g tu) tz D σ H := h
theorem s_forR3 (h : ta σ H fun us H1 => tFor (iRng3 (tArgs us)) g tu D σ H1) : tFor (iRng3 ta) g tu D σ H := h
end
end SB

namespace SB
open PySem PySem.Spec PyProof.Rows L2 Res
/-! ## triples -/
structure Tri (α β γ : Type) where
  a : α
  b : β
  c : γ
  deriving DecidableEq
instance instTri {α β γ : Type} [Rep α] [Rep β] [Rep γ] : Rep (Tri α β γ) := ⟨fun A v x => ∃ p u w z, v = .ref p ∧ A p = some (.tup [u, w, z]) ∧ Rep.is A u x.a ∧ Rep.is A w x.b ∧ Rep.is A z x.c,
  fun e ⟨p, u, w, z, h1, h2, h3, h4, h5⟩ => ⟨p, u, w, z, h1, e _ _ h2, Rep.mono e h3, Rep.mono e h4, Rep.mono e h5⟩⟩
/-! ## data with texts in it -/
class RepS (α : Type) [Rep α] where
  D : α → PyData
  ok : α → Bool
  nn : ∀ x, D x ≠ .none
  dp : ∀ {K : PySem.W.Frag} {A H : Hp} {v : V} {x : α}, Same A H → Rep.is A v x → Dp K H v (D x)
  shp : ∀ x, ok x = true → (D x).canLay0 = true
  deep : Nat
  dpt : ∀ x, (D x).depth ≤ deep
  eqv : ∀ x y, PyData.eqv (D x) (D y) = true ↔ x = y
instance : RepS Int := ⟨.int, fun _ => true, fun _ h => (nomatch h), fun _ h => by cases h; exact .int _, fun _ _ => rfl, 0, fun _ => Nat.le_refl _, fun x y => by show (x == y) = true ↔ x = y; exact beq_iff_eq⟩
instance : RepS Bool := ⟨.bool, fun _ => true, fun _ h => (nomatch h), fun _ h => by cases h; exact .bl _, fun _ _ => rfl, 0, fun _ => Nat.le_refl _, fun x y => by show (x == y) = true ↔ x = y; exact beq_iff_eq⟩
instance : RepS Str := ⟨.str, fun x => (PyData.str x).canLay0, fun _ h => (nomatch h), fun _ h => by cases h; exact .str _, fun _ h => h, 0, fun _ => Nat.le_refl _, fun x y => by show (x == y) = true ↔ x = y; exact beq_iff_eq⟩
theorem dpAllS {α : Type} [Rep α] [RepS α] {K : PySem.W.Frag} {A H : Hp} (e : Same A H) : ∀ {vs : List V} {xs : List α}, All2 (Rep.is A) vs xs → DpAll K H vs (xs.map RepS.D)
  | [], [], _ => .nil
  | _ :: _, _ :: _, h => .cons (RepS.dp e h.1) (dpAllS e h.2)
  | [], _ :: _, h => h.elim
  | _ :: _, [], h => h.elim
theorem layS {α : Type} [Rep α] [RepS α] : ∀ xs : List α, xs.all RepS.ok = true → PyData.canLayAll0 (xs.map RepS.D) = true
  | [], _ => rfl
  | x :: xs, h => by
    rw [List.all_cons, Bool.and_eq_true] at h
    show (PyData.canLay0 (RepS.D x) && PyData.canLayAll0 (xs.map RepS.D)) = true
    rw [RepS.shp x h.1, layS xs h.2]
    rfl
theorem dptS {α : Type} [Rep α] [RepS α] : ∀ xs : List α, PyData.depthAll (xs.map RepS.D) ≤ RepS.deep (α := α)
  | [] => Nat.zero_le _
  | x :: xs => by
    show max (PyData.depth (RepS.D x)) (PyData.depthAll (xs.map RepS.D)) ≤ _
    exact Nat.max_le.mpr ⟨RepS.dpt x, dptS xs⟩
theorem eqvS {α : Type} [Rep α] [RepS α] : ∀ xs ys : List α, PyData.eqvAll (xs.map RepS.D) (ys.map RepS.D) = true ↔ xs = ys
  | [], [] => by simp [PyData.eqvAll]
  | [], _ :: _ => by simp [PyData.eqvAll]
  | _ :: _, [] => by simp [PyData.eqvAll]
  | x :: xs, y :: ys => by
    show (PyData.eqv (RepS.D x) (RepS.D y) && PyData.eqvAll (xs.map RepS.D) (ys.map RepS.D)) = true ↔ _
    rw [Bool.and_eq_true, RepS.eqv, eqvS xs ys]
    constructor
    · rintro ⟨rfl, rfl⟩
      rfl
    · intro h
      injection h with h1 h2
      exact ⟨h1, h2⟩
instance instSList {α : Type} [Rep α] [RepS α] : RepS (List α) where
  D := fun xs => .list (xs.map RepS.D)
  ok := fun xs => xs.all RepS.ok
  nn := fun _ h => nomatch h
  dp := fun e ⟨a, vs, h1, h2, h3⟩ => by
    subst h1
    exact .lst (SqL.of (e _ _ h2)) (dpAllS e h3.1)
  shp := fun xs h => layS xs h
  deep := RepS.deep (α := α) + 1
  dpt := fun xs => Nat.succ_le_succ (dptS xs)
  eqv := fun xs ys => eqvS xs ys
instance instSProd {α β : Type} [Rep α] [Rep β] [RepS α] [RepS β] : RepS (α × β) where
  D := fun x => .tuple [RepS.D x.1, RepS.D x.2]
  ok := fun x => RepS.ok x.1 && RepS.ok x.2
  nn := fun _ h => nomatch h
  dp := fun e ⟨a, u, w, h1, h2, h3, h4⟩ => by
    subst h1
    exact .tup (SqT.of (e _ _ h2)) (.cons (RepS.dp e h3) (.cons (RepS.dp e h4) .nil))
  shp := fun x h => by
    rw [Bool.and_eq_true] at h
    show (PyData.canLay0 (RepS.D x.1) && (PyData.canLay0 (RepS.D x.2) && true)) = true
    rw [RepS.shp x.1 h.1, RepS.shp x.2 h.2]
    rfl
  deep := max (RepS.deep (α := α)) (RepS.deep (α := β)) + 1
  dpt := fun x => by
    have h1 := RepS.dpt x.1
    have h2 := RepS.dpt x.2
    show max (PyData.depth (RepS.D x.1)) (max (PyData.depth (RepS.D x.2)) 0) + 1 ≤ _
    omega
  eqv := fun x y => by
    show (PyData.eqv (RepS.D x.1) (RepS.D y.1) && (PyData.eqv (RepS.D x.2) (RepS.D y.2) && true)) = true ↔ _
    rw [Bool.and_true, Bool.and_eq_true, RepS.eqv, RepS.eqv]
    exact ⟨fun ⟨h1, h2⟩ => Prod.ext h1 h2, fun h => by rw [h]; exact ⟨rfl, rfl⟩⟩
@[irreducible] def eqdR {ω α : Type} [Rep α] [RepS α] [DecidableEq α] (x y : α) : Res ω Bool := if (RepS.ok x && RepS.ok y) = true then .ok (decide (x = y)) else .bad
section
variable {ω α γ : Type} [Rep α] [RepS α] [DecidableEq α] {K : PySem.W.Frag} {A H : Hp} {R : List Hp} {Q : VK} {x y : α} {v u : V} {f : Bool → Res ω γ} {Qr : γ → Prop} {Er : Exn → ω → Prop}
theorem eqd_by (hm : (bind (eqdR x y) f).wp Qr Er) (hd : RepS.deep (α := α) ≤ 64) : SeqAt.shaped (RepS.D x) = true ∧ SeqAt.shaped (RepS.D y) = true ∧ PyData.eqv (RepS.D x) (RepS.D y) = decide (x = y) ∧ (f (decide (x = y))).wp Qr Er := by
  unfold eqdR at hm
  by_cases c : (RepS.ok x && RepS.ok y) = true
  · rw [if_pos c] at hm
    rw [Bool.and_eq_true] at c
    have sh : ∀ z : α, RepS.ok z = true → SeqAt.shaped (RepS.D z) = true := fun z h => by
      unfold SeqAt.shaped
      rw [RepS.shp z h, decide_eq_true (Nat.le_trans (RepS.dpt z) hd)]
      rfl
    refine ⟨sh x c.1, sh y c.2, ?_, hm⟩
    by_cases z : x = y
    · rw [(RepS.eqv x y).mpr z, decide_eq_true z]
    · rw [decide_eq_false z]
      cases q : PyData.eqv (RepS.D x) (RepS.D y) with
      | true => exact absurd ((RepS.eqv x y).mp q) z
      | false => rfl
  · rw [if_neg c] at hm
    exact hm.elim
theorem c_eqDS (hx : Dp K H v (RepS.D x)) (hy : Dp K H u (RepS.D y)) (hd : RepS.deep (α := α) ≤ 64) (hm : (bind (eqdR x y) f).wp Qr Er) (k : (f (decide (x = y))).wp Qr Er → Q (.bl (decide (x = y))) H) : rEqD K v u H Q := by
  obtain ⟨h1, h2, h3, h4⟩ := eqd_by hm hd
  refine ⟨_, _, hx, hy, h1, h2, ?_⟩
  rw [h3]
  exact k h4
theorem c_neDS (hx : Dp K H v (RepS.D x)) (hy : Dp K H u (RepS.D y)) (hd : RepS.deep (α := α) ≤ 64) (hm : (bind (eqdR x y) f).wp Qr Er) (k : (f (decide (x = y))).wp Qr Er → Q (.bl (!decide (x = y))) H) : rNeD K v u H Q := by
  obtain ⟨h1, h2, h3, h4⟩ := eqd_by hm hd
  refine ⟨_, _, hx, hy, h1, h2, ?_⟩
  rw [h3]
  exact k h4
theorem dps_of (S : St H (A :: R)) (h : Is A v x) : Dp K H v (RepS.D x) := RepS.dp S.1 h
theorem dps_la {xs : List α} (S : St H (A :: R)) (h : LA A H v xs) : Dp K H v (RepS.D xs) := by
  obtain ⟨a, vs, rfl, h1, h2⟩ := h
  exact .lst (SqL.of h1) (dpAllS S.1 h2.1)
end
theorem decS {x y : Str} : decide (V.str x = V.str y) = decide (x = y) := by
  by_cases h : x = y
  · rw [decide_eq_true h, decide_eq_true (by rw [h])]
  · rw [decide_eq_false h, decide_eq_false fun z => h (V.str.inj z)]
theorem c_eqS {x y : Str} {Q : VK} {H : Hp} (k : Q (.bl (decide (x = y))) H) : rEq (.str x) (.str y) H Q := by
  refine ⟨rfl, ?_⟩
  rw [decS]
  exact k
theorem c_neS {x y : Str} {Q : VK} {H : Hp} (k : Q (.bl (!decide (x = y))) H) : rNe (.str x) (.str y) H Q := by
  refine ⟨rfl, ?_⟩
  rw [decS]
  exact k
theorem all2_str {A : Hp} : ∀ {vs : List V} {ns : List Str}, All2 (Rep.is A) vs ns → vs = ns.map V.str
  | [], [], _ => rfl
  | v :: vs, n :: ns, h => by
    have h1 : v = .str n := h.1
    rw [h1, all2_str h.2]
    rfl
  | [], _ :: _, h => h.elim
  | _ :: _, [], h => h.elim
theorem inV_str (x : Str) : ∀ ns : List Str, inV (.str x) (ns.map V.str) = decide (x ∈ ns)
  | [] => by
    unfold inV
    simp
  | n :: ns => by
    have ih := inV_str x ns
    unfold inV at ih ⊢
    rw [List.map_cons, List.any_cons, ih]
    by_cases e : x = n
    · subst e
      simp [eqV]
    · have : ¬ n = x := fun z => e z.symm
      simp [eqV, e, this]
section
variable {K : PySem.W.Frag} {A H m : Hp} {R : List Hp} {Q : VK} {v : V} {T : Cs} {t : Bool}
theorem flat_strs (ns : List Str) : (ns.map V.str).all flatV = true := by
  rw [List.all_map]
  exact List.all_eq_true.mpr fun _ _ => rfl
theorem c_inS {x : Str} {ns : List Str} (h : LA A H v ns) (k : Q (.bl (decide (x ∈ ns))) H) : rIn K false (.str x) v H Q := by
  obtain ⟨a, vs, rfl, h1, h2⟩ := h
  rw [all2_str h2.1] at h1
  refine ⟨a, _, rfl, .inl (SqL.of h1), rfl, flat_strs ns, ?_⟩
  rw [inV_str]
  exact k
theorem c_notinS {x : Str} {ns : List Str} (h : LA A H v ns) (k : Q (.bl (!decide (x ∈ ns))) H) : rIn K true (.str x) v H Q := by
  obtain ⟨a, vs, rfl, h1, h2⟩ := h
  rw [all2_str h2.1] at h1
  refine ⟨a, _, rfl, .inl (SqL.of h1), rfl, flat_strs ns, ?_⟩
  show Q (.bl (!inV _ _)) H
  rw [inV_str]
  exact k
/-! ## in, of data -/
theorem any_eqv {α : Type} [RepD α] [DecidableEq α] (x : α) : ∀ xs : List α, ((xs.map RepD.D).any fun z => PyData.eqv z (RepD.D x)) = decide (x ∈ xs)
  | [] => by simp
  | y :: xs => by
    rw [List.map_cons, List.any_cons, any_eqv x xs]
    by_cases e : y = x
    · rw [(RepD.eqv y x).mpr e]
      subst e
      simp
    · have h : PyData.eqv (RepD.D y) (RepD.D x) = false := by
        cases q : PyData.eqv (RepD.D y) (RepD.D x) with
        | true => exact absurd ((RepD.eqv y x).mp q) e
        | false => rfl
      have e' : ¬ x = y := fun z => e z.symm
      rw [h]
      simp [e']
theorem any_eqv' {α : Type} [RepD α] [DecidableEq α] (x : α) (xs : List α) [inst : Decidable (x ∈ xs)] : ((xs.map RepD.D).any fun z => PyData.eqv z (RepD.D x)) = @decide (x ∈ xs) inst := (any_eqv x xs).trans (decide_eq_decide.mpr Iff.rfl)
theorem c_inD {α : Type} [RepD α] [DecidableEq α] {x : α} {xs : List α} {u : V} [inst : Decidable (x ∈ xs)] (S : St H (A :: R)) (hx : Is A u x) (h : LA A H v xs) (hd : RepD.deep (α := List α) ≤ 64) (k : Q (.bl (decide (x ∈ xs))) H) : rInD K u v H Q := by
  have hd1 : RepD.deep (α := α) ≤ 64 := Nat.le_trans (Nat.le_succ _) hd
  refine ⟨_, _, dp_of S hx, dp_la S h, shaped_of hd1 x, shaped_of (α := List α) hd xs, ?_⟩
  rw [any_eqv' (inst := inst) x xs]
  exact k
theorem c_notinD {α : Type} [RepD α] [DecidableEq α] {x : α} {xs : List α} {u : V} [inst : Decidable (x ∈ xs)] (S : St H (A :: R)) (hx : Is A u x) (h : LA A H v xs) (hd : RepD.deep (α := List α) ≤ 64) (k : Q (.bl (!decide (x ∈ xs))) H) : rNotInD K u v H Q := by
  have hd1 : RepD.deep (α := α) ≤ 64 := Nat.le_trans (Nat.le_succ _) hd
  refine ⟨_, _, dp_of S hx, dp_la S h, shaped_of hd1 x, shaped_of (α := List α) hd xs, ?_⟩
  rw [any_eqv' (inst := inst) x xs]
  exact k
/-! ## isinstance -/
theorem isi_tup {α β : Type} [Rep α] [Rep β] {x : α × β} (S : St H (A :: R)) (h : Is A v x) (k : Q (.bl true) H) : rIsi K [v, .ty "tuple"] H Q := by
  obtain ⟨a, u, w, rfl, h2, _⟩ := h
  exact c_isi (.base (.tup (S.1 _ _ h2))) (kit_ty (by decide +kernel)) k
theorem isi_str {x : Str} (k : Q (.bl true) H) : rIsi K [.str x, .ty "str"] H Q := c_isi (.base (.str x)) (kit_ty (by decide +kernel)) k
theorem isi_oint {x : Option Int} (h : Is A v x) (k : Q (.bl x.isSome) H) : rIsi K [v, .ty "int"] H Q := by
  cases x with
  | none =>
    obtain rfl : v = .non := h
    exact c_isi (.base .non) (kit_ty (by decide +kernel)) k
  | some n =>
    obtain rfl : v = .int n := h.2
    exact c_isi (b := true) (.base (.int n)) (kit_ty (by decide +kernel)) k
theorem isi_oint_bool {x : Option Int} (h : Is A v x) (k : Q (.bl false) H) : rIsi K [v, .ty "bool"] H Q := by
  cases x with
  | none =>
    obtain rfl : v = .non := h
    exact c_isi (.base .non) (kit_ty (by decide +kernel)) k
  | some n =>
    obtain rfl : v = .int n := h.2
    exact c_isi (.base (.int n)) (kit_ty (by decide +kernel)) k
/-- an object of an own class -/
structure KI (K : PySem.W.Frag) (C : Addr) : Prop where
  c : PySem.W.findIn K (.ref C) "__class__" = some (some (.builtin "object.__class__"))
  g : PySem.W.specialIn K (.builtin "object.__class__") "__get__" = some (some (.builtin "getset_descriptor.__get__"))
  t : PySem.W.takesIn K (.builtin "object.__class__") = some true
  m : PySem.W.mroIn K C (.type "object") = some true
theorem isi_own {C : Addr} {b : Bool} {s : FS t} (kl : Kl K (T.cls t) t) (ki : KI K (T.cls t)) (S : St H (A :: m :: R)) (h : Ob.isAt T A m v s) (hk : PySem.W.kitOne K (.ref (T.cls t)) (.ref C) = some b) (k : Q (.bl b) H) : rIsi K [v, .ref C] H Q := by
  obtain ⟨p, dx, dr, de, da, db, rfl, h2, _⟩ := h
  exact ⟨_, _, _, _, b, rfl, .own C, .base (.ins (S.second _ _ h2) kl.cl ki.c ki.g ki.t ki.m), hk, k⟩
/-! ## more -/
theorem c_tupN {vs : List V} (S : St H (A :: R)) (hz : vs.length ≤ 1000) (k : ∀ p A' H', Same A A' → St H' (A' :: R) → A' p = some (.tup vs) → Q (.ref p) H') : NewT Q vs H :=
  ⟨Nat.le_of_lt (small1000 hz), fun p hp => k p _ _ (same_upd (S.1.free hp)) (S.new hp) upd_same⟩
theorem oo_any {B : Hp} {x : Option (List Int)} (h : Ob.isAt T A m v x) : Ob.isAt T B m v x := by
  cases x with
  | none => exact h
  | some l =>
    obtain ⟨p, ws, h1, h2, h3⟩ := h
    exact ⟨p, ws, h1, h2, h3.any⟩
theorem dk_any {B : Hp} : ∀ {kvs : List (Key × V)} {l : List (Int × Int)}, DK A kvs l → DK B kvs l
  | [], [], _ => trivial
  | _ :: _, _ :: _, h => ⟨h.1, h.2.1, dk_any h.2.2⟩
  | [], _ :: _, h => h.elim
  | _ :: _, [], h => h.elim
theorem opt_int_any {B : Hp} {x : Option Int} (h : Is A v x) : Is B v x := by
  cases x with
  | none => exact h
  | some n => exact h
end
end SB
namespace SB
open PySem PySem.Spec PyProof.Rows L2 Res
theorem room65 {k : Nat} {A : Around} (r : Room k A) : A.units + 65 < cLine := by have := r.un; omega
section
variable {ω α β γ : Type} [Rep α] [Rep β] {K : PySem.W.Frag} {A H : Hp} {R : List Hp} {Q : VK} {v : V} {σ : L2.St} {t : TGs} {P : L2.St → Hp → Prop} {p : Addr} {ws : List V} {xs : List α}
theorem g_tupP {x : α × β} (S : St H (A :: R)) (h : Is A v x) (k : ∀ u w, Is A u x.1 → Is A w x.2 → t [u, w] σ H P) : gTup K 2 t v σ H P := by
  obtain ⟨a, u, w, rfl, h2, h3, h4⟩ := h
  exact g_tup (S.1 _ _ h2) rfl (k u w h3 h4)
theorem g_tupT {γ : Type} [Rep γ] {x : Tri α β γ} (S : St H (A :: R)) (h : Is A v x) (k : ∀ u w z, Is A u x.a → Is A w x.b → Is A z x.c → t [u, w, z] σ H P) : gTup K 3 t v σ H P := by
  obtain ⟨a, u, w, z, rfl, h2, h3, h4, h5⟩ := h
  exact g_tup (S.1 _ _ h2) rfl (k u w z h3 h4 h5)
theorem c_ixN {a : Addr} {vs : List V} {i : Int} {w : V} (h : H a = some (.tup vs)) (hi : atI vs i = some w) (k : Q w H) : rIxT K (.ref a) (.int i) H Q := ⟨a, vs, i, w, rfl, rfl, SqT.of h, hi, k⟩
theorem c_ixTri0 {γ : Type} [Rep γ] {x : Tri α β γ} (S : St H (A :: R)) (h : Is A v x) (k : ∀ w, Is A w x.a → Q w H) : rIxT K v (.int 0) H Q := by
  obtain ⟨a, u, w, z, rfl, h2, h3, h4, h5⟩ := h
  exact c_ixN (S.1 _ _ h2) rfl (k u h3)
theorem c_ixTri1 {γ : Type} [Rep γ] {x : Tri α β γ} (S : St H (A :: R)) (h : Is A v x) (k : ∀ w, Is A w x.b → Q w H) : rIxT K v (.int 1) H Q := by
  obtain ⟨a, u, w, z, rfl, h2, h3, h4, h5⟩ := h
  exact c_ixN (S.1 _ _ h2) rfl (k w h4)
theorem c_ixTri2 {γ : Type} [Rep γ] {x : Tri α β γ} (S : St H (A :: R)) (h : Is A v x) (k : ∀ w, Is A w x.c → Q w H) : rIxT K v (.int 2) H Q := by
  obtain ⟨a, u, w, z, rfl, h2, h3, h4, h5⟩ := h
  exact c_ixN (S.1 _ _ h2) rfl (k z h5)
theorem c_tri {γ : Type} [Rep γ] {x : α} {y : β} {z : γ} {u w q : V} (S : St H (A :: R)) (h1 : Is A u x) (h2 : Is A w y) (h3 : Is A q z) (k : ∀ p A' H', Same A A' → St H' (A' :: R) → Is A' (.ref p) (Tri.mk x y z) → Q (.ref p) H') : NewT Q [u, w, q] H :=
  c_tupN S (Nat.le_of_ble_eq_true rfl) fun p A' H' e S' h => k p A' H' e S' ⟨p, u, w, q, rfl, h, up h1 e, up h2 e, up h3 e⟩
theorem c_rev (S : St H (A :: one p (.lst ws) :: R)) (h : OL A ws xs) (k : ∀ us H', St H' (A :: one p (.lst us) :: R) → OL A us xs.reverse → Q .non H') : rReverse (.ref p) [] H Q :=
  ⟨p, ws, rfl, rfl, S.second _ _ one_same, k _ _ S.wr1 ⟨h.1.reverse, by rw [List.length_reverse]; exact h.2⟩⟩
theorem c_isNN (k : Q (.bl true) H) : L2.rIsN .non .non H Q := ⟨rfl, k⟩
theorem c_notNN (k : Q (.bl false) H) : L2.rNotN .non .non H Q := ⟨rfl, k⟩
end
end SB
namespace SB
open PySem PySem.Spec PyProof.Rows L2 Res
theorem lty {K : PySem.W.Frag} {α : Type} [Rep α] {A H : Hp} {v : V} {xs : List α} (h : LA A H v xs) : tyV K "list" v H := by
  obtain ⟨a, vs, rfl, h1, h2⟩ := h
  exact .inl ⟨rfl, _, SqL.of h1⟩
theorem isi_tp {K : PySem.W.Frag} {A H : Hp} {R : List Hp} {Q : VK} {a : Addr} {vs : List V} (S : St H (A :: R)) (h : A a = some (.tup vs)) (k : Q (.bl true) H) : rIsi K [.ref a, .ty "tuple"] H Q :=
  c_isi (.base (.tup (S.1 _ _ h))) (kit_ty (by decide +kernel)) k
end SB

namespace SB
open PySem PySem.Spec PyProof.Rows L2 Res
/-! ## Field() -/
def sp_bini (T : Cs) (K : PySem.W.Frag) : Sp := fun vs H Q _ => ∃ (A : Hp) (R : List Hp) (p dx : Addr), vs = [.ref p] ∧ St H (A :: one p (.ins (T.cls true) dx []) :: R) ∧
  ∀ dr de H', St H' (A :: one p (.ins (T.cls true) dx [("ranks", .ref dr), ("edges", .ref de), ("after", .int 0)]) :: one de (.dK []) :: one dr (.dK []) :: R) → Q .non H'
theorem wk_bini {T : Cs} {K : PySem.W.Frag} {vs : List V} {H : Hp} {Q : VK} {E : XK} (kl : Kl K (T.cls true) true) (h : sp_bini T K vs H Q E) : rd_Body_init T K E { nx := fun _ H' => Q .non H', rt := Q } (L2.start ["self"] vs) H := by
  obtain ⟨A, R, p, dx, rfl, S, h⟩ := h
  have hp := S.second _ _ one_same
  show rd_Body_init T K E _ [some (.ref p)] H
  unfold rd_Body_init
  refine q_seq fun dr hdr => ?_
  refine ⟨_, rfl, p, _, dx, [], rfl, by rw [upd_ne (ne_of_none hp hdr)]; exact hp, kl.cl, kl.ranks, Nat.le_of_ble_eq_true rfl, ?_⟩
  have S2 : St (upd (upd H dr (.dK [])) p (.ins (T.cls true) dx (putF "ranks" (.ref dr) []))) (A :: one p (.ins (T.cls true) dx (putF "ranks" (.ref dr) [])) :: one dr (.dK []) :: R) := ((S.newM (o := .dK []) hdr).pick 1 (Nat.le_of_ble_eq_true rfl)).wr1
  generalize upd (upd H dr (.dK [])) p (.ins (T.cls true) dx (putF "ranks" (.ref dr) [])) = H2 at S2 ⊢
  refine q_seq fun de hde => ?_
  have hp2 := S2.second _ _ one_same
  refine ⟨_, rfl, p, _, dx, _, rfl, by rw [upd_ne (ne_of_none hp2 hde)]; exact hp2, kl.cl, kl.edges, Nat.le_of_ble_eq_true rfl, ?_⟩
  have S4 : St (upd (upd H2 de (.dK [])) p (.ins (T.cls true) dx (putF "edges" (.ref de) (putF "ranks" (.ref dr) [])))) (A :: one p (.ins (T.cls true) dx (putF "edges" (.ref de) (putF "ranks" (.ref dr) []))) :: one de (.dK []) :: one dr (.dK []) :: R) := ((S2.newM (o := .dK []) hde).pick 1 (Nat.le_of_ble_eq_true rfl)).wr1
  generalize upd (upd H2 de (.dK [])) p (.ins (T.cls true) dx (putF "edges" (.ref de) (putF "ranks" (.ref dr) []))) = H4 at S4 ⊢
  have hp4 := S4.second _ _ one_same
  refine ⟨_, rfl, p, _, dx, _, rfl, hp4, kl.cl, kl.after, Nat.le_of_ble_eq_true rfl, ?_⟩
  exact h dr de _ S4.wr1
def rd_Field_init (T : Cs) (K : PySem.W.Frag) (E : XK) : TS := tSeq (tDrop (tCC (T.cls false) (sp_bini T K) E0 (tC (.ref (T.cls false))) (tCons (tVar 0) tNil))) (tSeq (sFld K (tVar 0) tDNewK "ahead") (sFld K (tVar 0) tDNewK "behind"))
theorem one_ne {A : Hp} {H : Hp} {p q : Addr} {o u : HO} {R l : List Hp} (S : St H (A :: one p o :: l)) (h : one q u ∈ l) : p ≠ q := fun z => by
  subst z
  exact S.2.2.2.1 _ h _ _ _ one_same one_same
theorem wk_Field_init {T : Cs} {K : PySem.W.Frag} {vs : List V} {H : Hp} {Q : VK} {E : XK} (kl : Kl K (T.cls true) true) (h : sp_new true T K vs H Q E) : rd_Field_init T K E { nx := fun _ H' => Q .non H', rt := Q } (L2.start ["self"] vs) H := by
  obtain ⟨A, R, p, dx, rfl, S, h⟩ := h
  show rd_Field_init T K E _ [some (.ref p)] H
  unfold rd_Field_init
  refine q_drop ⟨rfl, .ref p, rfl, A, R, p, dx, rfl, S, fun dr de H2 S2 => ?_⟩
  have hp := S2.second _ _ one_same
  refine q_seq fun da hda => ?_
  refine ⟨_, rfl, p, _, dx, _, rfl, by rw [upd_ne (ne_of_none hp hda)]; exact hp, kl.cl, kl.ahead rfl, Nat.le_of_ble_eq_true rfl, ?_⟩
  have S3 : St (upd (upd H2 da (.dK [])) p (.ins (T.cls true) dx [("ranks", .ref dr), ("edges", .ref de), ("after", .int 0), ("ahead", .ref da)])) (A :: one p (.ins (T.cls true) dx [("ranks", .ref dr), ("edges", .ref de), ("after", .int 0), ("ahead", .ref da)]) :: one da (.dK []) :: one de (.dK []) :: one dr (.dK []) :: R) := ((S2.newM (o := .dK []) hda).pick 1 (Nat.le_of_ble_eq_true rfl)).wr1
  show (sFld K (tVar 0) tDNewK "behind") _ _ (upd (upd H2 da (.dK [])) p (.ins (T.cls true) dx [("ranks", .ref dr), ("edges", .ref de), ("after", .int 0), ("ahead", .ref da)]))
  generalize upd (upd H2 da (.dK [])) p (.ins (T.cls true) dx [("ranks", .ref dr), ("edges", .ref de), ("after", .int 0), ("ahead", .ref da)]) = H3 at S3 ⊢
  have hp3 := S3.second _ _ one_same
  refine fun db hdb => ⟨_, rfl, p, _, dx, _, rfl, by rw [upd_ne (ne_of_none hp3 hdb)]; exact hp3, kl.cl, kl.behind rfl, Nat.le_of_ble_eq_true rfl, ?_⟩
  have S5 : St (upd (upd H3 db (.dK [])) p (.ins (T.cls true) dx (flds true dr de 0 da db))) (A :: one p (.ins (T.cls true) dx (flds true dr de 0 da db)) :: one db (.dK []) :: one da (.dK []) :: one de (.dK []) :: one dr (.dK []) :: R) := ((S3.newM (o := .dK []) hdb).pick 1 (Nat.le_of_ble_eq_true rfl)).wr1
  show Q .non (upd (upd H3 db (.dK [])) p (.ins (T.cls true) dx (flds true dr de 0 da db)))
  generalize upd (upd H3 db (.dK [])) p (.ins (T.cls true) dx (flds true dr de 0 da db)) = H5 at S5 ⊢
  have k : ∀ {x y : Hp} {i j : Nat} {a b : Addr} {o u : HO}, one a o = x → one b u = y → Dj x y → a ≠ b := fun e1 e2 d z => by
    subst e1 e2 z
    exact d _ _ _ one_same one_same
  have Sb := S5.2.2.2.2
  have Sa := Sb.2.2
  have Se := Sa.2.2
  have n1 : dr ≠ de := (k (i := 0) (j := 0) rfl rfl (Se.2.1 _ (List.mem_cons_self))).symm
  have n2 : da ≠ db := (k (i := 0) (j := 0) rfl rfl (Sb.2.1 _ (List.mem_cons_self))).symm
  have n3 : da ≠ dr := k (i := 0) (j := 0) rfl rfl (Sa.2.1 _ (List.mem_cons_of_mem _ List.mem_cons_self))
  have n4 : da ≠ de := k (i := 0) (j := 0) rfl rfl (Sa.2.1 _ List.mem_cons_self)
  have n5 : db ≠ dr := k (i := 0) (j := 0) rfl rfl (Sb.2.1 _ (List.mem_cons_of_mem _ (List.mem_cons_of_mem _ List.mem_cons_self)))
  have n6 : db ≠ de := k (i := 0) (j := 0) rfl rfl (Sb.2.1 _ (List.mem_cons_of_mem _ List.mem_cons_self))
  have S6 := S5.join2.join2.join2.join2
  refine h _ _ S6 ⟨p, dx, dr, de, da, db, rfl, ?_, ⟨[], ?_, trivial⟩, ⟨[], ?_, trivial⟩, n1, ⟨[], ?_, trivial⟩, ⟨[], ?_, trivial⟩, n2, n3, n4, n5, n6⟩
  · exact same_join_l _ _ (same_join_l _ _ (same_join_l _ _ (same_join_l _ _ one_same)))
  · exact same_join_r (St.dj (S5.join2.join2.join2.2.2)) _ _ one_same
  · exact same_join_l _ _ (same_join_r (St.dj (S5.join2.join2.2.2)) _ _ one_same)
  · exact same_join_l _ _ (same_join_l _ _ (same_join_r (St.dj (S5.join2.2.2)) _ _ one_same))
  · exact same_join_l _ _ (same_join_l _ _ (same_join_l _ _ (same_join_r (St.dj S5.2.2) _ _ one_same)))
end SB

namespace SB
open PySem PySem.Spec PyProof.Rows L2 Res
/-! ## loops over a list that the caller owns -/
section
variable {ω α β β' γ σT : Type} [Rep α] [Rep β] {A H : Hp} {a : Addr} {us : List V} {xs : List α} {ps : List (α × β)} {R : List Hp} {K : PySem.W.Frag} {Qr : γ → Prop} {Er : Exn → ω → Prop} {σ : L2.St} {D : Ends} {tu tz : TS} {j j1 j2 : Nat} {ta : TA} {tl : TE}
abbrev Stays (A : Hp) (a : Addr) (us : List V) (Rel : Hp → L2.St → List Hp → σT → Prop) : Prop := ∀ A' σ' R' s, Same A A' → Rel A' σ' R' s → ∃ n ∈ R', n a = some (.lst us)
theorem stays_at {Rel : Hp → L2.St → List Hp → σT → Prop} (h : Stays A a us Rel) {A' H' : Hp} {σ' : L2.St} {R' : List Hp} {s : σT} (e : Same A A') (S : St H' (A' :: R')) (r : Rel A' σ' R' s) : H' a = some (.lst us) := by
  obtain ⟨n, hn, h⟩ := h A' σ' R' s e r
  exact St.mem S.2.2 n hn _ _ h
theorem c_forX {s0 : σT} {body : α → σT → Res ω (Fl β' σT)} {f : Fl β' σT → Res ω γ} (Rel : Hp → L2.St → List Hp → σT → Prop)
    (S : St H (A :: R)) (htl : ∀ Q' : VK, Q' (.ref a) H → tl σ H Q') (h2 : OL A us xs) (hs : Stays A a us Rel) (h0 : Rel A σ R s0) (hm : (bind (forM body xs s0) f).wp Qr Er)
    (step : ∀ x w A' H' σ' R' s (C : σT → Prop) (N : L2.St → Hp → Prop), x ∈ xs → Same A A' → St H' (A' :: R') → Is A' w x → Rel A' σ' R' s →
      (∀ A'' H'' σ'' R'' s', Same A A'' → St H'' (A'' :: R'') → Rel A'' σ'' R'' s' → C s' → N σ'' H'') →
      (body x s).wp (fun r => match r with | .next s' => C s' | .ret y => (f (.ret y)).wp Qr Er) Er → tu { D with nx := N, ct := N, bk := D.nx } (σ'.set j (some w)) H')
    (done : ∀ A' H' σ' R' s, Same A A' → St H' (A' :: R') → Rel A' σ' R' s → (f (.next s)).wp Qr Er → D.nx σ' H') : tFor (iList K tl) (gName j) tu D σ H := by
  refine htl _ ⟨a, rfl, ⟨us, SqL.of (stays_at hs (Same.refl _) S h0)⟩, ?_⟩
  refine for_list (xs := us) (fun i σ' H' => ∃ A' R' s, Same A A' ∧ St H' (A' :: R') ∧ Rel A' σ' R' s ∧ (bind (forM body (xs.drop i) s) f).wp Qr Er) ⟨A, R, s0, Same.refl _, S, h0, hm⟩ (fun i σ' H' _ ⟨A', R', s, e, S', hr, _⟩ => SqL.of (stays_at hs e S' hr)) (fun i w σ' H' hi ⟨A', R', s, e, S', hr, hw⟩ => ?_) (fun σ' H' ⟨A', R', s, e, S', hr, hw⟩ => ?_)
  · obtain ⟨x, hxi, hxw⟩ := h2.1.getV hi
    rw [drop_of hxi] at hw
    exact step x w A' H' σ' R' s (fun s' => (bind (forM body (xs.drop (i + 1)) s') f).wp Qr Er) _ (List.mem_of_getElem? hxi) e S' (Rep.mono e hxw) hr (fun A'' H'' σ'' R'' s' e' S'' hr' hc => ⟨A'', R'', s', e', S'', hr', hc⟩) (wp_turn hw)
  · rw [h2.len, List.drop_length] at hw
    exact done A' H' σ' R' s e S' hr hw
theorem c_forXP {s0 : σT} {body : α × β → σT → Res ω (Fl β' σT)} {f : Fl β' σT → Res ω γ} (Rel : Hp → L2.St → List Hp → σT → Prop)
    (S : St H (A :: R)) (htl : ∀ Q' : VK, Q' (.ref a) H → tl σ H Q') (h2 : OL A us ps) (hs : Stays A a us Rel) (h0 : Rel A σ R s0) (hm : (bind (forM body ps s0) f).wp Qr Er)
    (step : ∀ x w1 w2 A' H' σ' R' s (C : σT → Prop) (N : L2.St → Hp → Prop), x ∈ ps → Same A A' → St H' (A' :: R') → Is A' w1 x.1 → Is A' w2 x.2 → Rel A' σ' R' s →
      (∀ A'' H'' σ'' R'' s', Same A A'' → St H'' (A'' :: R'') → Rel A'' σ'' R'' s' → C s' → N σ'' H'') →
      (body x s).wp (fun r => match r with | .next s' => C s' | .ret y => (f (.ret y)).wp Qr Er) Er → tu { D with nx := N, ct := N, bk := D.nx } ((σ'.set j1 (some w1)).set j2 (some w2)) H')
    (done : ∀ A' H' σ' R' s, Same A A' → St H' (A' :: R') → Rel A' σ' R' s → (f (.next s)).wp Qr Er → D.nx σ' H') : tFor (iList K tl) (gTup K 2 (gCons (gName j1) (gCons (gName j2) gNil))) tu D σ H := by
  refine htl _ ⟨a, rfl, ⟨us, SqL.of (stays_at hs (Same.refl _) S h0)⟩, ?_⟩
  refine for_list (xs := us) (fun i σ' H' => ∃ A' R' s, Same A A' ∧ St H' (A' :: R') ∧ Rel A' σ' R' s ∧ (bind (forM body (ps.drop i) s) f).wp Qr Er) ⟨A, R, s0, Same.refl _, S, h0, hm⟩ (fun i σ' H' _ ⟨A', R', s, e, S', hr, _⟩ => SqL.of (stays_at hs e S' hr)) (fun i w σ' H' hi ⟨A', R', s, e, S', hr, hw⟩ => ?_) (fun σ' H' ⟨A', R', s, e, S', hr, hw⟩ => ?_)
  · obtain ⟨x, hxi, hxw⟩ := h2.1.getV hi
    rw [drop_of hxi] at hw
    refine g_tupP S' (Rep.mono e hxw) fun u1 u2 k1 k2 => g_cons (g_name (g_cons (g_name (g_nil ?_))))
    exact step x u1 u2 A' H' σ' R' s (fun s' => (bind (forM body (ps.drop (i + 1)) s') f).wp Qr Er) _ (List.mem_of_getElem? hxi) e S' k1 k2 hr (fun A'' H'' σ'' R'' s' e' S'' hr' hc => ⟨A'', R'', s', e', S'', hr', hc⟩) (wp_turn hw)
  · rw [h2.len, List.drop_length] at hw
    exact done A' H' σ' R' s e S' hr hw
theorem c_forXE {s0 : σT} {body : Int × α → σT → Res ω (Fl β' σT)} {f : Fl β' σT → Res ω γ} (Rel : Hp → L2.St → List Hp → σT → Prop)
    (S : St H (A :: R)) (hta : ∀ Q' : List V → Hp → Prop, Q' [.ref a] H → ta σ H Q') (h2 : OL A us xs) (hs : Stays A a us Rel) (h0 : Rel A σ R s0) (hm : (bind (forM body (enumL xs) s0) f).wp Qr Er)
    (step : ∀ x w2 A' H' σ' R' s (C : σT → Prop) (N : L2.St → Hp → Prop), x ∈ enumL xs → Same A A' → St H' (A' :: R') → Is A' w2 x.2 → Rel A' σ' R' s →
      (∀ A'' H'' σ'' R'' s', Same A A'' → St H'' (A'' :: R'') → Rel A'' σ'' R'' s' → C s' → N σ'' H'') →
      (body x s).wp (fun r => match r with | .next s' => C s' | .ret y => (f (.ret y)).wp Qr Er) Er → tu { D with nx := N, ct := N, bk := D.nx } ((σ'.set j1 (some (.int x.1))).set j2 (some w2)) H')
    (done : ∀ A' H' σ' R' s, Same A A' → St H' (A' :: R') → Rel A' σ' R' s → (f (.next s)).wp Qr Er → D.nx σ' H') : tFor (iEnum K ta) (gTup K 2 (gCons (gName j1) (gCons (gName j2) gNil))) tu D σ H := by
  refine hta _ ⟨a, us, rfl, SqL.of (stays_at hs (Same.refl _) S h0), ?_⟩
  refine ⟨fun i m σ' H' => i + m = xs.length ∧ ∃ A' R' s, Same A A' ∧ St H' (A' :: R') ∧ Rel A' σ' R' s ∧ (bind (forM body ((enumL xs).drop i) s) f).wp Qr Er, ⟨xs.length, by omega, A, R, s0, Same.refl _, S, h0, hm⟩, ?_⟩
  rintro i m σ' H' ⟨him, A', R', s, e, S', hr, hw⟩
  have hq : SqL K H' a us := SqL.of (stays_at hs e S' hr)
  by_cases hi : i < xs.length
  · have hxi : xs[i]? = some xs[i] := List.getElem?_eq_getElem hi
    obtain ⟨u, hu, hxu⟩ := h2.1.get hxi
    refine .inr ⟨⟨us, u, hq, hu⟩, fun σ2 H2 => ∃ A' R' s, Same A A' ∧ St H2 (A' :: R') ∧ Rel A' σ2 R' s ∧ (bind (forM body ((enumL xs).drop (i + 1)) s) f).wp Qr Er, fun σ2 H2 h => ⟨m - 1, by omega, by omega, h⟩, ?_⟩
    rintro y H2 ⟨Tp, z, rfl, hT, rfl, hz⟩
    have ez : z = u := Option.some.inj ((hz us hq).symm.trans hu)
    subst ez
    refine g_tup upd_same rfl (g_cons (g_name (g_cons (g_name (g_nil ?_)))))
    have hg := enum_get hxi
    rw [drop_of hg] at hw
    exact step ((i : Int), xs[i]) z A' _ σ' R' s (fun s' => (bind (forM body ((enumL xs).drop (i + 1)) s') f).wp Qr Er) _ (List.mem_of_getElem? hg) e (S'.grow (same_upd hT)) (Rep.mono e hxu) hr (fun A'' H'' σ'' R'' s' e' S'' hr' hc => ⟨A'', R'', s', e', S'', hr', hc⟩) (wp_turn hw)
  · refine .inl ⟨⟨us, hq, by rw [h2.len]; omega⟩, ?_⟩
    rw [List.drop_eq_nil_of_le (by rw [enum_len]; omega)] at hw
    exact done A' H' σ' R' s e S' hr hw
end
/-! ## while whose test changes objects -/
def whileS {ω β σT : Type} (test : σT → Res ω (Bool × σT)) (body : σT → Res ω (Fl β σT)) : Nat → σT → Res ω (Fl β σT)
  | 0, _ => .bad
  | n + 1, s => bind (test s) fun b => if b.1 = true then bind (body b.2) fun r => (match r with
      | .next s' => whileS test body n s'
      | .ret y => .ok (.ret y)) else .ok (.next b.2)
section
variable {ω β' γ σT : Type} {A H : Hp} {R : List Hp} {Qr : γ → Prop} {Er : Exn → ω → Prop}
theorem bind_assoc {ω α β γ : Type} {m : Res ω α} {f : α → Res ω β} {g : β → Res ω γ} : bind (bind m f) g = bind m fun a => bind (f a) g := by
  cases m <;> rfl
theorem c_whileS {σ : L2.St} {tc : TT} {tu : TS} {D : Ends} {s0 : σT} {test : σT → Res ω (Bool × σT)} {body : σT → Res ω (Fl β' σT)} {f : Fl β' σT → Res ω γ} {n : Nat} (Rel : Hp → L2.St → List Hp → σT → Prop)
    (S : St H (A :: R)) (h0 : Rel A σ R s0) (hm : (bind (whileS test body n s0) f).wp Qr Er)
    (step : ∀ A' H' σ' R' s (C : Bool × σT → Prop) (P : Bool → Hp → Prop), Same A A' → St H' (A' :: R') → Rel A' σ' R' s →
      (∀ b s' A'' H'' R'', Same A A'' → St H'' (A'' :: R'') → Rel A'' σ' R'' s' → C (b, s') → P b H'') → (test s).wp C Er → tc σ' H' P)
    (turn : ∀ A' H' σ' R' s (C : σT → Prop) (N : L2.St → Hp → Prop), Same A A' → St H' (A' :: R') → Rel A' σ' R' s →
      (∀ A'' H'' σ'' R'' s', Same A A'' → St H'' (A'' :: R'') → Rel A'' σ'' R'' s' → C s' → N σ'' H'') →
      (body s).wp (fun r => match r with | .next s' => C s' | .ret y => (f (.ret y)).wp Qr Er) Er → tu { D with nx := N, ct := N, bk := D.nx } σ' H')
    (done : ∀ A' H' σ' R' s, Same A A' → St H' (A' :: R') → Rel A' σ' R' s → (f (.next s)).wp Qr Er → D.nx σ' H') : tWhile tc tu D σ H := by
  refine ⟨fun m σ' H' => ∃ A' R' s, Same A A' ∧ St H' (A' :: R') ∧ Rel A' σ' R' s ∧ (bind (whileS test body m s) f).wp Qr Er, ⟨n, A, R, s0, Same.refl _, S, h0, hm⟩, ?_⟩
  rintro m σ' H' ⟨A', R', s, e, S', hr, hw⟩
  cases m with
  | zero => exact hw.elim
  | succ m =>
    unfold whileS at hw
    rw [bind_assoc] at hw
    refine step A' H' σ' R' s _ _ e S' hr (fun b s1 A'' H'' R'' e' S'' hr' hc => ?_) (wp_bind hw)
    cases b with
    | false => exact done A'' H'' σ' R'' s1 e' S'' hr' hc
    | true =>
      show ∃ N, _
      refine ⟨fun σ2 H2 => ∃ A2 R2 s', Same A A2 ∧ St H2 (A2 :: R2) ∧ Rel A2 σ2 R2 s' ∧ (bind (whileS test body m s') f).wp Qr Er, fun σ2 H2 h => ⟨m, Nat.lt_succ_self m, h⟩, ?_⟩
      refine turn A'' H'' σ' R'' s1 (fun s' => (bind (whileS test body m s') f).wp Qr Er) _ e' S'' hr' (fun A3 H3 σ3 R3 s' e3 S3 hr3 hc3 => ⟨A3, R3, s', e3, S3, hr3, hc3⟩) ?_
      have hc : (bind (bind (body s1) fun r => (match r with
        | .next s' => whileS test body m s'
        | .ret y => .ok (.ret y))) f).wp Qr Er := hc
      rw [bind_assoc] at hc
      refine wp_mono (wp_bind hc) (fun r h => ?_) (fun _ _ h => h)
      cases r <;> exact h
end
section
variable {α : Type} [Rep α] {A : Hp} {v : V} {ws : List V}
theorem all2_none : ∀ {ws : List V} {xs : List Unit}, All2 (Rep.is A) ws xs → All2 (Rep.is A) ws (xs.map fun _ => (none : Option α))
  | [], [], _ => trivial
  | _ :: _, _ :: _, h => ⟨h.1, all2_none h.2⟩
  | [], _ :: _, h => h.elim
  | _ :: _, [], h => h.elim
theorem ol_none {xs : List Unit} (h : OL A ws xs) : OL A ws (xs.map fun _ => (none : Option α)) := ⟨all2_none h.1, by rw [List.length_map]; exact h.2⟩
theorem is_nones {xs : List Unit} (h : Is A v xs) : Is A v (xs.map fun _ => (none : Option α)) := by
  obtain ⟨a, vs, h1, h2, h3⟩ := h
  exact ⟨a, vs, h1, h2, ol_none h3⟩
end
/-! ## try whose clauses may return -/
def tryR {ωb ω β σT : Type} (mb : Res ωb σT) (mh : Exn → ωb → Res ω (Fl β σT)) : Res ω (Fl β σT) := match mb with
  | .ok s => .ok (.next s)
  | .ex e w => mh e w
  | .bad => .bad
section
variable {ωb ω β' γ σT : Type} {A H : Hp} {Qr : γ → Prop} {Er : Exn → ω → Prop} {T : Cs} {K : PySem.W.Frag} {Wout : WX} {tb : WX → TS} {l : List Cla} {u : TS} {D : Ends} {σ : L2.St} {mb : Res ωb σT} {mh : Exn → ωb → Res ω (Fl β' σT)} {f : Fl β' σT → Res ω γ}
abbrev TryHR (T : Cs) (A : Hp) (K : PySem.W.Frag) (Wout : WX) (D : Ends) (l : List Cla) (mh : Exn → ωb → Res ω (Fl β' σT)) (Er : Exn → ω → Prop) (P : β' → Prop) (Rel : Hp → L2.St → List Hp → σT → Prop) (RelX : Hp → L2.St → List Hp → ωb → Prop) : Prop :=
  ∀ (C : σT → Prop) (N : L2.St → Hp → Prop), (∀ A' H' σ' R' s, Same A A' → St H' (A' :: R') → Rel A' σ' R' s → C s → N σ' H') →
    ∀ A' B' H' σ' R' w e cls d, Same A A' → Same A' B' → St H' (B' :: R') → RelX A' σ' R' w → XA T e cls d A' B' → (mh e w).wp (fun r => match r with | .next s => C s | .ret y => P y) Er → wCl K Wout { D with nx := N } l cls d σ' H'
theorem try_goR (Rel : Hp → L2.St → List Hp → σT → Prop) (RelX : Hp → L2.St → List Hp → ωb → Prop) {C : σT → Prop} {P : β' → Prop} {N : L2.St → Hp → Prop} (hm : (tryR mb mh).wp (fun r => match r with | .next s => C s | .ret y => P y) Er) (h1 : TryB T A H σ D tb mb Rel RelX) (h2 : TryHR T A K Wout D l mh Er P Rel RelX)
    (h3 : ∀ A' H' σ' R' s, Same A A' → St H' (A' :: R') → Rel A' σ' R' s → C s → N σ' H') : tTry K Wout tb l { D with nx := N } σ H := by
  refine h1 C (fun e w => (mh e w).wp (fun r => match r with | .next s => C s | .ret y => P y) Er) _ N h3 (fun A' B' H' σ' R' w e cls d g g' S r x c => h2 C N h3 A' B' H' σ' R' w e cls d g g' S r x c) ?_
  cases mb <;> exact hm
theorem fl_of (hm : (bind (tryR mb mh) f).wp Qr Er) : (tryR mb mh).wp (fun r => match r with | .next s => (f (.next s)).wp Qr Er | .ret y => (f (.ret y)).wp Qr Er) Er :=
  wp_mono (wp_bind hm) (fun r h => by cases r <;> exact h) fun _ _ h => h
theorem q_tryR (Rel : Hp → L2.St → List Hp → σT → Prop) (RelX : Hp → L2.St → List Hp → ωb → Prop) (hm : (bind (tryR mb mh) f).wp Qr Er) (h1 : TryB T A H σ D tb mb Rel RelX) (h2 : TryHR T A K Wout D l mh Er (fun y => (f (.ret y)).wp Qr Er) Rel RelX)
    (h3 : ∀ A' H' σ' R' s, Same A A' → St H' (A' :: R') → Rel A' σ' R' s → (f (.next s)).wp Qr Er → u D σ' H') : Evl.tCut (tTry K Wout tb l) u D σ H :=
  ⟨fun σ' H' => ∃ A' R' s, Same A A' ∧ St H' (A' :: R') ∧ Rel A' σ' R' s ∧ (f (.next s)).wp Qr Er, try_goR Rel RelX (C := fun s => (f (.next s)).wp Qr Er) (fl_of hm) h1 h2 fun A' H' σ' R' s e S r w => ⟨A', R', s, e, S, r, w⟩, fun σ' H' ⟨A', R', s, e, S, r, w⟩ => h3 A' H' σ' R' s e S r w⟩
end
theorem c_lenT {K : PySem.W.Frag} {α β : Type} [Rep α] [Rep β] {A H : Hp} {R : List Hp} {Q : VK} {v : V} {x : α × β} (S : St H (A :: R)) (h : Is A v x) (k : Q (.int 2) H) : Evl.rLenS K [v] H Q := by
  obtain ⟨a, u, w, rfl, h2, _⟩ := h
  exact ⟨a, _, rfl, .inr (SqT.of (S.1 _ _ h2)), k⟩
theorem c_lenTp {K : PySem.W.Frag} {A H : Hp} {R : List Hp} {Q : VK} {a : Addr} {vs : List V} (S : St H (A :: R)) (h : A a = some (.tup vs)) (k : Q (.int vs.length) H) : Evl.rLenS K [.ref a] H Q := ⟨a, _, rfl, .inr (SqT.of (S.1 _ _ h)), k⟩
end SB

namespace SB
open PySem PySem.Spec PyProof.Rows L2 Res
/-! ## several names at once -/
section
variable {σ : L2.St} {H : Hp} {D : Ends} {tz : TS} {i j l : Nat} {ta : TA}
theorem q_par (h : ta σ H fun vs H1 => ∃ v w, vs = [v, w] ∧ tz D ((σ.set i (some v)).set j (some w)) H1) : tSeq (tPar i j ta) tz D σ H := h
theorem s_par (h : ta σ H fun vs H1 => ∃ v w, vs = [v, w] ∧ D.nx ((σ.set i (some v)).set j (some w)) H1) : tPar i j ta D σ H := h
theorem q_par3 (h : ta σ H fun vs H1 => ∃ u v w, vs = [u, v, w] ∧ tz D (((σ.set i (some u)).set j (some v)).set l (some w)) H1) : tSeq (tPar3 i j l ta) tz D σ H := h
theorem s_par3 (h : ta σ H fun vs H1 => ∃ u v w, vs = [u, v, w] ∧ D.nx (((σ.set i (some u)).set j (some v)).set l (some w)) H1) : tPar3 i j l ta D σ H := h
end
theorem opt_lst {β : Type} [Rep β] {A : Hp} {v : V} {xs : List β} (h : Is A v xs) : Is A v (some xs) := by
  obtain ⟨a, us, rfl, h1, h2⟩ := h
  exact ⟨fun z => (nomatch z), a, us, rfl, h1, h2⟩
/-! ## tuples of numbers, of any length -/
structure Tpl where
  l : List Int
  deriving DecidableEq
instance instTpl : Rep Tpl := ⟨fun A v x => ∃ a, v = .ref a ∧ A a = some (.tup (x.l.map V.int)), fun e ⟨a, h1, h2⟩ => ⟨a, h1, e _ _ h2⟩⟩
theorem all2_ints {A : Hp} : ∀ ns : List Int, All2 (Rep.is A) (ns.map V.int) ns
  | [] => trivial
  | _ :: ns => ⟨rfl, all2_ints ns⟩
instance instDTpl : RepD Tpl where
  D := fun x => .tuple (x.l.map RepD.D)
  dp := fun {K A H v x} e h => by
    obtain ⟨a, h1, h2⟩ := h
    subst h1
    exact .tup (SqT.of (e _ _ h2)) (dpAll_of e (all2_ints x.l))
  deep := 1
  shp := fun x => by
    obtain ⟨h1, h2⟩ := lay_all x.l
    exact ⟨h1, Nat.succ_le_succ h2⟩
  eqv := fun x y => (eqv_all x.l y.l).trans ⟨fun h => by
    cases x
    cases y
    exact congrArg Tpl.mk h, fun h => by rw [h]⟩
instance : NN Tpl := ⟨fun _ h => nomatch h⟩
instance instDTri {α β γ : Type} [RepD α] [RepD β] [RepD γ] : RepD (Tri α β γ) where
  D := fun x => .tuple [RepD.D x.a, RepD.D x.b, RepD.D x.c]
  dp := fun e ⟨p, u, w, z, h1, h2, h3, h4, h5⟩ => by
    subst h1
    exact .tup (SqT.of (e _ _ h2)) (.cons (RepD.dp e h3) (.cons (RepD.dp e h4) (.cons (RepD.dp e h5) .nil)))
  deep := max (RepD.deep (α := α)) (max (RepD.deep (α := β)) (RepD.deep (α := γ))) + 1
  shp := fun x => by
    obtain ⟨h1, h2⟩ := RepD.shp x.a
    obtain ⟨k1, k2⟩ := RepD.shp x.b
    obtain ⟨j1, j2⟩ := RepD.shp x.c
    constructor
    · show (PyData.canLay0 (RepD.D x.a) && (PyData.canLay0 (RepD.D x.b) && (PyData.canLay0 (RepD.D x.c) && true))) = true
      rw [h1, k1, j1]
      rfl
    · show max (PyData.depth (RepD.D x.a)) (max (PyData.depth (RepD.D x.b)) (max (PyData.depth (RepD.D x.c)) 0)) + 1 ≤ _
      omega
  eqv := fun x y => by
    show (PyData.eqv (RepD.D x.a) (RepD.D y.a) && (PyData.eqv (RepD.D x.b) (RepD.D y.b) && (PyData.eqv (RepD.D x.c) (RepD.D y.c) && true))) = true ↔ _
    rw [Bool.and_true, Bool.and_eq_true, Bool.and_eq_true, RepD.eqv, RepD.eqv, RepD.eqv]
    exact ⟨fun ⟨h1, h2, h3⟩ => by
      cases x
      cases y
      rw [Tri.mk.injEq]
      exact ⟨h1, h2, h3⟩, fun h => by rw [h]; exact ⟨rfl, rfl, rfl⟩⟩
instance {α β γ : Type} [RepD α] [RepD β] [RepD γ] : NN (Tri α β γ) := ⟨fun _ h => nomatch h⟩
@[irreducible] def catTR {ω : Type} (x y : Tpl) : Res ω Tpl := if x.l.length + y.l.length ≤ sizeLine then .ok (Tpl.mk (x.l ++ y.l)) else .bad
def agtT (l : List (Tpl × Int)) (k : Tpl) : Option Int := (l.find? fun p => decide (p.1 = k)).map (·.2)
def aputT (l : List (Tpl × Int)) (k : Tpl) (x : Int) : List (Tpl × Int) := if (l.any fun p => decide (p.1 = k)) = true then l.map (fun p => if p.1 = k then (p.1, x) else p) else l ++ [(k, x)]
@[irreducible] def agTR {ω : Type} (l : List (Tpl × Int)) (k : Tpl) : Res ω Int := match agtT l k with
  | some x => .ok x
  | none => .bad
@[irreducible] def aputTR {ω : Type} (l : List (Tpl × Int)) (k : Tpl) (x : Int) : Res ω (List (Tpl × Int)) := if l.length < sizeLine then .ok (aputT l k x) else .bad
def kT (t : Tpl) : List Key := t.l.map Sum.inl
theorem inl_list : ∀ {a b : List Int}, a.map (Sum.inl : Int → Key) = b.map Sum.inl → a = b
  | [], [], _ => rfl
  | [], _ :: _, h => by cases h
  | _ :: _, [], h => by cases h
  | x :: a, y :: b, h => by
    rw [List.map_cons, List.map_cons] at h
    injection h with h1 h2
    rw [Sum.inl.inj h1, inl_list h2]
theorem kT_inj {a b : Tpl} : kT a = kT b ↔ a = b := ⟨fun h => by
  cases a
  cases b
  refine congrArg Tpl.mk ?_
  unfold kT at h
  exact inl_list h, fun h => by rw [h]⟩
theorem kT_v (t : Tpl) : (kT t).map kV = t.l.map V.int := by
  unfold kT
  rw [List.map_map]
  rfl
def DT (A : Hp) (kvs : List (List Key × V)) (l : List (Tpl × Int)) : Prop := kvs = l.map fun q => (kT q.1, V.int q.2)
theorem dt_nil {A : Hp} : DT A [] ([] : List (Tpl × Int)) := rfl
theorem DT.up {A B : Hp} {kvs : List (List Key × V)} {l : List (Tpl × Int)} (h : DT A kvs l) (_ : Same A B) : DT B kvs l := h
theorem dt_val {k : Tpl} : ∀ l : List (Tpl × Int), valV (l.map fun q => (kT q.1, V.int q.2)) (kT k) = (agtT l k).map V.int
  | [] => rfl
  | q :: l => by
    have ih := dt_val (k := k) l
    rw [List.map_cons]
    unfold agtT at ih ⊢
    rw [List.find?_cons]
    by_cases c : q.1 = k
    · rw [valV_pos (by rw [c]), decide_eq_true c]
      rfl
    · rw [valV_neg (fun z => c (kT_inj.mp z)), decide_eq_false c]
      exact ih
theorem dt_put {k : Tpl} {x : Int} (l : List (Tpl × Int)) : putK (l.map fun q => (kT q.1, V.int q.2)) (kT k) (V.int x) = (aputT l k x).map fun q => (kT q.1, V.int q.2) := by
  unfold putK aputT
  have e : ((l.map fun q => (kT q.1, V.int q.2)).any fun kv => decide (kv.1 = kT k)) = l.any fun p => decide (p.1 = k) := by
    rw [List.any_map]
    refine congrArg (List.any l) (funext fun q => ?_)
    exact decide_eq_decide.mpr kT_inj
  rw [e]
  by_cases c : (l.any fun p => decide (p.1 = k)) = true
  · rw [if_pos c, if_pos c, List.map_map, List.map_map]
    refine List.map_congr_left fun q _ => ?_
    show (if kT q.1 = kT k then (kT q.1, V.int x) else (kT q.1, V.int q.2)) = (kT (if q.1 = k then (q.1, x) else q).1, V.int (if q.1 = k then (q.1, x) else q).2)
    by_cases c : q.1 = k
    · rw [if_pos (kT_inj.mpr c), if_pos c]
    · rw [if_neg (fun z => c (kT_inj.mp z)), if_neg c]
  · rw [if_neg c, if_neg c, List.map_append]
    rfl
section
variable {ω γ : Type} {H A : Hp} {R : List Hp} {Q : VK} {K : PySem.W.Frag} {σ : L2.St} {d : Addr} {kvs : List (List Key × V)} {l : List (Tpl × Int)} {x y : Tpl} {v u : V} {Qr : γ → Prop} {Er : Exn → ω → Prop}
theorem c_dnewT (S : St H (A :: R)) (k : ∀ p H', St H' (A :: one p (.dT []) :: R) → Q (.ref p) H') : tDNewT σ H Q := fun p hp => k p _ (S.newM hp)
theorem d_getT {f : Int → Res ω γ} (S : St H (A :: R)) (hx : Is A v x) (hd : H d = some (.dT kvs)) (hk : DT A kvs l) (hm : (bind (agTR l x) f).wp Qr Er) (k : ∀ n : Int, (f n).wp Qr Er → Q (.int n) H) : DGetV (.ref d) v H Q := by
  obtain ⟨a, rfl, h1⟩ := hx
  unfold agTR at hm
  cases e : agtT l x with
  | none =>
    rw [e] at hm
    exact hm.elim
  | some n =>
    rw [e] at hm
    refine ⟨d, .int n, rfl, ?_, k n hm⟩
    have := DGet.t (k := kT x) hd (by rw [kT_v]; exact S.1 _ _ h1)
    rw [show kvs = _ from hk, dt_val, e] at this
    exact this
theorem d_putT {N : Hp → Prop} {n : Int} {f : List (Tpl × Int) → Res ω γ} (S : St H (A :: R)) (hx : Is A v x) (hd : H d = some (.dT kvs)) (hk : DT A kvs l) (hm : (bind (aputTR l x n) f).wp Qr Er) (k : ∀ kvs' l', (f l').wp Qr Er → DT A kvs' l' → N (upd H d (.dT kvs'))) : DPutV (.ref d) v (.int n) H N := by
  obtain ⟨a, rfl, h1⟩ := hx
  unfold aputTR at hm
  by_cases c : l.length < sizeLine
  · rw [if_pos c] at hm
    refine ⟨d, _, rfl, DPut.t (k := kT x) hd (by rw [kT_v]; exact S.1 _ _ h1) (by rw [show kvs = _ from hk, List.length_map]; exact c), k _ _ hm ?_⟩
    rw [show kvs = _ from hk]
    exact dt_put l
  · rw [if_neg c] at hm
    exact hm.elim
theorem c_tpl {ns : List Int} {vs : List V} (S : St H (A :: R)) (hv : vs = ns.map V.int) (hz : vs.length ≤ 1000) (k : ∀ p A' H', Same A A' → St H' (A' :: R) → Is A' (.ref p) (Tpl.mk ns) → Q (.ref p) H') : NewT Q vs H := by
  subst hv
  exact c_tupN S hz fun p A' H' e S' h => k p A' H' e S' ⟨p, rfl, h⟩
theorem c_lenTpl (S : St H (A :: R)) (h : Is A v x) (k : Q (.int (x.l.length : Int)) H) : Evl.rLenS K [v] H Q := by
  obtain ⟨a, rfl, h1⟩ := h
  refine ⟨a, _, rfl, .inr (SqT.of (S.1 _ _ h1)), ?_⟩
  rw [List.length_map]
  exact k
theorem c_ixTpl {i : Int} {f : Int → Res ω γ} (S : St H (A :: R)) (h : Is A v x) (hm : (bind (ixR x.l i) f).wp Qr Er) (k : ∀ n : Int, (f n).wp Qr Er → Q (.int n) H) : rIxT K v (.int i) H Q := by
  obtain ⟨a, rfl, h1⟩ := h
  unfold ixR at hm
  cases e : atI x.l i with
  | none =>
    rw [e] at hm
    exact hm.elim
  | some n =>
    rw [e] at hm
    obtain ⟨w, h3, h4⟩ := at_all (all2_ints (A := A) x.l) e
    obtain rfl : w = .int n := h4
    exact ⟨a, _, i, _, rfl, rfl, SqT.of (S.1 _ _ h1), h3, k n hm⟩
theorem c_catT {f : Tpl → Res ω γ} (S : St H (A :: R)) (hx : Is A v x) (hy : Is A u y) (hm : (bind (catTR x y) f).wp Qr Er) (k : ∀ z w A' H', Same A A' → St H' (A' :: R) → Is A' w z → (f z).wp Qr Er → Q w H') : rCatA K v u H Q := by
  obtain ⟨a, rfl, h1⟩ := hx
  obtain ⟨b, rfl, h2⟩ := hy
  unfold catTR at hm
  by_cases c : x.l.length + y.l.length ≤ sizeLine
  · rw [if_pos c] at hm
    refine ⟨a, b, _, _, rfl, rfl, SqT.of (S.1 _ _ h1), SqT.of (S.1 _ _ h2), by rw [List.length_map, List.length_map]; exact c, fun z => ?_, fun _ z => ?_, fun _ _ p hp => ?_⟩
    · refine k _ _ A H (Same.refl _) S ⟨b, rfl, ?_⟩ hm
      rw [List.map_append, z]
      exact h2
    · refine k _ _ A H (Same.refl _) S ⟨a, rfl, ?_⟩ hm
      rw [List.map_append, z, List.append_nil]
      exact h1
    · refine k _ _ _ _ (same_upd (S.1.free hp)) (S.new hp) ⟨p, rfl, ?_⟩ hm
      rw [List.map_append]
      exact upd_same
  · rw [if_neg c] at hm
    exact hm.elim
theorem cut_map (ns : List Int) (lo hi : Option Int) : cutV (ns.map V.int) lo hi = (cutL ns lo hi).map V.int := by
  unfold cutV cutL
  rw [List.map_take, List.map_drop, List.length_map]
theorem c_sliceT {lo hi : Option Int} (S : St H (A :: R)) (hx : Is A v x) (k : ∀ w A' H', Same A A' → St H' (A' :: R) → Is A' w (Tpl.mk (cutL x.l lo hi)) → Q w H') : rSlA K v lo hi H Q := by
  obtain ⟨a, rfl, h1⟩ := hx
  refine ⟨a, _, rfl, SqT.of (S.1 _ _ h1), fun z => ?_, fun _ p hp => ?_⟩
  · refine k _ A H (Same.refl _) S ⟨a, rfl, ?_⟩
    rw [List.length_map] at z
    show A a = some (.tup ((cutL x.l lo hi).map V.int))
    unfold cutL
    rw [z.1, z.2, List.drop_zero, Nat.sub_zero, List.take_length]
    exact h1
  · refine k _ _ _ (same_upd (S.1.free hp)) (S.new hp) ⟨p, rfl, ?_⟩
    rw [cut_map]
    exact upd_same
end
end SB
namespace SB
open PySem PySem.Spec PyProof.Rows L2 Res
/-! ## comprehensions over a range by steps -/
theorem lc_rangeC {lo c : Int} {n : Nat} {g : TG} {tt : TT} {te : TE} {vs : List Nat} {σ : L2.St} {H1 : Hp} {D : Addr} {Qd : Hp → Prop} (Pv : Nat → Hp → Prop) (h0 : Pv 0 (upd H1 D (.lst [])))
    (hs : ∀ i H, i < n → Pv i H → g (.int (lo + (i : Nat) * c)) (wipe σ vs) H fun σ2 H2 => wipe σ2 vs = wipe σ vs ∧ tt σ2 H2 fun b H3 =>
      if b = true then te σ2 H3 fun y H4 => ∃ acc, H4 D = some (.lst acc) ∧ acc.length < sizeLine ∧ Pv (i + 1) (upd H4 D (.lst (acc ++ [y]))) else Pv (i + 1) H3) (hd : ∀ H, Pv n H → Qd H) :
    ∃ W : Nat → Nat → Hp → Prop, (∃ m, W 0 m (upd H1 D (.lst []))) ∧ ∀ i m H, W i m H →
      ((Itc lo c n).stop i H ∧ Qd H) ∨ ((Itc lo c n).go i H ∧ ∃ Nx : Hp → Prop, (∀ H', Nx H' → ∃ m', m' < m ∧ W (i + 1) m' H') ∧ ∀ x H', (Itc lo c n).yld i H x H' → g x (wipe σ vs) H' fun σ2 H2 => wipe σ2 vs = wipe σ vs ∧ tt σ2 H2 fun b H3 =>
        if b = true then te σ2 H3 fun y H4 => ∃ acc, H4 D = some (.lst acc) ∧ acc.length < sizeLine ∧ Nx (upd H4 D (.lst (acc ++ [y]))) else Nx H3) := by
  refine ⟨fun i m H => m = n - i ∧ i ≤ n ∧ Pv i H, ⟨n, by simp, Nat.zero_le _, h0⟩, ?_⟩
  rintro i m H ⟨rfl, hi, p⟩
  by_cases hlt : i < n
  · refine .inr ⟨hlt, Pv (i + 1), fun H' p' => ⟨n - (i + 1), by omega, rfl, hlt, p'⟩, fun x H' y => ?_⟩
    obtain ⟨e, y⟩ := y
    subst e y
    exact hs i _ hlt p
  · have e : i = n := by omega
    subst e
    exact .inl ⟨Nat.le_refl _, hd _ p⟩
section
variable {ω β γ σT : Type} [Rep β] {A H : Hp} {R : List Hp} {Q : VK} {Qr : γ → Prop} {Er : Exn → ω → Prop}
theorem c_lcER3 {σ : L2.St} {ta : TA} {g : TG} {tt : TT} {te : TE} {vs : List Nat} (h : ta σ H fun us H1 => tLc (iRng3 (tArgs us)) g tt te vs σ H1 Q) : tLc (iRng3 ta) g tt te vs σ H Q := h
theorem c_lcGR3 {σ : L2.St} {ta : TA} {tt : TT} {te : TE} {j : Nat} {vs : List Nat} {lo hi c : Int} {s0 : σT} {body : Int → σT → Res ω (Option β × σT)} {f : List β × σT → Res ω γ} (Rel : Hp → List Hp → σT → Prop)
    (S : St H (A :: R)) (hta : ∀ Q' : List V → Hp → Prop, Q' [.int lo, .int hi, .int c] H → ta σ H Q') (h0 : Rel A R s0) (hm : (bind (bind (rg3R lo hi c) fun l => compG body l s0) f).wp Qr Er) (hw : ∀ x, wipe ((wipe σ vs).set j (some x)) vs = wipe σ vs)
    (step : StepG A tt te (fun w => (wipe σ vs).set j (some w)) body Rel (fun w x _ => x ∈ stepL lo c ((hi - lo + 1) / 2).toNat ∧ w = .int x))
    (k : ∀ p A' H' R' ws y, (f y).wp Qr Er → Same A A' → St H' (A' :: one p (.lst ws) :: R') → Rel A' R' y.2 → OL A' ws y.1 → Q (.ref p) H') : tLc (iRng3 ta) (gName j) tt te vs σ H Q := by
  unfold rg3R at hm
  by_cases hz : c = 2 ∧ -1000000 ≤ lo ∧ lo ≤ 1000000 ∧ -1000000 ≤ hi ∧ hi ≤ 1000000
  case neg =>
    rw [if_neg hz] at hm
    exact hm.elim
  rw [if_pos hz] at hm
  obtain ⟨rfl, hc⟩ := hz
  generalize hn : ((hi - lo + 1) / 2).toNat = n at hm step
  have hm : (bind (compG body (stepL lo 2 n) s0) f).wp Qr Er := hm
  have hsz : (1000001 : Nat) < sizeLine := by decide
  have hlen : (stepL lo 2 n).length = n := by unfold stepL; rw [List.length_map, List.length_range]
  have hnl : n ≤ 1000001 := by omega
  refine hta _ ⟨lo, hi, 2, n, rfl, ⟨by decide, by decide, small_of hc, by rw [← hn]; exact size2 lo hi⟩, fun Dl hD => ?_⟩
  refine lc_rangeC (CgP A Rel body f Qr Er (stepL lo 2 n) Dl) ⟨A, R, [], [], s0, Same.refl _, S.newM hD, h0, trivial, Nat.le_refl _, hm⟩ (fun i H' hi p => ?_) (fun H' p => ?_)
  · have hxi : (stepL lo 2 n)[i]? = some (lo + (i : Int) * 2) := stepL_get hi
    exact ⟨hw _, cg_turn step hxi (Nat.lt_of_le_of_lt (by omega) hsz) (fun A' e => ⟨List.mem_of_getElem? hxi, rfl⟩) p⟩
  · obtain ⟨A', R', ws, ys, s, e, S', hr, hv, hl, hc⟩ := p
    rw [List.drop_of_length_le (by rw [hlen]; exact Nat.le_refl _)] at hc
    have hc : (f (ys ++ [], s)).wp Qr Er := hc
    rw [List.append_nil] at hc
    exact k Dl A' H' R' ws (ys, s) hc e S' hr ⟨hv, Nat.le_trans hl (Nat.le_of_lt (Nat.lt_of_le_of_lt (by omega) hsz))⟩
end
end SB
namespace SB
open PySem PySem.Spec PyProof.Rows L2 Res
/-! ## the greatest and the least of a list -/
def maxL (l : List Int) : Int := l.foldl (fun a b => if a < b then b else a) (l.headD 0)
def minL (l : List Int) : Int := l.foldl (fun a b => if b < a then b else a) (l.headD 0)
theorem max_fold : ∀ (l : List Int) (a : Int), (l.foldl (fun a b => if a < b then b else a) a = a ∨ l.foldl (fun a b => if a < b then b else a) a ∈ l) ∧ a ≤ l.foldl (fun a b => if a < b then b else a) a ∧ ∀ y ∈ l, y ≤ l.foldl (fun a b => if a < b then b else a) a
  | [], a => ⟨.inl rfl, Int.le_refl _, fun _ h => (nomatch h)⟩
  | x :: l, a => by
    have h := max_fold l (if a < x then x else a)
    rw [List.foldl_cons]
    generalize l.foldl (fun a b => if a < b then b else a) (if a < x then x else a) = M at h ⊢
    obtain ⟨h1, h2, h3⟩ := h
    by_cases c : a < x
    · rw [if_pos c] at h1 h2
      refine ⟨.inr (h1.elim (fun e => by rw [e]; exact List.mem_cons_self) (List.mem_cons_of_mem _)), by omega, fun y hy => ?_⟩
      cases hy with
      | head => exact h2
      | tail _ hy => exact h3 y hy
    · rw [if_neg c] at h1 h2
      refine ⟨h1.elim .inl fun e => .inr (List.mem_cons_of_mem _ e), h2, fun y hy => ?_⟩
      cases hy with
      | head => omega
      | tail _ hy => exact h3 y hy
theorem min_fold : ∀ (l : List Int) (a : Int), (l.foldl (fun a b => if b < a then b else a) a = a ∨ l.foldl (fun a b => if b < a then b else a) a ∈ l) ∧ l.foldl (fun a b => if b < a then b else a) a ≤ a ∧ ∀ y ∈ l, l.foldl (fun a b => if b < a then b else a) a ≤ y
  | [], a => ⟨.inl rfl, Int.le_refl _, fun _ h => (nomatch h)⟩
  | x :: l, a => by
    have h := min_fold l (if x < a then x else a)
    rw [List.foldl_cons]
    generalize l.foldl (fun a b => if b < a then b else a) (if x < a then x else a) = M at h ⊢
    obtain ⟨h1, h2, h3⟩ := h
    by_cases c : x < a
    · rw [if_pos c] at h1 h2
      refine ⟨.inr (h1.elim (fun e => by rw [e]; exact List.mem_cons_self) (List.mem_cons_of_mem _)), by omega, fun y hy => ?_⟩
      cases hy with
      | head => exact h2
      | tail _ hy => exact h3 y hy
    · rw [if_neg c] at h1 h2
      refine ⟨h1.elim .inl fun e => .inr (List.mem_cons_of_mem _ e), h2, fun y hy => ?_⟩
      cases hy with
      | head => omega
      | tail _ hy => exact h3 y hy
theorem max_ok {l : List Int} (h : l ≠ []) : maxL l ∈ l ∧ ∀ y ∈ l, y ≤ maxL l := by
  cases l with
  | nil => exact absurd rfl h
  | cons x l =>
    obtain ⟨h1, h2, h3⟩ := max_fold (x :: l) x
    refine ⟨?_, h3⟩
    rcases h1 with h1 | h1
    · show (x :: l).foldl _ x ∈ _
      rw [h1]
      exact List.mem_cons_self
    · exact h1
theorem min_ok {l : List Int} (h : l ≠ []) : minL l ∈ l ∧ ∀ y ∈ l, minL l ≤ y := by
  cases l with
  | nil => exact absurd rfl h
  | cons x l =>
    obtain ⟨h1, h2, h3⟩ := min_fold (x :: l) x
    refine ⟨?_, h3⟩
    rcases h1 with h1 | h1
    · show (x :: l).foldl _ x ∈ _
      rw [h1]
      exact List.mem_cons_self
    · exact h1
@[irreducible] def maxR {ω : Type} (l : List Int) : Res ω Int := if l = [] then .bad else .ok (maxL l)
@[irreducible] def minR {ω : Type} (l : List Int) : Res ω Int := if l = [] then .bad else .ok (minL l)
section
variable {ω γ : Type} {A H : Hp} {v : V} {ns : List Int} {K : PySem.W.Frag} {Q : VK} {Qr : γ → Prop} {Er : Exn → ω → Prop} {f : Int → Res ω γ}
theorem c_max (h : LA A H v ns) (hm : (bind (maxR ns) f).wp Qr Er) (k : ∀ m, (f m).wp Qr Er → Q (.int m) H) : rMax K [v] H Q := by
  obtain ⟨a, vs, rfl, h1, h2⟩ := h
  rw [h2.int] at h1
  unfold maxR at hm
  by_cases c : ns = []
  · rw [if_pos c] at hm
    exact hm.elim
  · rw [if_neg c] at hm
    refine ⟨a, ns, rfl, SqL.of h1, List.length_pos_iff.mpr c, fun m m1 m2 => ?_⟩
    obtain ⟨k1, k2⟩ := max_ok c
    have e : m = maxL ns := Int.le_antisymm (k2 m m1) (m2 _ k1)
    rw [e]
    exact k _ hm
theorem c_min (h : LA A H v ns) (hm : (bind (minR ns) f).wp Qr Er) (k : ∀ m, (f m).wp Qr Er → Q (.int m) H) : rMin K [v] H Q := by
  obtain ⟨a, vs, rfl, h1, h2⟩ := h
  rw [h2.int] at h1
  unfold minR at hm
  by_cases c : ns = []
  · rw [if_pos c] at hm
    exact hm.elim
  · rw [if_neg c] at hm
    refine ⟨a, ns, rfl, SqL.of h1, List.length_pos_iff.mpr c, fun m m1 m2 => ?_⟩
    obtain ⟨k1, k2⟩ := min_ok c
    have e : m = minL ns := Int.le_antisymm (m2 _ k1) (k2 m m1)
    rw [e]
    exact k _ hm
end
/-! ## for x in (a, b) -/
section
variable {K : PySem.W.Frag} {σ : L2.St} {H : Hp} {tl : TE} {g : TG} {tu tz : TS} {D : Ends}
theorem q_forT (h : tl σ H fun v H1 => tFor (iTup K (tC v)) g tu { D with nx := tz D } σ H1) : tSeq (tFor (iTup K tl) g tu) tz D σ H := h
theorem s_forT (h : tl σ H fun v H1 => tFor (iTup K (tC v)) g tu D σ H1) : tFor (iTup K tl) g tu D σ H := h
theorem c_for2 {ω γ β' σ1 σ2 : Type} {A : Hp} {R : List Hp} {j : Nat} {p : Addr} {u v : V} {Qr : γ → Prop} {Er : Exn → ω → Prop} {m1 : Res ω (Fl β' σ1)} {m2 : σ1 → Res ω (Fl β' σ2)} {f1 : Fl β' σ1 → Res ω γ} {f2 : Fl β' σ2 → Res ω γ}
    (Rel1 : Hp → L2.St → List Hp → σ1 → Prop) (Rel2 : Hp → L2.St → List Hp → σ2 → Prop) (S : St H (A :: R)) (hp : A p = some (.tup [u, v])) (htl : ∀ Q' : VK, Q' (.ref p) H → tl σ H Q') (hm : (bind m1 f1).wp Qr Er) (hf : ∀ s, f1 (.next s) = bind (m2 s) f2)
    (step1 : ∀ (C : σ1 → Prop) (N : L2.St → Hp → Prop), (∀ A' H' σ' R' s', Same A A' → St H' (A' :: R') → Rel1 A' σ' R' s' → C s' → N σ' H') → m1.wp (fun r => match r with | .next s' => C s' | .ret y => (f1 (.ret y)).wp Qr Er) Er → tu { D with nx := N, ct := N, bk := D.nx } (σ.set j (some u)) H)
    (step2 : ∀ A' H' σ' R' s (C : σ2 → Prop) (N : L2.St → Hp → Prop), Same A A' → St H' (A' :: R') → Rel1 A' σ' R' s → (∀ A'' H'' σ'' R'' s', Same A A'' → St H'' (A'' :: R'') → Rel2 A'' σ'' R'' s' → C s' → N σ'' H'') → (m2 s).wp (fun r => match r with | .next s' => C s' | .ret y => (f2 (.ret y)).wp Qr Er) Er → tu { D with nx := N, ct := N, bk := D.nx } (σ'.set j (some v)) H')
    (done : ∀ A' H' σ' R' s, Same A A' → St H' (A' :: R') → Rel2 A' σ' R' s → (f2 (.next s)).wp Qr Er → D.nx σ' H') : tFor (iTup K tl) (gName j) tu D σ H := by
  refine htl _ ⟨p, rfl, ⟨_, SqT.of (S.1 _ _ hp)⟩, ?_⟩
  refine for_tup (xs := [u, v]) (fun i σ' H' => (i = 0 ∧ σ' = σ ∧ H' = H) ∨ (i = 1 ∧ ∃ A' R' s, Same A A' ∧ St H' (A' :: R') ∧ Rel1 A' σ' R' s ∧ (bind (m2 s) f2).wp Qr Er) ∨ (i = 2 ∧ ∃ A' R' s, Same A A' ∧ St H' (A' :: R') ∧ Rel2 A' σ' R' s ∧ (f2 (.next s)).wp Qr Er)) (.inl ⟨rfl, rfl, rfl⟩) (fun i σ' H' _ h => ?_) (fun i x σ' H' hx h => ?_) (fun σ' H' h => ?_)
  · rcases h with ⟨_, _, rfl⟩ | ⟨_, A', R', s, e, S', _⟩ | ⟨_, A', R', s, e, S', _⟩
    · exact SqT.of (S.1 _ _ hp)
    · exact SqT.of (S'.1 _ _ (e _ _ hp))
    · exact SqT.of (S'.1 _ _ (e _ _ hp))
  · rcases h with ⟨rfl, rfl, rfl⟩ | ⟨rfl, A', R', s, e, S', hr, hw⟩ | ⟨rfl, _⟩
    · obtain rfl : u = x := Option.some.inj hx
      refine step1 (fun s => (bind (m2 s) f2).wp Qr Er) _ (fun A' H' σ' R' s' e S' hr hc => .inr (.inl ⟨rfl, A', R', s', e, S', hr, hc⟩)) (wp_mono (wp_bind hm) (fun r h => ?_) fun _ _ h => h)
      cases r with
      | next s =>
        have h : (f1 (.next s)).wp Qr Er := h
        rw [hf] at h
        exact h
      | ret y => exact h
    · obtain rfl : v = x := Option.some.inj hx
      refine step2 A' H' σ' R' s (fun s => (f2 (.next s)).wp Qr Er) _ e S' hr (fun A' H' σ' R' s' e S' hr hc => .inr (.inr ⟨rfl, A', R', s', e, S', hr, hc⟩)) (wp_mono (wp_bind hw) (fun r h => ?_) fun _ _ h => h)
      cases r <;> exact h
    · cases hx
  · rcases h with ⟨h, _⟩ | ⟨h, _⟩ | ⟨_, A', R', s, e, S', hr, hw⟩
    · cases h
    · cases h
    · exact done A' H' σ' R' s e S' hr hw
end
end SB
namespace SB
open PySem PySem.Spec PyProof.Rows L2 Res
/-! ## pairs as tuples of any length -/
theorem tpl_pair {A : Hp} {v : V} {x : Int × Int} (h : Is A v x) : Is A v (Tpl.mk [x.1, x.2]) := by
  obtain ⟨a, u, w, rfl, h1, h2, h3⟩ := h
  obtain rfl : u = .int x.1 := h2
  obtain rfl : w = .int x.2 := h3
  exact ⟨a, rfl, h1⟩
theorem tpl_pair2 {β : Type} [Rep β] {A : Hp} {v : V} {x : β × (Int × Int)} (h : Is A v x) : Is A v ((x.1, Tpl.mk [x.2.1, x.2.2]) : β × Tpl) := by
  obtain ⟨a, u, w, rfl, h1, h2, h3⟩ := h
  exact ⟨a, u, w, rfl, h1, h2, tpl_pair h3⟩
@[irreducible] def prR {ω : Type} (t : Tpl) : Res ω (Int × Int) := match t.l with
  | [a, b] => .ok (a, b)
  | _ => .bad
theorem un_tpl {ω γ : Type} {A : Hp} {v : V} {x : Tpl} {Qr : γ → Prop} {Er : Exn → ω → Prop} {P : Prop} {f : Int × Int → Res ω γ} (h : Is A v x) (hm : (bind (prR x) f).wp Qr Er) (k : ∀ y, Is A v y → (f y).wp Qr Er → P) : P := by
  obtain ⟨a, rfl, h1⟩ := h
  unfold prR at hm
  obtain ⟨l⟩ := x
  match l, h1, hm with
  | [], _, hm => exact hm.elim
  | [_], _, hm => exact hm.elim
  | [p, q], h1, hm => exact k (p, q) ⟨a, .int p, .int q, rfl, h1, rfl, rfl⟩ hm
  | _ :: _ :: _ :: _, _, hm => exact hm.elim
theorem isi_tpl {K : PySem.W.Frag} {A H : Hp} {R : List Hp} {Q : VK} {v : V} {x : Tpl} (S : St H (A :: R)) (h : Is A v x) (k : Q (.bl true) H) : rIsi K [v, .ty "tuple"] H Q := by
  obtain ⟨a, rfl, h1⟩ := h
  exact isi_tp S h1 k
end SB
namespace SB
open PySem PySem.Spec PyProof.Rows L2 Res
/-! ## tuples of four -/
structure Qua (α β γ δ : Type) where
  a : α
  b : β
  c : γ
  d : δ
  deriving DecidableEq
instance instQua {α β γ δ : Type} [Rep α] [Rep β] [Rep γ] [Rep δ] : Rep (Qua α β γ δ) := ⟨fun A v x => ∃ p u w z q, v = .ref p ∧ A p = some (.tup [u, w, z, q]) ∧ Rep.is A u x.a ∧ Rep.is A w x.b ∧ Rep.is A z x.c ∧ Rep.is A q x.d,
  fun e ⟨p, u, w, z, q, h1, h2, h3, h4, h5, h6⟩ => ⟨p, u, w, z, q, h1, e _ _ h2, Rep.mono e h3, Rep.mono e h4, Rep.mono e h5, Rep.mono e h6⟩⟩
instance instDQua {α β γ δ : Type} [RepD α] [RepD β] [RepD γ] [RepD δ] : RepD (Qua α β γ δ) where
  D := fun x => .tuple [RepD.D x.a, RepD.D x.b, RepD.D x.c, RepD.D x.d]
  dp := fun e ⟨p, u, w, z, q, h1, h2, h3, h4, h5, h6⟩ => by
    subst h1
    exact .tup (SqT.of (e _ _ h2)) (.cons (RepD.dp e h3) (.cons (RepD.dp e h4) (.cons (RepD.dp e h5) (.cons (RepD.dp e h6) .nil))))
  deep := max (RepD.deep (α := α)) (max (RepD.deep (α := β)) (max (RepD.deep (α := γ)) (RepD.deep (α := δ)))) + 1
  shp := fun x => by
    obtain ⟨h1, h2⟩ := RepD.shp x.a
    obtain ⟨k1, k2⟩ := RepD.shp x.b
    obtain ⟨j1, j2⟩ := RepD.shp x.c
    obtain ⟨i1, i2⟩ := RepD.shp x.d
    constructor
    · show (PyData.canLay0 (RepD.D x.a) && (PyData.canLay0 (RepD.D x.b) && (PyData.canLay0 (RepD.D x.c) && (PyData.canLay0 (RepD.D x.d) && true)))) = true
      rw [h1, k1, j1, i1]
      rfl
    · show max (PyData.depth (RepD.D x.a)) (max (PyData.depth (RepD.D x.b)) (max (PyData.depth (RepD.D x.c)) (max (PyData.depth (RepD.D x.d)) 0))) + 1 ≤ _
      omega
  eqv := fun x y => by
    show (PyData.eqv (RepD.D x.a) (RepD.D y.a) && (PyData.eqv (RepD.D x.b) (RepD.D y.b) && (PyData.eqv (RepD.D x.c) (RepD.D y.c) && (PyData.eqv (RepD.D x.d) (RepD.D y.d) && true)))) = true ↔ _
    rw [Bool.and_true, Bool.and_eq_true, Bool.and_eq_true, Bool.and_eq_true, RepD.eqv, RepD.eqv, RepD.eqv, RepD.eqv]
    exact ⟨fun ⟨h1, h2, h3, h4⟩ => by
      cases x
      cases y
      rw [Qua.mk.injEq]
      exact ⟨h1, h2, h3, h4⟩, fun h => by rw [h]; exact ⟨rfl, rfl, rfl, rfl⟩⟩
instance {α β γ δ : Type} [RepD α] [RepD β] [RepD γ] [RepD δ] : NN (Qua α β γ δ) := ⟨fun _ h => nomatch h⟩
theorem c_qua {α β γ δ : Type} [Rep α] [Rep β] [Rep γ] [Rep δ] {A H : Hp} {R : List Hp} {Q : VK} {x : α} {y : β} {z : γ} {w : δ} {u1 u2 u3 u4 : V} (S : St H (A :: R)) (h1 : Is A u1 x) (h2 : Is A u2 y) (h3 : Is A u3 z) (h4 : Is A u4 w) (k : ∀ p A' H', Same A A' → St H' (A' :: R) → Is A' (.ref p) (Qua.mk x y z w) → Q (.ref p) H') : NewT Q [u1, u2, u3, u4] H :=
  c_tupN S (Nat.le_of_ble_eq_true rfl) fun p A' H' e S' h => k p A' H' e S' ⟨p, u1, u2, u3, u4, rfl, h, up h1 e, up h2 e, up h3 e, up h4 e⟩
end SB

namespace SB
open PySem PySem.Spec PyProof.Rows L2 Res
/-! ## towers: an object with a list of fields and a list of tables -/
structure Tw where
  levels : List (FS true)
  tables : List (List Int)
def twSet (s : Tw) (i : Int) (x : FS true) : Tw := match ixN s.levels.length i with
  | some k => { s with levels := s.levels.set k x }
  | none => s
def twfl (la lb : Addr) : List (Str × V) := [("levels", .ref la), ("tables", .ref lb)]
def LvA {α : Type} [Ob α] (T : Cs) (A : Hp) (ns : List Hp) (vs : List V) (fs : List α) : Prop :=
  ns.length = fs.length ∧ vs.length = fs.length ∧ ∀ (i : Nat) (n : Hp) (u : V) (f : α), ns[i]? = some n → vs[i]? = some u → fs[i]? = some f → Ob.isAt T A n u f
theorem LvA.up {α : Type} [Ob α] {T : Cs} {A B : Hp} {ns : List Hp} {vs : List V} {fs : List α} (h : LvA T A ns vs fs) (e : Same A B) : LvA T B ns vs fs :=
  ⟨h.1, h.2.1, fun i n u f h1 h2 h3 => upO (h.2.2 i n u f h1 h2 h3) e⟩
def TwAt (T : Cs) (A m : Hp) (v : V) (s : Tw) : Prop := ∃ (p dx la lb : Addr) (vs ws : List V) (m0 : Hp) (ns : List Hp), v = .ref p ∧ St m (m0 :: ns) ∧ m0 p = some (.ins T.tower dx (twfl la lb)) ∧ m0 la = some (.lst vs) ∧ m0 lb = some (.lst ws) ∧ la ≠ lb ∧ OL A ws s.tables ∧ LvA T A ns vs s.levels ∧ s.levels.length ≤ sizeLine
instance instObTw : Ob Tw := ⟨TwAt, fun e ⟨p, dx, la, lb, vs, ws, m0, ns, h1, h2, h3, h4, h5, h6, h7, h8, h9⟩ => ⟨p, dx, la, lb, vs, ws, m0, ns, h1, h2, h3, h4, h5, h6, h7.up e, h8.up e, h9⟩⟩
structure KlT (K : PySem.W.Frag) (C : Addr) : Prop where
  cl : Cls K C
  levels : NoAttr K C "levels"
  tables : NoAttr K C "tables"
/-- the tower's two lists -/
def TwL (T : Cs) (m : Hp) (v : V) (la lb : Addr) : Prop := ∃ p dx, v = .ref p ∧ m p = some (.ins T.tower dx (twfl la lb))
def TwRef (T : Cs) (m : Hp) (v w : V) (i : Int) : Prop := ∃ la lb vs, TwL T m v la lb ∧ m la = some (.lst vs) ∧ atI vs i = some w
section
variable {K : PySem.W.Frag} {T : Cs} {A m n H : Hp} {R l : List Hp} {v w : V} {Q : VK} {s : Tw} {i : Int} {x : FS true}
theorem tw_met {y : Str} {P : Prop} (S : St H (A :: m :: R)) (h : Ob.isAt T A m v s) (hx : (["levels", "tables"] : List Str).all (fun z => !(y == z)) = true) (k : P) : MetV T.tower y v H P := by
  obtain ⟨p, dx, la, lb, vs, ws, m0, ns, rfl, h2, h3, h4, h5, h6, h7, h8, h9⟩ := h
  refine ⟨p, dx, _, rfl, S.second _ _ (h2.1 _ _ h3), ?_, k⟩
  simp only [List.all_cons, List.all_nil, Bool.and_true, Bool.and_eq_true, Bool.not_eq_true'] at hx
  simp only [twfl, List.lookup, hx.1, hx.2]
theorem tw_levels (kl : KlT K T.tower) (S : St H (A :: m :: R)) (h : Ob.isAt T A m v s) (k : ∀ la lb vs, TwL T m v la lb → m la = some (.lst vs) → vs.length = s.levels.length → Q (.ref la) H) : FldV K "levels" v H Q := by
  obtain ⟨p, dx, la, lb, vs, ws, m0, ns, rfl, h2, h3, h4, h5, h6, h7, h8, h9⟩ := h
  exact ⟨p, _, dx, _, _, rfl, S.second _ _ (h2.1 _ _ h3), kl.cl, kl.levels, rfl, k la lb vs ⟨p, dx, rfl, h2.1 _ _ h3⟩ (h2.1 _ _ h4) h8.2.1⟩
theorem tw_tables (kl : KlT K T.tower) (S : St H (A :: m :: R)) (h : Ob.isAt T A m v s) (k : ∀ la lb ws, TwL T m v la lb → m lb = some (.lst ws) → OL A ws s.tables → Q (.ref lb) H) : FldV K "tables" v H Q := by
  obtain ⟨p, dx, la, lb, vs, ws, m0, ns, rfl, h2, h3, h4, h5, h6, h7, h8, h9⟩ := h
  exact ⟨p, _, dx, _, _, rfl, S.second _ _ (h2.1 _ _ h3), kl.cl, kl.tables, rfl, k la lb ws ⟨p, dx, rfl, h2.1 _ _ h3⟩ (h2.1 _ _ h5) h7⟩
theorem tw_ty {la : Addr} {vs : List V} (S : St H (A :: m :: R)) (h : m la = some (.lst vs)) : tyV K "list" (.ref la) H := .inl ⟨rfl, _, SqL.of (S.second _ _ h)⟩
theorem tw_len {la : Addr} {vs : List V} {n : Nat} (S : St H (A :: m :: R)) (h : m la = some (.lst vs)) (e : vs.length = n) (k : Q (.int n) H) : Evl.rLenS K [.ref la] H Q := by
  refine ⟨la, vs, rfl, .inl (SqL.of (S.second _ _ h)), ?_⟩
  rw [e]
  exact k
theorem tw_la {lb : Addr} {ws : List V} {xs : List (List Int)} (S : St H (A :: m :: R)) (h : m lb = some (.lst ws)) (e : OL A ws xs) : LA A H (.ref lb) xs := ⟨lb, ws, rfl, S.second _ _ h, e⟩
theorem at_len {α β : Type} {xs : List α} {ys : List β} {x : α} (e : xs.length = ys.length) (h : atI xs i = some x) : ∃ y, atI ys i = some y := by
  unfold atI at h ⊢
  rw [e] at h
  cases hk : ixN ys.length i with
  | none =>
    rw [hk] at h
    cases h
  | some k =>
    rw [hk] at h
    have h : xs[k]? = some x := h
    have hl := (List.getElem?_eq_some_iff.mp h).1
    exact ⟨ys[k]'(by omega), List.getElem?_eq_getElem (by omega)⟩
theorem tw_ix {ω γ : Type} {Qr : γ → Prop} {Er : Exn → ω → Prop} {la lb : Addr} {vs : List V} {f : FS true → Res ω γ} (S : St H (A :: m :: R)) (h1 : TwL T m v la lb) (h2 : m la = some (.lst vs)) (e : vs.length = s.levels.length) (hm : (bind (ixR s.levels i) f).wp Qr Er)
    (k : ∀ x w, TwRef T m v w i → atI s.levels i = some x → (f x).wp Qr Er → Q w H) : rIxL K (.ref la) (.int i) H Q := by
  unfold ixR at hm
  cases ex : atI s.levels i with
  | none =>
    rw [ex] at hm
    exact hm.elim
  | some x =>
    rw [ex] at hm
    obtain ⟨w, hw⟩ := at_len e.symm ex
    exact ⟨la, vs, i, w, rfl, rfl, SqL.of (S.second _ _ h2), hw, k x w ⟨la, lb, vs, h1, h2, hw⟩ ex hm⟩
theorem at_ix {α : Type} {xs : List α} {x : α} (h : atI xs i = some x) : ∃ k, ixN xs.length i = some k ∧ xs[k]? = some x := by
  unfold atI at h
  cases hk : ixN xs.length i with
  | none =>
    rw [hk] at h
    cases h
  | some k =>
    rw [hk] at h
    exact ⟨k, rfl, h⟩
theorem st_minus (S : St m (n :: l)) : St (minus m n) l := by
  have : ∀ l, (∀ q ∈ l, Dj n q) → St m l → St (minus m n) l := by
    intro l
    induction l with
    | nil => exact fun _ _ => trivial
    | cons q l ih =>
      exact fun d S => ⟨fun b o e => minus_of (S.1 _ _ e) (by
        cases h : n b with
        | none => rfl
        | some u => exact (d q List.mem_cons_self _ _ _ h e).elim), S.2.1, ih (fun q hq => d q (List.mem_cons_of_mem _ hq)) S.2.2⟩
  exact this l S.2.1 S.2.2
theorem join_minus (g : Same n m) : join n (minus m n) = m := by
  funext b
  unfold join
  cases h : n b with
  | some o => exact (g _ _ h).symm
  | none =>
    show minus m n b = m b
    unfold minus
    rw [h]
theorem st_cut (S : St H (A :: m :: R)) (g : Same n m) : St H (A :: n :: minus m n :: R) := by
  have d : ∀ q, Dj m q → Dj n q := fun q d b o u e e' => d b o u (g _ _ e) e'
  refine ⟨S.1, fun q hq => ?_, g.trans S.2.2.1, fun q hq => ?_, fun b o e => S.2.2.1 _ _ (minus_some e).1, fun q hq b o u e e' => S.2.2.2.1 q hq _ _ _ (minus_some e).1 e', S.2.2.2.2⟩
  · cases hq with
    | head => exact (d A (S.2.1 m List.mem_cons_self).symm).symm
    | tail _ hq =>
      cases hq with
      | head => exact fun b o u e e' => S.2.1 m List.mem_cons_self _ _ _ e (minus_some e').1
      | tail _ hq => exact S.2.1 q (List.mem_cons_of_mem _ hq)
  · cases hq with
    | head =>
      exact fun b o u e e' => by
        rw [(minus_some e').2] at e
        cases e
    | tail _ hq => exact d q (S.2.2.2.1 q hq)
theorem st_in {n' rest : Hp} (S : St rest l) (d : Dj n' rest) : St (join n' rest) (n' :: l) :=
  ⟨same_join_l, fun q hq b o u e e' => d b o u e (St.mem S q hq _ _ e'), S.grow (same_join_r d)⟩
def TwHole (T : Cs) (A rest : Hp) (v w : V) (i : Int) (s : Tw) : Prop := ∃ (p dx la lb : Addr) (vs ws : List V) (m0 : Hp) (ns : List Hp) (k : Nat), v = .ref p ∧ St rest (m0 :: ns.eraseIdx k) ∧ m0 p = some (.ins T.tower dx (twfl la lb)) ∧ m0 la = some (.lst vs) ∧ m0 lb = some (.lst ws) ∧ la ≠ lb ∧ OL A ws s.tables ∧ s.levels.length ≤ sizeLine ∧
  ixN s.levels.length i = some k ∧ vs[k]? = some w ∧ ns.length = s.levels.length ∧ vs.length = s.levels.length ∧ ∀ (j : Nat) (n : Hp) (u : V) (f : FS true), j ≠ k → ns[j]? = some n → vs[j]? = some u → s.levels[j]? = some f → Ob.isAt T A n u f
theorem TwHole.up {B rest : Hp} (h : TwHole T A rest v w i s) (e : Same A B) : TwHole T B rest v w i s := by
  obtain ⟨p, dx, la, lb, vs, ws, m0, ns, k, h1, h2, h3, h4, h5, h6, h7, h8, h9, h10, h11, h12, h13⟩ := h
  exact ⟨p, dx, la, lb, vs, ws, m0, ns, k, h1, h2, h3, h4, h5, h6, h7.up e, h8, h9, h10, h11, h12, fun j n u f hj a b c => upO (h13 j n u f hj a b c) e⟩
theorem tw_open (S : St H (A :: m :: R)) (h : Ob.isAt T A m v s) (hr : TwRef T m v w i) (hx : atI s.levels i = some x) :
    ∃ n rest, join n rest = m ∧ St H (A :: n :: rest :: R) ∧ Ob.isAt T A n w x ∧ TwHole T A rest v w i s := by
  obtain ⟨p, dx, la, lb, vs, ws, m0, ns, rfl, h2, h3, h4, h5, h6, h7, h8, h9⟩ := h
  obtain ⟨la', lb', vs', ⟨p', dx', e1, e2⟩, e3, e4⟩ := hr
  cases e1
  have := (h2.1 _ _ h3).symm.trans e2
  cases this
  have := (h2.1 _ _ h4).symm.trans e3
  cases this
  obtain ⟨k, hk, hxk⟩ := at_ix hx
  obtain ⟨k', hk', hwk⟩ := at_ix e4
  rw [h8.2.1, hk] at hk'
  cases hk'
  have hkl := (List.getElem?_eq_some_iff.mp hxk).1
  have hn : k < ns.length := by rw [h8.1]; exact hkl
  have S2 : St m (ns[k] :: m0 :: ns.eraseIdx k) := h2.perm (((perm_pick ns k hn).cons m0).trans (List.Perm.swap _ _ _))
  exact ⟨ns[k], minus m ns[k], join_minus S2.1, st_cut S S2.1, h8.2.2 k _ _ _ (List.getElem?_eq_getElem hn) hwk hxk, p, dx, la, lb, vs, ws, m0, ns, k, rfl, st_minus S2, h3, h4, h5, h6, h7, h9, hk, hwk, h8.1, h8.2.1, fun j n u f _ a b c => h8.2.2 j n u f a b c⟩
theorem erase_set {α : Type} {y : α} : ∀ (l : List α) (k : Nat), (l.set k y).eraseIdx k = l.eraseIdx k
  | [], _ => rfl
  | _ :: _, 0 => rfl
  | a :: l, k + 1 => by
    show a :: (l.set k y).eraseIdx k = a :: l.eraseIdx k
    rw [erase_set l k]
theorem set_perm {α : Type} {y : α} {l : List α} {k : Nat} (hk : k < l.length) : (y :: l.eraseIdx k).Perm (l.set k y) := by
  have key : ∀ (l : List α) (k : Nat), k < l.length → (y :: l.eraseIdx k).Perm (l.set k y) := by
    intro l
    induction l with
    | nil => exact fun k h => absurd h (Nat.not_lt_zero _)
    | cons a l ih =>
      intro k h
      cases k with
      | zero => exact List.Perm.refl _
      | succ k => exact (List.Perm.swap _ _ _).trans ((ih k (Nat.lt_of_succ_lt_succ h)).cons a)
  exact key l k hk
theorem tw_close {B rest : Hp} (S : St H (B :: n :: rest :: R)) (h : TwHole T A rest v w i s) (hx : Ob.isAt T A n w x) : ∃ m', St H (B :: m' :: R) ∧ Ob.isAt T A m' v (twSet s i x) := by
  obtain ⟨p, dx, la, lb, vs, ws, m0, ns, k, rfl, h2, h3, h4, h5, h6, h7, h8, h9, h10, h11, h12, h13⟩ := h
  have hkl : k < ns.length := by
    have := (List.getElem?_eq_some_iff.mp h10).1
    omega
  refine ⟨join n rest, S.join2, p, dx, la, lb, vs, ws, m0, ns.set k n, rfl, ?_, h3, h4, h5, h6, ?_, ?_, ?_⟩
  · exact (st_in h2 S.2.2.dj).perm ((List.Perm.swap _ _ _).trans ((set_perm hkl).cons m0))
  · unfold twSet
    rw [h9]
    exact h7
  · unfold twSet
    rw [h9]
    refine ⟨by rw [List.length_set]; show _ = (s.levels.set k x).length; rw [List.length_set]; exact h11, by show _ = (s.levels.set k x).length; rw [List.length_set]; exact h12, fun j n' u f a b c => ?_⟩
    have c : (s.levels.set k x)[j]? = some f := c
    by_cases hj : j = k
    · subst hj
      rw [List.getElem?_set_self hkl] at a
      rw [List.getElem?_set_self (by omega)] at c
      cases a
      cases c
      rw [h10] at b
      cases b
      exact hx
    · rw [List.getElem?_set_ne (Ne.symm hj)] at a c
      exact h13 j n' u f hj a b c
  · unfold twSet
    rw [h9]
    show (s.levels.set k x).length ≤ sizeLine
    rw [List.length_set]
    exact h8
end
/-! ### the lists changed -/
@[irreducible] def twAppR {ω : Type} (s : Tw) (x : FS true) : Res ω Tw := if s.levels.length < sizeLine then .ok { s with levels := s.levels ++ [x] } else .bad
@[irreducible] def twTabR {ω : Type} (s : Tw) (x : List Int) : Res ω Tw := if s.tables.length < sizeLine then .ok { s with tables := s.tables ++ [x] } else .bad
@[irreducible] def twPopR {ω : Type} (s : Tw) : Res ω Tw := if s.levels = [] then .bad else .ok { s with levels := s.levels.dropLast }
@[irreducible] def twTopR {ω : Type} (s : Tw) : Res ω Tw := if s.tables = [] then .bad else .ok { s with tables := s.tables.dropLast }
section
variable {ω γ : Type} {Qr : γ → Prop} {Er : Exn → ω → Prop} {K : PySem.W.Frag} {T : Cs} {A m n H : Hp} {R l : List Hp} {v w : V} {Q : VK} {s : Tw} {i : Int} {x : FS true} {la lb : Addr} {f : Tw → Res ω γ} {y : List Int}
theorem Dj.upd_l {B : Hp} {a : Addr} {o u : HO} (d : Dj m B) (h : m a = some o) : Dj (upd m a u) B := fun b p q e e' => by
  rcases upd_some e with ⟨rfl, rfl⟩ | ⟨_, e⟩
  · exact d _ _ _ h e'
  · exact d _ _ _ e e'
theorem st_upd {m0 : Hp} {a : Addr} {o u : HO} (S : St m (m0 :: l)) (h : m0 a = some o) : St (upd m a u) (upd m0 a u :: l) := by
  have hne : ∀ q ∈ l, ∀ b z, q b = some z → b ≠ a := fun q hq b z e c => by
    subst c
    exact S.2.1 q hq _ _ _ h e
  refine ⟨fun b z e => ?_, fun q hq => (S.2.1 q hq).upd_l h, ?_⟩
  · rcases upd_some e with ⟨rfl, rfl⟩ | ⟨hb, e⟩
    · exact upd_same
    · rw [upd_ne hb]
      exact S.1 _ _ e
  · have : ∀ l, (∀ q ∈ l, ∀ b z, q b = some z → b ≠ a) → St m l → St (upd m a u) l := by
      intro l
      induction l with
      | nil => exact fun _ _ => trivial
      | cons q l ih =>
        exact fun d S => ⟨fun b z e => by
          rw [upd_ne (d q List.mem_cons_self b z e)]
          exact S.1 _ _ e, S.2.1, ih (fun q hq => d q (List.mem_cons_of_mem _ hq)) S.2.2⟩
    exact this l hne S.2.2
theorem ins_lst {a b : Addr} {C dx : Addr} {fs : List (Str × V)} {vs : List V} (h1 : m a = some (.ins C dx fs)) (h2 : m b = some (.lst vs)) : a ≠ b := ne_of h1 h2 (fun z => by cases z)
theorem all2_snoc {α : Type} {P : V → α → Prop} {vs : List V} {xs : List α} {w : V} {x : α} (h : All2 P vs xs) (hx : P w x) : All2 P (vs ++ [w]) (xs ++ [x]) := h.append ⟨hx, trivial⟩
theorem tw_app (S : St H (A :: m :: n :: R)) (h : Ob.isAt T A m v s) (hl : TwL T m v la lb) (hx : Ob.isAt T A n w x) (hm : (bind (twAppR s x) f).wp Qr Er)
    (k : ∀ z m' H', (f z).wp Qr Er → St H' (A :: m' :: R) → Ob.isAt T A m' v z → Q .non H') : rAppend (.ref la) [w] H Q := by
  obtain ⟨p, dx, la', lb', vs, ws, m0, ns, rfl, h2, h3, h4, h5, h6, h7, h8, h9⟩ := h
  obtain ⟨p', dx', e1, e2⟩ := hl
  cases e1
  have := (h2.1 _ _ h3).symm.trans e2
  cases this
  unfold twAppR at hm
  by_cases c : s.levels.length < sizeLine
  case neg =>
    rw [if_neg c] at hm
    exact hm.elim
  rw [if_pos c] at hm
  have hla := h2.1 _ _ h4
  refine ⟨la, vs, w, rfl, rfl, S.second _ _ hla, by rw [h8.2.1]; exact c, ?_⟩
  have S2 : St (upd H la (.lst (vs ++ [w]))) (A :: upd m la (.lst (vs ++ [w])) :: n :: R) := S.wr hla
  have d : Dj (upd m la (.lst (vs ++ [w]))) n := S2.2.2.dj
  refine k _ _ _ hm S2.join2 ⟨p, dx, la, lb, vs ++ [w], ws, upd m0 la (.lst (vs ++ [w])), ns ++ [n], rfl, ?_, ?_, upd_same, ?_, h6, h7, ⟨?_, ?_, ?_⟩, ?_⟩
  · have S3 := st_upd (u := .lst (vs ++ [w])) h2 h4
    have S4 : St (join (upd m la (.lst (vs ++ [w]))) n) (upd m0 la (.lst (vs ++ [w])) :: ns) := S3.grow same_join_l
    have S5 : St (join (upd m la (.lst (vs ++ [w]))) n) (n :: upd m0 la (.lst (vs ++ [w])) :: ns) := ⟨same_join_r d, fun q hq b o u e e' => d b u o (St.mem S3 q hq _ _ e') e, S4⟩
    exact S5.perm ((List.Perm.swap _ _ _).trans ((List.perm_append_singleton n ns).symm.cons _))
  · rw [upd_ne (ins_lst h3 h4)]
    exact h3
  · rw [upd_ne h6.symm]
    exact h5
  · show (ns ++ [n]).length = (s.levels ++ [x]).length
    rw [List.length_append, List.length_append, h8.1]
    rfl
  · show (vs ++ [w]).length = (s.levels ++ [x]).length
    rw [List.length_append, List.length_append, h8.2.1]
    rfl
  · intro i n' u f' a b c'
    have a : (ns ++ [n])[i]? = some n' := a
    have b : (vs ++ [w])[i]? = some u := b
    have c' : (s.levels ++ [x])[i]? = some f' := c'
    by_cases hi : i < s.levels.length
    · rw [List.getElem?_append_left (by rw [h8.1]; exact hi)] at a
      rw [List.getElem?_append_left (by rw [h8.2.1]; exact hi)] at b
      rw [List.getElem?_append_left hi] at c'
      exact h8.2.2 i n' u f' a b c'
    · have hi' : i = s.levels.length := by
        have := (List.getElem?_eq_some_iff.mp c').1
        rw [List.length_append] at this
        have h1 : [x].length = 1 := rfl
        omega
      subst hi'
      rw [List.getElem?_append_right (by rw [h8.1]; exact Nat.le_refl _), h8.1, Nat.sub_self] at a
      rw [List.getElem?_append_right (by rw [h8.2.1]; exact Nat.le_refl _), h8.2.1, Nat.sub_self] at b
      rw [List.getElem?_append_right (Nat.le_refl _), Nat.sub_self] at c'
      cases a
      cases b
      cases c'
      exact hx
  · show (s.levels ++ [x]).length ≤ sizeLine
    rw [List.length_append]
    exact c
theorem tw_tapp (S : St H (A :: m :: R)) (h : Ob.isAt T A m v s) (hl : TwL T m v la lb) (hx : Is A w y) (hm : (bind (twTabR s y) f).wp Qr Er)
    (k : ∀ z m' H', (f z).wp Qr Er → St H' (A :: m' :: R) → Ob.isAt T A m' v z → Q .non H') : rAppend (.ref lb) [w] H Q := by
  obtain ⟨p, dx, la', lb', vs, ws, m0, ns, rfl, h2, h3, h4, h5, h6, h7, h8, h9⟩ := h
  obtain ⟨p', dx', e1, e2⟩ := hl
  cases e1
  have := (h2.1 _ _ h3).symm.trans e2
  cases this
  unfold twTabR at hm
  by_cases c : s.tables.length < sizeLine
  case neg =>
    rw [if_neg c] at hm
    exact hm.elim
  rw [if_pos c] at hm
  have hlb := h2.1 _ _ h5
  refine ⟨lb, ws, w, rfl, rfl, S.second _ _ hlb, by rw [h7.len]; exact c, ?_⟩
  refine k _ _ _ hm (S.wr hlb) ⟨p, dx, la, lb, vs, ws ++ [w], upd m0 lb (.lst (ws ++ [w])), ns, rfl, st_upd h2 h5, ?_, ?_, upd_same, h6, ⟨all2_snoc h7.1 hx, ?_⟩, h8, h9⟩
  · rw [upd_ne (ins_lst h3 h5)]
    exact h3
  · rw [upd_ne h6]
    exact h4
  · show (s.tables ++ [y]).length ≤ sizeLine
    rw [List.length_append]
    exact c
theorem get_drop {α : Type} {l : List α} {i : Nat} {x : α} (h : l.dropLast[i]? = some x) : l[i]? = some x := by
  have hl := (List.getElem?_eq_some_iff.mp h).1
  rw [List.length_dropLast] at hl
  rw [List.getElem?_dropLast, if_pos hl] at h
  exact h
theorem mem_drop {α : Type} {x : α} : ∀ {l : List α}, x ∈ l.dropLast → x ∈ l := fun {l} h => by
  obtain ⟨i, hi, e⟩ := List.mem_iff_getElem.mp h
  exact List.mem_of_getElem? (get_drop ((List.getElem?_eq_getElem hi).trans (congrArg some e)))
theorem st_drop : ∀ {l : List Hp}, St m l → St m l.dropLast
  | [], _ => trivial
  | [_], _ => trivial
  | a :: b :: l, S => ⟨S.1, fun q hq => S.2.1 q (mem_drop hq), st_drop S.2.2⟩
theorem tw_pop (S : St H (A :: m :: R)) (h : Ob.isAt T A m v s) (hl : TwL T m v la lb) (hm : (bind (twPopR s) f).wp Qr Er)
    (k : ∀ z w m' H', (f z).wp Qr Er → St H' (A :: m' :: R) → Ob.isAt T A m' v z → Q w H') : rPop (.ref la) [] H Q := by
  obtain ⟨p, dx, la', lb', vs, ws, m0, ns, rfl, h2, h3, h4, h5, h6, h7, h8, h9⟩ := h
  obtain ⟨p', dx', e1, e2⟩ := hl
  cases e1
  have := (h2.1 _ _ h3).symm.trans e2
  cases this
  unfold twPopR at hm
  by_cases c : s.levels = []
  · rw [if_pos c] at hm
    exact hm.elim
  rw [if_neg c] at hm
  have hla := h2.1 _ _ h4
  have hp := List.length_pos_iff.mpr c
  have hv : vs.length - 1 < vs.length := by rw [h8.2.1]; omega
  refine ⟨la, vs, _, rfl, rfl, S.second _ _ hla, List.getElem?_eq_getElem hv, ?_⟩
  have S3 := st_upd (u := .lst vs.dropLast) h2 h4
  refine k _ _ _ _ hm (S.wr hla) ⟨p, dx, la, lb, vs.dropLast, ws, upd m0 la (.lst vs.dropLast), ns.dropLast, rfl, ?_, ?_, upd_same, ?_, h6, h7, ⟨?_, ?_, ?_⟩, ?_⟩
  · exact ⟨S3.1, fun q hq => S3.2.1 q (mem_drop hq), st_drop S3.2.2⟩
  · rw [upd_ne (ins_lst h3 h4)]
    exact h3
  · rw [upd_ne h6.symm]
    exact h5
  · show _ = s.levels.dropLast.length
    rw [List.length_dropLast, List.length_dropLast, h8.1]
  · show _ = s.levels.dropLast.length
    rw [List.length_dropLast, List.length_dropLast, h8.2.1]
  · exact fun i n' u f' a b c' => h8.2.2 i n' u f' (get_drop a) (get_drop b) (get_drop c')
  · show s.levels.dropLast.length ≤ sizeLine
    rw [List.length_dropLast]
    omega
theorem tw_tpop (S : St H (A :: m :: R)) (h : Ob.isAt T A m v s) (hl : TwL T m v la lb) (hm : (bind (twTopR s) f).wp Qr Er)
    (k : ∀ z w m' H', (f z).wp Qr Er → St H' (A :: m' :: R) → Ob.isAt T A m' v z → Q w H') : rPop (.ref lb) [] H Q := by
  obtain ⟨p, dx, la', lb', vs, ws, m0, ns, rfl, h2, h3, h4, h5, h6, h7, h8, h9⟩ := h
  obtain ⟨p', dx', e1, e2⟩ := hl
  cases e1
  have := (h2.1 _ _ h3).symm.trans e2
  cases this
  unfold twTopR at hm
  by_cases c : s.tables = []
  · rw [if_pos c] at hm
    exact hm.elim
  rw [if_neg c] at hm
  have hlb := h2.1 _ _ h5
  have hp := List.length_pos_iff.mpr c
  have hv : ws.length - 1 < ws.length := by rw [h7.len]; omega
  refine ⟨lb, ws, _, rfl, rfl, S.second _ _ hlb, List.getElem?_eq_getElem hv, ?_⟩
  refine k _ _ _ _ hm (S.wr hlb) ⟨p, dx, la, lb, vs, ws.dropLast, upd m0 lb (.lst ws.dropLast), ns, rfl, st_upd h2 h5, ?_, ?_, upd_same, h6, ⟨h7.1.dropLast, ?_⟩, h8, h9⟩
  · rw [upd_ne (ins_lst h3 h5)]
    exact h3
  · rw [upd_ne h6]
    exact h4
  · show s.tables.dropLast.length ≤ sizeLine
    rw [List.length_dropLast]
    exact Nat.le_trans (Nat.sub_le _ _) h7.2
end
/-! ### for k in reversed(range(..)) -/
def tRgK (lo hi : Int) : L2.St → Hp → (Int → Int → Hp → Prop) → Prop := fun _ H Q => Q lo hi H
section
variable {σ : L2.St} {H : Hp} {D : Ends} {tu tz : TS} {g : TG} {ta tb : TE}
theorem q_forRV1 (h : ta σ H fun x H1 => ∃ n, x = .int n ∧ tFor (iRevR (tRgK 0 n)) g tu { D with nx := tz D } σ H1) : tSeq (tFor (iRevR (tRg1 ta)) g tu) tz D σ H := h
theorem s_forRV1 (h : ta σ H fun x H1 => ∃ n, x = .int n ∧ tFor (iRevR (tRgK 0 n)) g tu D σ H1) : tFor (iRevR (tRg1 ta)) g tu D σ H := h
end
/-! ### Tower(body) -/
def MkV (C : Addr) (sp : Sp) (dvs vs : List V) (H : Hp) (Q : VK) (E : XK) : Prop := ∀ x dx, H x = none → H dx = none → dx ≠ x → sp (.ref x :: (vs ++ dvs)) (upd (upd H dx (.own x)) x (.ins C dx [])) (fun v H2 => v = .non ∧ Q (.ref x) H2) E
theorem c_make {C : Addr} {sp : Sp} {dvs : List V} {E : XK} {t : TA} {σ : L2.St} {H : Hp} {Q : VK} (h : t σ H fun vs H1 => MkV C sp dvs vs H1 Q E) : tMake C sp dvs E t σ H Q := h
structure NGlob1 (P : Program) (w : World) (K : PySem.W.Frag) (mg : Str → Option Value) (base : Heap) (k : Nat) (C : Addr) (x : Str) (a : Str) (sp : Sp) (f : Addr) (fd : FuncData) : Prop where
  ok : FnOk P w K mg base CX0 k f fd ["self", a] sp
  g : mg x = some (.ref C)
  made : Mk K C f
  b : Binds K fd ["self", a] []
end SB

namespace SB
open PySem PySem.Spec PyProof.Rows L2 Res
/-! ## lists of fields -/
structure Lst (α : Type) where
  l : List α
abbrev Fls := Lst (FS true)
def FlAt {α : Type} [Ob α] (T : Cs) (A m : Hp) (v : V) (s : Lst α) : Prop := ∃ (p : Addr) (vs : List V) (m0 : Hp) (ns : List Hp), v = .ref p ∧ St m (m0 :: ns) ∧ m0 p = some (.lst vs) ∧ LvA T A ns vs s.l ∧ s.l.length ≤ sizeLine
instance instObFls {α : Type} [Ob α] : Ob (Lst α) := ⟨FlAt, fun e ⟨p, vs, m0, ns, h1, h2, h3, h4, h5⟩ => ⟨p, vs, m0, ns, h1, h2, h3, h4.up e, h5⟩⟩
def FlRef (m : Hp) (v w : V) (i : Int) : Prop := ∃ p vs, v = .ref p ∧ m p = some (.lst vs) ∧ atI vs i = some w
@[irreducible] def flAppR {ω α : Type} (s : Lst α) (x : α) : Res ω (Lst α) := if s.l.length < sizeLine then .ok ⟨s.l ++ [x]⟩ else .bad
def mapF {ω α : Type} (body : Int → Res ω α) : List Int → Res ω (List α)
  | [] => .ok []
  | x :: xs => bind (body x) fun y => bind (mapF body xs) fun ys => .ok (y :: ys)
section
variable {ω γ α : Type} [Ob α] {Qr : γ → Prop} {Er : Exn → ω → Prop} {K : PySem.W.Frag} {T : Cs} {A m n H : Hp} {R l : List Hp} {v w : V} {Q : VK} {s : Lst α} {i : Int} {x : α}
theorem fl_ty (S : St H (A :: m :: R)) (h : Ob.isAt T A m v s) : tyV K "list" v H := by
  obtain ⟨p, vs, m0, ns, rfl, h2, h3, h4, h5⟩ := h
  exact .inl ⟨rfl, _, SqL.of (S.second _ _ (h2.1 _ _ h3))⟩
theorem fls_len (S : St H (A :: m :: R)) (h : Ob.isAt T A m v s) (k : Q (.int s.l.length) H) : Evl.rLenS K [v] H Q := by
  obtain ⟨p, vs, m0, ns, rfl, h2, h3, h4, h5⟩ := h
  refine ⟨p, vs, rfl, .inl (SqL.of (S.second _ _ (h2.1 _ _ h3))), ?_⟩
  rw [h4.2.1]
  exact k
theorem fl_ix {f : α → Res ω γ} (S : St H (A :: m :: R)) (h : Ob.isAt T A m v s) (hm : (bind (ixR s.l i) f).wp Qr Er)
    (k : ∀ x w, FlRef m v w i → atI s.l i = some x → (f x).wp Qr Er → Q w H) : rIxL K v (.int i) H Q := by
  obtain ⟨p, vs, m0, ns, rfl, h2, h3, h4, h5⟩ := h
  unfold ixR at hm
  cases ex : atI s.l i with
  | none =>
    rw [ex] at hm
    exact hm.elim
  | some x =>
    rw [ex] at hm
    obtain ⟨w, hw⟩ := at_len h4.2.1.symm ex
    exact ⟨p, vs, i, w, rfl, rfl, SqL.of (S.second _ _ (h2.1 _ _ h3)), hw, k x w ⟨p, vs, rfl, h2.1 _ _ h3, hw⟩ ex hm⟩
theorem fl_open (S : St H (A :: m :: R)) (h : Ob.isAt T A m v s) (hr : FlRef m v w i) (hx : atI s.l i = some x) :
    ∃ n rest, join n rest = m ∧ St H (A :: n :: rest :: R) ∧ Ob.isAt T A n w x := by
  obtain ⟨p, vs, m0, ns, rfl, h2, h3, h4, h5⟩ := h
  obtain ⟨p', vs', e1, e3, e4⟩ := hr
  cases e1
  have := (h2.1 _ _ h3).symm.trans e3
  cases this
  obtain ⟨k, hk, hxk⟩ := at_ix hx
  obtain ⟨k', hk', hwk⟩ := at_ix e4
  rw [h4.2.1, hk] at hk'
  cases hk'
  have hkl := (List.getElem?_eq_some_iff.mp hxk).1
  have hn : k < ns.length := by rw [h4.1]; exact hkl
  have S2 : St m (ns[k] :: m0 :: ns.eraseIdx k) := h2.perm (((perm_pick ns k hn).cons m0).trans (List.Perm.swap _ _ _))
  exact ⟨ns[k], minus m ns[k], join_minus S2.1, st_cut S S2.1, h4.2.2 k _ _ _ (List.getElem?_eq_getElem hn) hwk hxk⟩
theorem lva_snoc {ns : List Hp} {vs : List V} {fs : List α} (h : LvA T A ns vs fs) (hx : Ob.isAt T A n w x) : LvA T A (ns ++ [n]) (vs ++ [w]) (fs ++ [x]) := by
  refine ⟨?_, ?_, fun i n' u f' a b c' => ?_⟩
  · rw [List.length_append, List.length_append, h.1]
    rfl
  · rw [List.length_append, List.length_append, h.2.1]
    rfl
  · by_cases hi : i < fs.length
    · rw [List.getElem?_append_left (by rw [h.1]; exact hi)] at a
      rw [List.getElem?_append_left (by rw [h.2.1]; exact hi)] at b
      rw [List.getElem?_append_left hi] at c'
      exact h.2.2 i n' u f' a b c'
    · have hi' : i = fs.length := by
        have := (List.getElem?_eq_some_iff.mp c').1
        rw [List.length_append] at this
        have h1 : [x].length = 1 := rfl
        omega
      subst hi'
      rw [List.getElem?_append_right (by rw [h.1]; exact Nat.le_refl _), h.1, Nat.sub_self] at a
      rw [List.getElem?_append_right (by rw [h.2.1]; exact Nat.le_refl _), h.2.1, Nat.sub_self] at b
      rw [List.getElem?_append_right (Nat.le_refl _), Nat.sub_self] at c'
      cases a
      cases b
      cases c'
      exact hx
/-- a field laid behind the others -/
theorem fl_put {p : Addr} (S : St H (A :: m :: n :: R)) (h : Ob.isAt T A m (.ref p) s) (hx : Ob.isAt T A n w x) (c : s.l.length < sizeLine) :
    ∃ vs m', H p = some (.lst vs) ∧ vs.length < sizeLine ∧ St (upd H p (.lst (vs ++ [w]))) (A :: m' :: R) ∧ Ob.isAt T A m' (.ref p) (⟨s.l ++ [x]⟩ : Lst α) := by
  obtain ⟨p', vs, m0, ns, e, h2, h3, h4, h5⟩ := h
  cases e
  have hp := h2.1 _ _ h3
  have S2 : St (upd H p (.lst (vs ++ [w]))) (A :: upd m p (.lst (vs ++ [w])) :: n :: R) := S.wr hp
  have d : Dj (upd m p (.lst (vs ++ [w]))) n := S2.2.2.dj
  refine ⟨vs, _, S.second _ _ hp, by rw [h4.2.1]; exact c, S2.join2, p, vs ++ [w], upd m0 p (.lst (vs ++ [w])), ns ++ [n], rfl, ?_, upd_same, lva_snoc h4 hx, ?_⟩
  · have S3 := st_upd (u := .lst (vs ++ [w])) h2 h3
    have S4 : St (join (upd m p (.lst (vs ++ [w]))) n) (upd m0 p (.lst (vs ++ [w])) :: ns) := S3.grow same_join_l
    have S5 : St (join (upd m p (.lst (vs ++ [w]))) n) (n :: upd m0 p (.lst (vs ++ [w])) :: ns) := ⟨same_join_r d, fun q hq b o u e e' => d b u o (St.mem S3 q hq _ _ e') e, S4⟩
    exact S5.perm ((List.Perm.swap _ _ _).trans ((List.perm_append_singleton n ns).symm.cons _))
  · show (s.l ++ [x]).length ≤ sizeLine
    rw [List.length_append]
    exact c
theorem fl_app {f : Lst α → Res ω γ} (S : St H (A :: m :: n :: R)) (h : Ob.isAt T A m v s) (hx : Ob.isAt T A n w x) (hm : (bind (flAppR s x) f).wp Qr Er)
    (k : ∀ z m' H', (f z).wp Qr Er → St H' (A :: m' :: R) → Ob.isAt T A m' v z → Q .non H') : rAppend v [w] H Q := by
  have hv : ∃ p, v = .ref p := by
    obtain ⟨p, vs, m0, ns, rfl, _⟩ := h
    exact ⟨p, rfl⟩
  obtain ⟨p, rfl⟩ := hv
  unfold flAppR at hm
  by_cases c : s.l.length < sizeLine
  case neg =>
    rw [if_neg c] at hm
    exact hm.elim
  rw [if_pos c] at hm
  obtain ⟨vs, m', e1, e2, S', h'⟩ := fl_put S h hx c
  exact ⟨p, vs, w, rfl, rfl, e1, e2, k _ m' _ hm S' h'⟩
/-- [], [x, y] -/
theorem fl_nil (S : St H (A :: R)) (k : ∀ p m H', St H' (A :: m :: R) → Ob.isAt T A m (.ref p) (⟨[]⟩ : Lst α) → Q (.ref p) H') : NewL Q [] H :=
  ⟨Nat.zero_le _, fun p hp => k p _ _ (S.newM (o := .lst []) hp) ⟨p, [], one p (.lst []), [], rfl, ⟨Same.refl _, fun _ h => (nomatch h), trivial⟩, one_same, ⟨rfl, rfl, fun i _ _ _ h => (nomatch h)⟩, Nat.zero_le _⟩⟩
theorem fl_two {n1 n2 : Hp} {w1 w2 : V} {x1 x2 : α} (S : St H (A :: n1 :: n2 :: R)) (h1 : Ob.isAt T A n1 w1 x1) (h2 : Ob.isAt T A n2 w2 x2) (k : ∀ p m H', St H' (A :: m :: R) → Ob.isAt T A m (.ref p) (⟨[x1, x2]⟩ : Lst α) → Q (.ref p) H') : NewL Q [w1, w2] H := by
  refine ⟨by show 2 ≤ sizeLine; decide, fun p hp => ?_⟩
  have S2 := S.newM (o := .lst [w1, w2]) hp
  have d2 : Dj (join (one p (.lst [w1, w2])) n1) n2 := S2.join2.2.2.dj
  have d1 : Dj (one p (.lst [w1, w2])) n1 := S2.2.2.dj
  have d3 : Dj (one p (.lst [w1, w2])) n2 := S2.2.2.2.1 _ (List.mem_cons_of_mem _ List.mem_cons_self)
  have d4 : Dj n1 n2 := S.2.2.dj
  refine k p _ _ S2.join2.join2 ⟨p, [w1, w2], one p (.lst [w1, w2]), [n1, n2], rfl, ⟨same_join_l.trans same_join_l, fun q hq => ?_, (same_join_r d1).trans same_join_l, fun q hq => ?_, same_join_r d2, fun _ h => (nomatch h), trivial⟩, one_same, ⟨rfl, rfl, fun i n u f a b c => ?_⟩, by show 2 ≤ sizeLine; decide⟩
  · simp only [List.mem_cons, List.not_mem_nil, or_false] at hq
    rcases hq with rfl | rfl
    · exact d1
    · exact d3
  · rw [List.mem_singleton.mp hq]
    exact d4
  · match i with
    | 0 =>
      cases a
      cases b
      cases c
      exact h1
    | 1 =>
      cases a
      cases b
      cases c
      exact h2
    | i + 2 => cases a
theorem mapF_len {body : Int → Res ω α} : ∀ {xs : List Int} {ys : List α}, mapF body xs = .ok ys → ys.length = xs.length
  | [], ys, h => by
    cases h
    rfl
  | x :: xs, ys, h => by
    unfold mapF at h
    cases e : body x with
    | ok y =>
      rw [e] at h
      have h : bind (mapF body xs) (fun ys => .ok (y :: ys)) = .ok ys := h
      cases e2 : mapF body xs with
      | ok zs =>
        rw [e2] at h
        cases h
        show zs.length + 1 = xs.length + 1
        rw [mapF_len e2]
      | ex _ _ =>
        rw [e2] at h
        cases h
      | bad =>
        rw [e2] at h
        cases h
    | ex _ _ =>
      rw [e] at h
      cases h
    | bad =>
      rw [e] at h
      cases h
/-- a comprehension over a range: each item a field -/
theorem fl_comp {σ : L2.St} {ta : TA} {te : TE} {j : Nat} {vs : List Nat} {n : Int} {body : Int → Res ω α} {f : Lst α → Res ω γ} (S : St H (A :: R)) (hta : ∀ Q' : List V → Hp → Prop, Q' [.int n] H → ta σ H Q')
    (hm : (bind (bind (rlR n) fun l => bind (mapF body l) fun ys => .ok (⟨ys⟩ : Lst α)) f).wp Qr Er) (hw : ∀ x, wipe ((wipe σ vs).set j (some x)) vs = wipe σ vs)
    (he : ∀ (x : Int) (A1 H1 m1 : Hp) (C : α → Prop) (Q1 : VK), Same A A1 → St H1 (A1 :: m1 :: R) → (∀ A2 H2 n2 w y, Same A1 A2 → St H2 (A2 :: n2 :: m1 :: R) → Ob.isAt T A2 n2 w y → C y → Q1 w H2) → (body x).wp C Er → te ((wipe σ vs).set j (some (.int x))) H1 Q1)
    (k : ∀ p A' H' m ys, (f ys).wp Qr Er → Same A A' → St H' (A' :: m :: R) → Ob.isAt T A' m (.ref p) ys → Q (.ref p) H') : tLc (iRng1 ta) (gName j) tYes te vs σ H Q := by
  unfold rlR at hm
  by_cases hz : n ≤ 1000000 ∧ -1000000 ≤ n
  case neg =>
    rw [if_neg hz] at hm
    exact hm.elim
  rw [if_pos hz] at hm
  have hm : (bind (bind (mapF body (rangeL 0 n)) fun ys => .ok (⟨ys⟩ : Lst α)) f).wp Qr Er := hm
  have hsz : (1000000 : Nat) < sizeLine := by decide
  have hlen : (rangeL 0 n).length = n.toNat := by unfold rangeL; rw [List.length_map, List.length_range]; omega
  refine hta _ ⟨n, rfl, by omega, by omega, fun Dl hD => ?_⟩
  refine lc_range (lo := 0) (n := n.toNat) (fun i H' => ∃ A' m fs, Same A A' ∧ St H' (A' :: m :: R) ∧ Ob.isAt T A' m (.ref Dl) (⟨fs⟩ : Lst α) ∧ fs.length = i ∧ (bind (mapF body ((rangeL 0 n).drop i)) fun ys => f ⟨fs ++ ys⟩).wp Qr Er) ⟨A, _, [], Same.refl _, S.newM hD, ⟨Dl, [], one Dl (.lst []), [], rfl, ⟨Same.refl _, fun _ h => (nomatch h), trivial⟩, one_same, ⟨rfl, rfl, fun i _ _ _ h => (nomatch h)⟩, Nat.zero_le _⟩, rfl, ?_⟩ (fun i H' hi p => ?_) (fun H' p => ?_)
  · rw [List.drop_zero]
    rw [bind_assoc] at hm
    exact hm
  · obtain ⟨A', m, fs, e, S', ho, hl, hc⟩ := p
    have hxi : (rangeL 0 n)[i]? = some (0 + (i : Int)) := by
      unfold rangeL
      rw [List.getElem?_map, List.getElem?_range (by omega)]
      rfl
    refine ⟨hw _, ?_⟩
    rw [drop_of hxi] at hc
    unfold mapF at hc
    rw [bind_assoc] at hc
    show te _ H' _
    refine he (0 + (i : Int)) A' H' m _ _ e S' (fun A2 H2 n2 w y e2 S2 hy hC => ?_) (wp_bind hc)
    obtain ⟨us, m', a1, a2, a3, a4⟩ := fl_put (S2.pick 1 (Nat.le_of_ble_eq_true rfl)) (upO ho e2) hy (by show fs.length < sizeLine; omega)
    refine ⟨us, a1, a2, A2, m', fs ++ [y], e.trans e2, a3, a4, by rw [List.length_append, hl]; rfl, ?_⟩
    have hC : (bind (bind (mapF body ((rangeL 0 n).drop (i + 1))) fun ys => .ok (y :: ys)) fun ys => f ⟨fs ++ ys⟩).wp Qr Er := hC
    rw [bind_assoc] at hC
    have eq : (fun ys => f ⟨fs ++ [y] ++ ys⟩) = fun ys => bind (.ok (y :: ys)) fun zs => f (⟨fs ++ zs⟩ : Lst α) := by
      funext ys
      show f ⟨fs ++ [y] ++ ys⟩ = f ⟨fs ++ (y :: ys)⟩
      rw [List.append_assoc]
      rfl
    rw [eq]
    exact hC
  · obtain ⟨A', m, fs, e, S', ho, hl, hc⟩ := p
    rw [List.drop_of_length_le (by omega)] at hc
    have hc : (f ⟨fs ++ []⟩).wp Qr Er := hc
    rw [List.append_nil] at hc
    exact k Dl A' H' m ⟨fs⟩ hc e S' ho
end
/-! ### any count of things; a thing taken out and put back; two lists as one -/
def lstSet {α : Type} (s : Lst α) (i : Int) (x : α) : Lst α := match ixN s.l.length i with
  | some k => ⟨s.l.set k x⟩
  | none => s
def FlHole {α : Type} [Ob α] (T : Cs) (A rest : Hp) (v w : V) (i : Int) (s : Lst α) : Prop := ∃ (p : Addr) (vs : List V) (m0 : Hp) (ns : List Hp) (k : Nat), v = .ref p ∧ St rest (m0 :: ns.eraseIdx k) ∧ m0 p = some (.lst vs) ∧ s.l.length ≤ sizeLine ∧
  ixN s.l.length i = some k ∧ vs[k]? = some w ∧ ns.length = s.l.length ∧ vs.length = s.l.length ∧ ∀ (j : Nat) (n : Hp) (u : V) (f : α), j ≠ k → ns[j]? = some n → vs[j]? = some u → s.l[j]? = some f → Ob.isAt T A n u f
@[irreducible] def flCatR {ω α : Type} (s t : Lst α) : Res ω (Lst α) := if s.l.length + t.l.length ≤ sizeLine then .ok ⟨s.l ++ t.l⟩ else .bad
section
variable {ω γ α : Type} [Ob α] {Qr : γ → Prop} {Er : Exn → ω → Prop} {K : PySem.W.Frag} {T : Cs} {A m n H : Hp} {R l : List Hp} {v w : V} {Q : VK} {s t : Lst α} {i : Int} {x : α}
theorem FlHole.up {B rest : Hp} (h : FlHole T A rest v w i s) (e : Same A B) : FlHole T B rest v w i s := by
  obtain ⟨p, vs, m0, ns, k, h1, h2, h3, h8, h9, h10, h11, h12, h13⟩ := h
  exact ⟨p, vs, m0, ns, k, h1, h2, h3, h8, h9, h10, h11, h12, fun j n u f hj a b c => upO (h13 j n u f hj a b c) e⟩
theorem fl_openH (S : St H (A :: m :: R)) (h : Ob.isAt T A m v s) (hr : FlRef m v w i) (hx : atI s.l i = some x) :
    ∃ n rest, join n rest = m ∧ St H (A :: n :: rest :: R) ∧ Ob.isAt T A n w x ∧ FlHole T A rest v w i s := by
  obtain ⟨p, vs, m0, ns, rfl, h2, h3, h4, h5⟩ := h
  obtain ⟨p', vs', e1, e3, e4⟩ := hr
  cases e1
  have := (h2.1 _ _ h3).symm.trans e3
  cases this
  obtain ⟨k, hk, hxk⟩ := at_ix hx
  obtain ⟨k', hk', hwk⟩ := at_ix e4
  rw [h4.2.1, hk] at hk'
  cases hk'
  have hkl := (List.getElem?_eq_some_iff.mp hxk).1
  have hn : k < ns.length := by rw [h4.1]; exact hkl
  have S2 : St m (ns[k] :: m0 :: ns.eraseIdx k) := h2.perm (((perm_pick ns k hn).cons m0).trans (List.Perm.swap _ _ _))
  exact ⟨ns[k], minus m ns[k], join_minus S2.1, st_cut S S2.1, h4.2.2 k _ _ _ (List.getElem?_eq_getElem hn) hwk hxk, p, vs, m0, ns, k, rfl, st_minus S2, h3, h5, hk, hwk, h4.1, h4.2.1, fun j n u f _ a b c => h4.2.2 j n u f a b c⟩
theorem fl_close {B rest : Hp} (S : St H (B :: n :: rest :: R)) (h : FlHole T A rest v w i s) (hx : Ob.isAt T A n w x) : ∃ m', St H (B :: m' :: R) ∧ Ob.isAt T A m' v (lstSet s i x) := by
  obtain ⟨p, vs, m0, ns, k, rfl, h2, h3, h8, h9, h10, h11, h12, h13⟩ := h
  have hkl : k < ns.length := by
    have := (List.getElem?_eq_some_iff.mp h10).1
    omega
  refine ⟨join n rest, S.join2, p, vs, m0, ns.set k n, rfl, ?_, h3, ?_, ?_⟩
  · exact (st_in h2 S.2.2.dj).perm ((List.Perm.swap _ _ _).trans ((set_perm hkl).cons m0))
  · unfold lstSet
    rw [h9]
    refine ⟨by rw [List.length_set]; show _ = (s.l.set k x).length; rw [List.length_set]; exact h11, by show _ = (s.l.set k x).length; rw [List.length_set]; exact h12, fun j n' u f a b c => ?_⟩
    have c : (s.l.set k x)[j]? = some f := c
    by_cases hj : j = k
    · subst hj
      rw [List.getElem?_set_self hkl] at a
      rw [List.getElem?_set_self (by omega)] at c
      cases a
      cases c
      rw [h10] at b
      cases b
      exact hx
    · rw [List.getElem?_set_ne (Ne.symm hj)] at a c
      exact h13 j n' u f hj a b c
  · unfold lstSet
    rw [h9]
    show (s.l.set k x).length ≤ sizeLine
    rw [List.length_set]
    exact h8
theorem lva_nil : LvA T A [] [] ([] : List α) := ⟨rfl, rfl, fun i _ _ _ h => (nomatch h)⟩
theorem lva_cons {ns : List Hp} {vs : List V} {xs : List α} (hx : Ob.isAt T A n w x) (h : LvA T A ns vs xs) : LvA T A (n :: ns) (w :: vs) (x :: xs) := by
  refine ⟨congrArg (· + 1) h.1, congrArg (· + 1) h.2.1, fun i n' u f' a b c' => ?_⟩
  cases i with
  | zero =>
    cases a
    cases b
    cases c'
    exact hx
  | succ i => exact h.2.2 i n' u f' a b c'
theorem lva_append {ns ns' : List Hp} {vs vs' : List V} {xs xs' : List α} : LvA T A ns vs xs → LvA T A ns' vs' xs' → LvA T A (ns ++ ns') (vs ++ vs') (xs ++ xs') := by
  intro h h'
  induction ns generalizing vs xs with
  | nil =>
    have e1 : xs = [] := List.length_eq_zero_iff.mp h.1.symm
    subst e1
    have e2 : vs = [] := List.length_eq_zero_iff.mp h.2.1
    subst e2
    exact h'
  | cons n ns ih =>
    match vs, xs, h with
    | [], [], h => exact absurd h.1 (by simp)
    | [], _ :: _, h => exact absurd h.2.1 (by simp)
    | _ :: _, [], h => exact absurd h.2.1 (by simp)
    | u :: vs, y :: xs, h =>
      exact lva_cons (h.2.2 0 n u y rfl rfl rfl) (ih ⟨Nat.succ.inj h.1, Nat.succ.inj h.2.1, fun i n' u' f' a b c => h.2.2 (i + 1) n' u' f' a b c⟩)
theorem st_merge : ∀ {ns : List Hp} {m0 : Hp}, St H (A :: m0 :: (ns ++ R)) → ∃ m, St H (A :: m :: R) ∧ St m (m0 :: ns)
  | [], m0, S => ⟨m0, S, Same.refl _, fun _ h => (nomatch h), trivial⟩
  | n :: ns, m0, S => by
    have d : Dj m0 n := S.2.2.dj
    obtain ⟨m, S1, S2⟩ := st_merge (ns := ns) (m0 := join m0 n) S.join2
    refine ⟨m, S1, same_join_l.trans S2.1, fun q hq => ?_, (same_join_r d).trans S2.1, fun q hq b o u e e' => S2.2.1 q hq b o u (same_join_r d _ _ e) e', S2.2.2⟩
    cases hq with
    | head => exact d
    | tail _ hq => exact fun b o u e e' => S2.2.1 q hq b o u (same_join_l _ _ e) e'
theorem fl_lit {ns : List Hp} {vs : List V} {xs : List α} (S : St H (A :: (ns ++ R))) (h : LvA T A ns vs xs) (hn : xs.length ≤ sizeLine) (k : ∀ p m H', St H' (A :: m :: R) → Ob.isAt T A m (.ref p) (⟨xs⟩ : Lst α) → Q (.ref p) H') : NewL Q vs H := by
  refine ⟨by rw [h.2.1]; exact hn, fun p hp => ?_⟩
  obtain ⟨m, S1, S2⟩ := st_merge (S.newM (o := .lst vs) hp)
  exact k p m _ S1 ⟨p, vs, one p (.lst vs), ns, rfl, S2, one_same, h, hn⟩
theorem st_apart : ∀ {ns : List Hp} {m0 : Hp}, St H (A :: m :: R) → St m (m0 :: ns) → St H (A :: (ns ++ R))
  | [], m0, S, _ => ⟨S.1, fun q hq => S.2.1 q (List.mem_cons_of_mem _ hq), S.2.2.2.2⟩
  | n :: ns, m0, S, S2 => by
    have ih := st_apart (ns := ns) (m0 := m0) S ⟨S2.1, fun q hq => S2.2.1 q (List.mem_cons_of_mem _ hq), S2.2.2.2.2⟩
    refine ⟨ih.1, fun q hq => ?_, S2.2.2.1.trans S.2.2.1, fun q hq => ?_, ih.2.2⟩
    · cases hq with
      | head => exact fun b o u e e' => S.2.1 m List.mem_cons_self b o u e (S2.2.2.1 _ _ e')
      | tail _ hq => exact ih.2.1 q hq
    · rcases List.mem_append.mp hq with hq | hq
      · exact S2.2.2.2.1 q hq
      · exact fun b o u e e' => S.2.2.2.1 q hq b o u (S2.2.2.1 _ _ e) e'
theorem fl_cat {f : Lst α → Res ω γ} (S : St H (A :: m :: n :: R)) (h : Ob.isAt T A m v s) (h' : Ob.isAt T A n w t) (hm : (bind (flCatR s t) f).wp Qr Er)
    (k : ∀ z p m' H', (f z).wp Qr Er → St H' (A :: m' :: R) → Ob.isAt T A m' (.ref p) z → Q (.ref p) H') : rCat v w H Q := by
  obtain ⟨p, vs, m0, ns, rfl, h2, h3, h4, h5⟩ := h
  obtain ⟨p', vs', m0', ns', rfl, h2', h3', h4', h5'⟩ := h'
  unfold flCatR at hm
  by_cases c : s.l.length + t.l.length ≤ sizeLine
  case neg =>
    rw [if_neg c] at hm
    exact hm.elim
  rw [if_pos c] at hm
  refine ⟨p, p', vs, vs', rfl, rfl, S.second _ _ (h2.1 _ _ h3), S.2.2.2.2.1 _ _ (h2'.1 _ _ h3') , by rw [h4.2.1, h4'.2.1]; exact c, ?_⟩
  have S1 : St H (A :: (ns ++ (n :: R))) := st_apart S h2
  have S2 : St H (A :: n :: (ns ++ R)) := S1.perm (List.Perm.cons A List.perm_middle)
  have S3 : St H (A :: (ns' ++ (ns ++ R))) := st_apart S2 h2'
  have S4 : St H (A :: ((ns ++ ns') ++ R)) := S3.perm (List.Perm.cons A (by
    rw [← List.append_assoc]
    exact List.Perm.append_right R List.perm_append_comm))
  exact (fl_lit (Q := Q) S4 (lva_append h4 h4') (by rw [List.length_append]; exact c) fun q m' H' Sx hx => k _ q m' H' hm Sx hx).2
end
end SB

namespace SB
open PySem PySem.Spec PyProof.Rows L2 Res
/-! ## a number or a list -/
inductive IL where
  | i (n : Int) | l (xs : List Int)
  deriving DecidableEq
instance instIL : Rep IL := ⟨fun A v x => match x with
  | .i n => v = .int n
  | .l xs => Rep.is A v xs, fun {A B v x} e h => match x, h with
  | .i _, h => h
  | .l _, h => Rep.mono e h⟩
instance instSIL : RepS IL where
  D := fun x => match x with
    | .i n => .int n
    | .l xs => RepS.D xs
  ok := fun _ => true
  nn := fun x h => by cases x <;> cases h
  dp := fun {K A H v x} e h => match x, h with
    | .i n, h => by
      have h : v = .int n := h
      subst h
      exact .int n
    | .l xs, h => RepS.dp (α := List Int) e h
  shp := fun x _ => match x with
    | .i _ => rfl
    | .l xs => RepS.shp xs (by show xs.all (fun _ => true) = true; rw [List.all_eq_true]; exact fun _ _ => rfl)
  deep := 1
  dpt := fun x => match x with
    | .i _ => Nat.zero_le _
    | .l xs => RepS.dpt xs
  eqv := fun x y => match x, y with
    | .i n, .i m => by
      show (n == m) = true ↔ _
      rw [beq_iff_eq]
      exact ⟨fun h => by rw [h], fun h => IL.i.inj h⟩
    | .l xs, .l ys => by
      show PyData.eqv (RepS.D xs) (RepS.D ys) = true ↔ _
      rw [RepS.eqv]
      exact ⟨fun h => by rw [h], fun h => IL.l.inj h⟩
    | .i n, .l ys => ⟨fun h => (nomatch h), fun h => (nomatch h)⟩
    | .l xs, .i m => ⟨fun h => (nomatch h), fun h => (nomatch h)⟩
@[irreducible] def ilR {ω : Type} (x : IL) : Res ω (List Int) := match x with
  | .l xs => .ok xs
  | .i _ => .bad
section
variable {ω γ : Type} {Qr : γ → Prop} {Er : Exn → ω → Prop} {K : PySem.W.Frag} {A H : Hp} {R : List Hp} {v : V} {Q : VK} {P : Prop} {α : Type} [Rep α]
theorem il_int {n : Int} : Is A (.int n) (IL.i n) := rfl
theorem il_list {xs : List Int} (h : Is A v xs) : Is A v (IL.l xs) := h
theorem il_pairI {x : α} {n : Int} (h : Is A v (x, n)) : Is A v (x, IL.i n) := h
theorem il_pairL {x : α} {xs : List Int} (h : Is A v (x, xs)) : Is A v (x, IL.l xs) := h
theorem un_il {x : IL} {f : List Int → Res ω γ} (h : Is A v x) (hm : (bind (ilR x) f).wp Qr Er) (k : ∀ y, Is A v y → (f y).wp Qr Er → P) : P := by
  unfold ilR at hm
  cases x with
  | i n => exact hm.elim
  | l xs => exact k xs h hm
/-! ## len(set(xs)) -/
@[irreducible] def lenSetR (xs : List Int) : Res ω Int := if xs.Nodup ∧ xs.length ≤ 4000 then .ok (xs.length : Int) else .bad
def LenSetV (K : PySem.W.Frag) (v : V) (H : Hp) (Q : VK) : Prop := ∃ (l : Addr) (ns : List Int), v = .ref l ∧ SqL K H l (ns.map V.int) ∧ ns.Nodup ∧ ns.length ≤ 4000 ∧ Q (.int (ns.length : Nat)) H
theorem c_lenSet {xs : List Int} {f : Int → Res ω γ} (h : LA A H v xs) (hm : (bind (lenSetR xs) f).wp Qr Er) (k : ∀ n, (f n).wp Qr Er → Q (.int n) H) : LenSetV K v H Q := by
  obtain ⟨a, vs, rfl, h1, h2⟩ := h
  unfold lenSetR at hm
  by_cases c : xs.Nodup ∧ xs.length ≤ 4000
  · rw [if_pos c] at hm
    rw [h2.int] at h1
    exact ⟨a, xs, rfl, SqL.of h1, c.1, c.2, k _ hm⟩
  · rw [if_neg c] at hm
    exact hm.elim
theorem c_tlenset {σ : L2.St} {te : TE} (h : te σ H fun x H1 => LenSetV K x H1 Q) : RZ.tLenSetI K te σ H Q := h
end
end SB

namespace SB
open PySem PySem.Spec PyProof.Rows L2 Res
/-! ## a body or a field -/
structure AnyF where
  t : Bool
  s : FS t
instance instObAny : Ob AnyF := ⟨fun T A m v x => Ob.isAt T A m v x.s, fun e h => Ob.mono e h⟩
def anyR {ω α : Type} (x : AnyF) (F : (t : Bool) → FS t → Res ω α) : Res ω α := F x.t x.s
@[irreducible] def fldR {ω : Type} {t : Bool} (x : FS t) : Res ω (FS true) := match t, x with
  | true, x => .ok x
  | false, _ => .bad
def tAny (r : Bool → TS) : TS := fun D σ H => ∃ t, r t D σ H
theorem pss_any {X : Cx} {body : List Stmt} {r : Bool → TS} (h : ∀ t, PSs X body (r t)) : PSs X body (tAny r) := ⟨fun pins s σ H D I ⟨t, k⟩ => (h t).run pins s σ H D I k⟩
section
variable {ω α : Type} {T : Cs} {A m H : Hp} {R : List Hp} {v : V} {Q : α → Prop} {E : Exn → ω → Prop} {G : Prop} {K : PySem.W.Frag} {VQ : VK}
theorem any_mk {t : Bool} {x : FS t} (h : Ob.isAt T A m v x) : Ob.isAt T A m v (AnyF.mk t x) := h
theorem c_any {x : AnyF} {F : (t : Bool) → FS t → Res ω α} (h : (anyR x F).wp Q E) (hf : Ob.isAt T A m v x) (k : ∀ t (z : FS t), Ob.isAt T A m v z → (F t z).wp Q E → G) : G := k x.t x.s hf h
theorem un_fld {t : Bool} {x : FS t} {f : FS true → Res ω α} (h : Ob.isAt T A m v x) (hm : (bind (fldR x) f).wp Q E) (k : ∀ y : FS true, Ob.isAt T A m v y → (f y).wp Q E → G) : G := by
  unfold fldR at hm
  cases t with
  | true => exact k x h hm
  | false => exact hm.elim
/-! ## xs == [], whatever its things are -/
def rEqNil (K : PySem.W.Frag) : R2 := fun x y H Q => ∃ a b xs, x = .ref a ∧ y = .ref b ∧ SqL K H a xs ∧ SqL K H b [] ∧ Q (.bl (decide (xs = []))) H
theorem op_eqNil {X : Cx} (hu : X.A.units + 64 < cLine) : OpR X (compareOp .Eq) (rEqNil X.K) := by
  intro pins s σ H x y v u Q I rx ry h
  obtain ⟨a, b, xs, rfl, rfl, h1, h2, q⟩ := h
  cases rx
  cases ry
  obtain ⟨its, r1, p1, _⟩ := I.list h1
  obtain ⟨its2, r2, p2, _⟩ := I.list h2
  cases r2
  show wpAny _ _ (richCompare .Eq (.ref a) (.ref b)) _ _ _
  by_cases c : xs = []
  · subst c
    cases r1
    exact PySem.SeqAt.RcAt.lists (e := fun _ => true) p1.isList p2.isList rfl (by omega) (fun j h1 => absurd h1 (Nat.not_lt_zero _)) _ _ _ _ ⟨.bl _, H, I, rfl, q⟩
  · refine PySem.SeqAt.RcAt.lists_lengths p1.isList p2.isList ?_ (by omega) _ _ _ _ ⟨.bl false, H, I, rfl, ?_⟩
    · have hl := r1.length
      have : 0 < xs.length := List.length_pos_iff.mpr c
      rw [List.size_toArray, ← hl]
      show (xs.length != 0) = true
      rw [bne_iff_ne]
      omega
    · rw [decide_eq_false c] at q
      exact q
theorem fl_eqNil {α : Type} [Ob α] {s : Lst α} {u : V} (S : St H (A :: m :: R)) (h : Ob.isAt T A m v s) (hu : LA A H u ([] : List Int)) (k : VQ (.bl (decide (s.l.length = 0))) H) : rEqNil K v u H VQ := by
  obtain ⟨p, vs, m0, ns, rfl, h2, h3, h4, h5⟩ := h
  obtain ⟨a, ws, rfl, h6, h7⟩ := hu
  have e : ws = [] := List.length_eq_zero_iff.mp h7.len
  subst e
  refine ⟨p, a, vs, rfl, rfl, SqL.of (S.second _ _ (h2.1 _ _ h3)), SqL.of h6, ?_⟩
  have : decide (vs = []) = decide (s.l.length = 0) := by
    rw [← h4.2.1]
    by_cases c : vs = []
    · rw [c]
      rfl
    · rw [decide_eq_false c, decide_eq_false fun z => c (List.length_eq_zero_iff.mp z)]
  rw [this]
  exact k
end
/-! ## [Body(), Field()][i] -/
@[irreducible] def pickR {ω : Type} (t : Bool) (i : Int) : Res ω (FS t) := if i = (if t = true then 1 else 0) then .ok (emptyF t) else .bad
section
variable {ω α γ : Type} {T : Cs} {A m1 m2 H : Hp} {R : List Hp} {v1 v2 : V} {Q : VK} {Qr : γ → Prop} {Er : Exn → ω → Prop} {G : Prop} {K : PySem.W.Frag} {p : Addr} {i : Int}
theorem c_pre {ω' : Type} {m : Res ω' α} {f : α → Res ω γ} (h : (bind (noex m) f).wp Qr Er) (k : ∀ y, (f y).wp Qr Er → G) : G := by
  cases m with
  | ok a => exact k a h
  | ex e w => exact h.elim
  | bad => exact h.elim
theorem c_two (S : St H (A :: m1 :: m2 :: R)) (k : ∀ p H', St H' (A :: one p (.lst [v1, v2]) :: m1 :: m2 :: R) → Q (.ref p) H') : NewL Q [v1, v2] H := ⟨by show 2 ≤ sizeLine; decide, fun p hp => k p _ (S.newM hp)⟩
theorem c_pick2 {t : Bool} {f : FS t → Res ω γ} (S : St H (A :: one p (.lst [v1, v2]) :: m1 :: m2 :: R)) (h1 : Ob.isAt T A m1 v1 (emptyF false)) (h2 : Ob.isAt T A m2 v2 (emptyF true)) (hm : (bind (pickR t i) f).wp Qr Er) (k : ∀ w m, (f (emptyF t)).wp Qr Er → St H (A :: m :: R) → Ob.isAt T A m w (emptyF t) → Q w H) : rIxL K (.ref p) (.int i) H Q := by
  unfold pickR at hm
  by_cases c : i = (if t = true then 1 else 0)
  case neg =>
    rw [if_neg c] at hm
    exact hm.elim
  rw [if_pos c] at hm
  have hp : H p = some (.lst [v1, v2]) := S.second _ _ one_same
  have S2 : St H (A :: m1 :: m2 :: R) := ⟨S.1, fun n hn => S.2.1 n (List.mem_cons_of_mem _ hn), S.2.2.2.2⟩
  cases t with
  | false =>
    have c : i = 0 := c
    subst c
    exact ⟨p, _, 0, v1, rfl, rfl, SqL.of hp, rfl, k v1 m1 hm ⟨S2.1, fun n hn => S2.2.1 n (by
      cases hn with
      | head => exact List.mem_cons_self
      | tail _ h => exact List.mem_cons_of_mem _ (List.mem_cons_of_mem _ h)), S2.2.2.1, fun n hn => S2.2.2.2.1 n (List.mem_cons_of_mem _ hn), S2.2.2.2.2.2.2⟩ h1⟩
  | true =>
    have c : i = 1 := c
    subst c
    exact ⟨p, _, 1, v2, rfl, rfl, SqL.of hp, rfl, k v2 m2 hm ⟨S2.1, fun n hn => S2.2.1 n (List.mem_cons_of_mem _ hn), S2.2.2.2.2⟩ h2⟩
end
end SB

namespace SB
open PySem PySem.Spec PyProof.Rows L2 Res
/-! ## an exception out of a call in a list comprehension's element -/
/-- a block's context, with a wish about exceptions -/
abbrev Bx (X : Cx) (s : Shared) (H : Hp) (sc : Scope) (ce : Env) (fp : List Addr) (xe : Value → Shared → Prop) : Cx := (X.blk s H sc ce fp).wish xe
section
variable {X : Cx} {pins pb : List (Addr × Obj)} {σ σb : L2.St} {H3 H : Hp} {s3 s s' : Shared} {scope : Scope} {ce : Env} {fp : List Addr} {E : XK} {u : Value}
theorem blk_out (hstk : X.stack = X.env :: X.outer) (hfr : X.env.frame = some X.env.locals) (tk : Takes X (fun cls d _ H => E cls d H)) (I3 : Inv X pins σ H3 s3) (hce : ce.frame = X.env.frame) (hC : ce.locals = s3.heap.objs.size)
    (hfp : ∀ b ∈ fp, FpOk X pins H3 b) (I : Inv (X.blk s3 H3 scope ce fp) pb σb H s) (c : L2.CX X.prog X.w X.stack H s E u s') :
    notedBy (model X.prog X.w) X.A ce (CompFails (model X.prog X.w) X.A X.xe ce) u s' := by
  obtain ⟨a, B, H', cls, d, rfl, fl, hok, ub, na, os, ag, hE⟩ := c
  obtain ⟨m, hn, -⟩ := I.loc
  have hn : s.heap.Ns ce.locals m := hn
  have hCn : H ce.locals = none := I.free
  obtain ⟨oC, es, ep, hoC, hdC, rC⟩ := id hn
  have old : ∀ {b o}, s3.heap.get? b = some o → b ≠ ce.locals := fun e z => by
    have := Heap.lt_size e
    rw [z, hC] at this
    exact absurd this (Nat.lt_irrefl _)
  have nst : ∀ {b}, b ∈ frs X.stack → b ≠ ce.locals := fun hb => by
    obtain ⟨_, o, ho, _⟩ := I3.stack.mem hb
    exact old ho
  have BC : B.get? ce.locals = some oC := ub.keep _ _ hoC hCn fun hb => nst hb rfl
  have HC : H' ce.locals = none := ub.free _ _ hoC hCn
  obtain ⟨B2, b1, b2⟩ := restrict B fun b => decide (b ≠ ce.locals)
  have le : ∀ b o, B2.get? b = some o → B.get? b = some o ∧ b ≠ ce.locals := fun b o e => by
    by_cases z : b = ce.locals
    · rw [b2 b (by simp [z])] at e
      cases e
    · rw [b1 b (by simp [z])] at e
      exact ⟨e, z⟩
  have ge : ∀ b o, B.get? b = some o → b ≠ ce.locals → B2.get? b = some o := fun b o e z => (b1 b (by simp [z])).trans e
  have no : ∀ b, B.get? b = none → B2.get? b = none := fun b e => by
    cases q : B2.get? b with
    | none => rfl
    | some o =>
      rw [(le b o q).1] at e
      cases e
  have hok2 : HOk X.prog X.w H' B2 := fun b o q => (hok b o q).stay (fun c v hc r => ge c v r fun z => by
    subst z
    rcases hc with hc | hc
    · rw [← hc, HC] at q
      cases q
    · rw [HC] at hc
      cases hc) (fun _ r => r) (fun _ _ r => r)
  have fl2 : HandSPX.FlyingZ B2 (X.env :: X.outer) a (Zc cls d) s'.heap := by
    rw [← hstk]
    obtain ⟨f1, f2, f3, oe, vs, T, oT, ts, g1, g2, g3, g4, g5, g6⟩ := fl
    exact ⟨fun b o e => f1 b o (le b o e).1, no _ f2, funFrames_none f3 fun b hb => no b (f3.mem hb).1, oe, vs, T, oT, ts, g1, g2, g3, g4, no _ g5, g6⟩
  have frA : X.A.frames = some (X.env :: X.outer) := by rw [I3.ok.frames, hstk]
  have C' : s'.heap.get? ce.locals = some oC := fl.1 _ _ BC
  have nfC : ∀ vs, oC.data ≠ .fields vs := fun vs z => by
    rw [hdC] at z
    cases z
  show wpAny _ _ (noteFrame (.ref a) ce) _ _ s'
  rw [noteFrame_env _ hce]
  refine HandSPX.looks_onZ Zc.steady frA hfr fl2 fun h1 hh up1 => ?_
  obtain ⟨sl1, C1⟩ := up1 _ _ C' nfC
  refine ⟨m, ⟨_, es, ep, C1, hdC, rC⟩, fun h2 m2 hn2 sb => ?_⟩
  obtain ⟨g1, g2, g3, oe, vs, T, oT, ts, t1, t2, t3, t4, t5, t6, t7, t8, t9⟩ := hh
  have isC : ∀ {b o ws}, h1.get? b = some o → o.data = .fields ws → b ≠ ce.locals := fun e z q => by
    rw [q, C1] at e
    cases e
    exact nfC _ z
  have hh2 : HandSPX.HeldZ B2 (X.env :: X.outer) a (Zc cls d) X.env.locals h2 := ⟨fun b o e => (sb.2 b (le b o e).2).trans (g1 b o e), g2, Heap.FunFrames.sameBut sb hn2 g3, oe, vs, T, oT, ts, (sb.2 _ (isC t1 t3)).trans t1, t2, t3, t4, t5, t6, (sb.2 _ (isC t7 t8)).trans t7, t8, t9⟩
  unfold PySem.passOn
  refine wpAny_bind (wpAny_field ((sb.2 _ (isC t1 t3)).trans t1) t3 t4 ?_)
  rw [if_neg (show ¬ ((Value.ref T == Value.none) = true) from by simp), hce, hfr]
  refine wpAny_bind (HandSPX.setFlight_onZ hh2 fun h3 hh3 up3 => wpAny_throw (tk _ _ ?_))
  obtain ⟨G, q1, q2⟩ := restrict h3 fun b => (B2.get? b).isSome || decide (b ∈ frs X.stack)
  have GB : ∀ b o, B2.get? b = some o → G.get? b = some o := fun b o e => (q1 b (by simp [e])).trans (hh3.1 b o e)
  have GF : ∀ b, b ∈ frs X.stack → G.get? b = h3.get? b := fun b hb => q1 b (by simp [hb])
  have og : ∀ b o, G.get? b = some o → h3.get? b = some o ∧ ((B2.get? b).isSome = true ∨ b ∈ frs X.stack) := fun b o e => by
    cases q : ((B2.get? b).isSome || decide (b ∈ frs X.stack)) with
    | false =>
      rw [q2 b q] at e
      cases e
    | true => exact ⟨(q1 b q).symm.trans e, by simpa [Bool.or_eq_true] using q⟩
  have up : ∀ b o, s'.heap.get? b = some o → (∀ ws, o.data ≠ .fields ws) → b ≠ ce.locals → ∃ sl, h3.get? b = some { o with slots := sl } := fun b o e nf z => by
    obtain ⟨x1, e1⟩ := up1 b o e nf
    obtain ⟨x2, e2⟩ := up3 b _ ((sb.2 b z).trans e1) nf
    exact ⟨x2, e2⟩
  have fslot : ∀ b o, s3.heap.get? b = some o → H3 b = none → b ∈ frs X.stack → b ∉ fp → ∃ sl, h3.get? b = some { o with slots := sl } := fun b o e n hb hx => by
    obtain ⟨x1, e1⟩ := I.base.slot b o e n hb hx
    obtain ⟨x2, e2⟩ := ub.slot b _ e1 hb
    obtain ⟨_, o', ho', nf⟩ := I3.stack.mem hb
    rw [e] at ho'
    cases ho'
    obtain ⟨x3, e3⟩ := up b _ e2 nf (nst hb)
    exact ⟨x3, e3⟩
  refine ⟨a, B2, { s3 with heap := G, gens := s'.gens, drawn := s'.drawn, toks := s'.toks }, pins, σ, H', cls, d, rfl, ?_, fun b o e hb => ?_, Heap.UpToSlots.of_keeps fun b o e => (og b o e).1, .inr (.inr ?_), na, os.trans I.os, ag, hE⟩
  · refine I3.call (ch := fp) ⟨fun b o e n hb hx => ?_, fun b o e n hb hx => ?_, fun b o e n hx => ?_, fun b o e hx => ?_, fun b xs e => ub.tups b xs (I.base.tups b xs e), fun b o xs e => ub.frzs b o xs (I.base.frzs b o xs e), fun b ps e => ?_⟩ (hok2.kept GB) ag fun b hb => ?_
    · exact GB b o (ge b o (ub.keep b o (I.base.keep b o e n hb hx) (I.base.free b o e n hx) hb) (old e))
    · obtain ⟨sl, q⟩ := fslot b o e n hb hx
      exact ⟨sl, (GF b hb).trans q⟩
    · obtain ⟨sl, q⟩ := I.base.any e n hx
      exact ub.free b _ q (I.base.free b o e n hx)
    · obtain ⟨o1, e1⟩ := I.base.there b o e hx
      by_cases hb : b ∈ frs X.stack
      · obtain ⟨x2, e2⟩ := ub.slot b _ e1 hb
        have nf : ∀ ws, o1.data ≠ .fields ws := by
          have st := fl.2.2.1.mem hb
          obtain ⟨_, o', ho', nf⟩ := st
          rw [e2] at ho'
          cases ho'
          exact nf
        obtain ⟨x3, e3⟩ := up b _ e2 nf (nst hb)
        exact ⟨_, (GF b hb).trans e3⟩
      · obtain ⟨o2, e2⟩ := ub.there b o1 e1 hb
        exact ⟨o2, GB b o2 (ge b o2 e2 (old e))⟩
    · obtain ⟨m1, e1⟩ := I.base.tbls b ps e
      obtain ⟨m2, e2⟩ := ub.tbls b _ e1
      exact ⟨m1 ++ m2, by rw [e2, Array.append_assoc]⟩
    · obtain ⟨f0, f1, f2, f3, f4, f5⟩ := hfp b hb
      exact ⟨f3, f1, f4, f5⟩
  · obtain ⟨e', h⟩ := og b o e
    rcases h with h | h
    · obtain ⟨o', q⟩ := Option.isSome_iff_exists.mp h
      have z := hh3.1 b o' q
      rw [e'] at z
      cases z
      exact q
    · exact absurd h hb
  · rw [hstk]
    exact hh3
end
section
variable {X : Cx}
theorem lcx_core {pins : List (Addr × Obj)} {s0 : Shared} {σ : L2.St} {H : Hp} {Q : VK} {elt tg iter : Expr} {ifs : List Expr} {scope : Scope} {own : List (Str × Nat)} {pos pos' : Pos} {wi : TI} {g : TG} {tt : TT} {te : TE} {E : XK} {use : Option (Value → Sem Unit)} {Qf : Value → Shared → Prop}
    (hstk : X.stack = X.env :: X.outer) (hfr : X.env.frame = some X.env.locals) (tk : Takes X (fun cls d _ H => E cls d H)) (hc : X.calm = true) (hN : X.N.Nodup) (I0 : Inv X pins σ H s0) (hi : PI X tg iter wi) (ok : BlkOk X.N X.env.scope scope own)
    (hg : ∀ s H C cl fp xe, PG (Bx X s H scope (compEnvC scope cl C X.env) fp xe) tg g) (ht : ∀ s H C cl fp xe, PTs (Bx X s H scope (compEnvC scope cl C X.env) fp xe) ifs tt)
    (he : ∀ s H C cl fp xe, Passes (L2.CX X.prog X.w) (Bx X s H scope (compEnvC scope cl C X.env) fp xe) E → PE (Bx X s H scope (compEnvC scope cl C X.env) fp xe) elt te) (hs : ∀ x, foldedSetIterable iter X.env x = pure x)
    (h : tLc wi g tt te (own.map (·.2)) σ H Q)
    (fin : ∀ D ce s' m H', Inv X pins σ H' s' → Q (.ref D) H' → s'.heap.Ns ce.locals m → FpOk X pins H' ce.locals → compEnds (model X.prog X.w) X.A X.xe use Qf (.ref D) ce (.ok .next) s') :
    wpAny (model X.prog X.w) X.A (comprehension (.ListComp elt [⟨tg, iter, ifs, 0⟩] scope pos) scope X.env pos' (newList []) false (eval iter X.env) use) Qf X.xe s0 := by
  have free : ∀ y ∈ scope.names, y.2 = .free → ∃ c, X.env.cells.lookup y.1 = some c := fun y hy e => (ok.free y hy e).elim (fun k => I0.ok.has _ (.inl k)) fun k => I0.ok.has _ (.inr k)
  refine comprehension_at (use := use) rfl hs (closure_ok free) ok.kind (fun y hy e => (ok.uniq y hy).trans (by rw [e])) (thn (hi.run pins s0 σ H _ I0 h) fun _ _ hx => thn hx fun _ t2 h2 => ?_)
  obtain ⟨it, fp, tn, J, H2, rfl, I2, T, st2, f2, q⟩ := h2
  refine wpAny_newObj_type (newEnv_comp ?_) (by show 0 ≤ sizeLine; decide)
  obtain ⟨D, hD⟩ : ∃ D, t2.heap.objs.size = D := ⟨_, rfl⟩
  rw [hD]
  obtain ⟨W, ⟨m0, w0⟩, turn⟩ := q D (I2.hok.fresh (Nat.le_of_eq hD))
  obtain ⟨t3, ht3⟩ : ∃ t3 : Shared, ({ t2 with heap := t2.heap.push { cls := .type "list", data := .seq ([] : List Value).toArray } } : Shared) = t3 := ⟨_, rfl⟩
  rw [ht3]
  have hp3 : t3.heap = t2.heap.push { cls := .type "list", data := .seq ([] : List Value).toArray } := by rw [← ht3]
  have I3 : Inv X pins σ (upd H2 D (.lst [])) t3 := by
    rw [← ht3]
    exact I2.laid (t' := t2.toks) (fun b o e => Heap.get?_push_of_some _ e) (Nat.le_of_eq hD) ⟨Nat.zero_le _, [], 0, .nil, by rw [← hD]; exact Heap.get?_push_size _ rfl⟩
  have lt2 : ∀ b ∈ fp, b < t2.heap.objs.size := fun b hb => by
    obtain ⟨o, e, _⟩ := T.obj _ _ st2 b hb
    exact Heap.lt_size e
  have f3 : ∀ b ∈ fp, FpOk X pins (upd H2 D (.lst [])) b := fun b hb => ⟨(upd_ne (by rw [← hD]; exact Nat.ne_of_lt (lt2 b hb))).trans (f2 b hb).1, (f2 b hb).2⟩
  have st3 : tn 0 t3.heap := T.keep _ _ _ st2 fun b _ o e => by rw [hp3]; exact Heap.get?_push_of_some _ e
  have I4 := block_start I3 ok hN fun b hb => ⟨f3 b hb, by rw [hp3, Heap.size_push]; exact Nat.lt_succ_of_lt (lt2 b hb)⟩
  obtain ⟨cl, hcl⟩ : ∃ cl, cellsFrom (t3.heap.objs.size + 1) scope.names (cloFrom X.env.cells scope.names []) = cl := ⟨_, rfl⟩
  rw [hcl] at I4
  rw [show (newEnv scope t3.heap.objs.size X.env.globals (cellsFrom (t3.heap.objs.size + 1) scope.names (cloFrom X.env.cells scope.names [])) X.env.qual none Value.none (some X.env) builtinsNs) = newEnv scope t3.heap.objs.size X.env.globals cl X.env.qual none .none (some X.env) builtinsNs from by rw [hcl]]
  show codeAny _ _ (.compStart (.ListComp elt [⟨tg, iter, ifs, 0⟩] scope pos) 0 (.ref it) (.ref D) (compEnvC scope cl t3.heap.objs.size X.env)) (compEnds (model X.prog X.w) X.A X.xe use Qf (.ref D) (compEnvC scope cl t3.heap.objs.size X.env)) _
  have pg := hg t3 (upd H2 D (.lst [])) t3.heap.objs.size cl fp
  have pt := ht t3 (upd H2 D (.lst [])) t3.heap.objs.size cl fp
  have pe := he t3 (upd H2 D (.lst [])) t3.heap.objs.size cl fp
  have zero : ∀ b ∈ fp, (upd H2 D (.lst [])) b = none := fun b hb => (f3 b hb).1
  obtain ⟨ce, hce⟩ : ∃ ce, compEnvC scope cl t3.heap.objs.size X.env = ce := ⟨_, rfl⟩
  rw [hce] at I4 pg pt pe ⊢
  have cL : ce.locals = t3.heap.objs.size := by rw [← hce]; rfl
  have cF : ce.frame = X.env.frame := by rw [← hce]; rfl
  generalize upd H2 D (.lst []) = H3 at *
  obtain ⟨t4, ht4⟩ : ∃ t4 : Shared, ({ t3 with heap := pushCells (t3.heap.push { cls := .type "dict", data := .dict #[] }) scope.names } : Shared) = t4 := ⟨_, rfl⟩
  rw [ht4] at I4 ⊢
  have st4 : tn 0 t4.heap := T.keep _ _ _ st3 fun b _ o e => by rw [← ht4]; exact pushCells_keeps _ _ _ _ (Heap.get?_push_of_some _ e)
  obtain ⟨xe, hxe⟩ : ∃ xe, (notedBy (model X.prog X.w) X.A ce fun e s' => compEnds (model X.prog X.w) X.A X.xe use Qf (.ref D) ce (.error e) s') = xe := ⟨_, rfl⟩
  have pass : Passes (L2.CX X.prog X.w) (Bx X t3 H3 scope ce fp xe) E := fun _ _ _ _ e s' I c => by
    have z := blk_out hstk hfr tk I3 cF cL f3 I.unwish c
    show xe e s'
    rw [← hxe]
    exact z
  have pg := pg xe
  have pt := pt xe
  have pe := pe xe pass
  have I4 := I4.wish xe
  have stat : ∀ {σ' : L2.St} {H' : Hp} {s' : Shared}, Inv (Bx X t3 H3 scope ce fp xe) [] σ' H' s' → (∀ b ∈ fp, H' b = none) → ∀ b ∈ fp, FpOk (Bx X t3 H3 scope ce fp xe) [] H' b := fun I' hn b hb =>
    ⟨hn b hb, (I'.ok.exf b hb).1, I'.ok.exfs b hb, .inl hb, (I'.ok.exf b hb).2, fun p hp => absurd (show p ∈ ([] : List (Addr × Obj)) ++ [] from hp) (by simp)⟩
  have loop : codeAny (model X.prog X.w) X.A (.compLoop (.ListComp elt [⟨tg, iter, ifs, 0⟩] scope pos) 0 (.ref it) (.ref D) ce) (compEnds (model X.prog X.w) X.A X.xe use Qf (.ref D) ce) t4 := by
    refine compLoop_any (fun n s' => ∃ i H', Inv (Bx X t3 H3 scope ce fp xe) [] (wipe σ (own.map (·.2))) H' s' ∧ tn i s'.heap ∧ (∀ b ∈ fp, H' b = none) ∧ W i n H') ?_ m0 ⟨0, H3, I4, st4, zero, w0⟩
    rintro n t5 ⟨i, H5, I5, st5, n5, w5⟩
    rw [hxe]
    rcases turn i n H5 w5 with ⟨stop, qq⟩ | ⟨go, Nx, hNx, step⟩
    · refine thnF (T.done (Bx X t3 H3 scope ce fp xe) rfl rfl rfl hc i [] t5 _ H5 (fun _ _ => False) I5 (stat I5 n5) st5 stop) fun r t6 ⟨hr, I6⟩ => ?_
      subst hr
      have nC : H5 ce.locals = none := I6.free
      obtain ⟨m, hn, _⟩ := I6.loc
      refine fin D ce t6 m H5 (I3.call' (ch := fp) I6.os I6.base I6.hok I6.bare fun b hb => ?_) qq hn (I3.fpOk (Nat.le_of_eq cL.symm) nC)
      obtain ⟨_, k1, _, k3, k4, k5⟩ := f3 b hb
      exact ⟨k3, k1, k4, k5⟩
    · refine thnF (T.item (Bx X t3 H3 scope ce fp xe) rfl rfl rfl hc i [] t5 _ H5 (fun _ _ => False) I5 (stat I5 n5) st5 go) fun r t6 ⟨v, hr, h6⟩ => ?_
      subst hr
      refine thnF h6 fun _ t7 ⟨x, H7, I7, r7, y7, st7, n7⟩ => ?_
      refine thn (pg.run _ t7 _ H7 x v _ (I7.pinned (stat I7 n7) (T.obj _ _ st7)) r7 (step x H7 y7)) fun _ t8 ⟨σ8, H8, I8, hw8, q8⟩ => ?_
      refine thn (pt.run _ t8 σ8 H8 _ I8 q8) fun b t9 ⟨H9, I9, q9⟩ => ?_
      have next : ∀ {s' : Shared} {H' : Hp}, Inv (Bx X t3 H3 scope ce fp xe) ([] ++ pinsAt fp t7.heap) σ8 H' s' → Nx H' → ∃ k, k < n ∧ ∃ i H', Inv (Bx X t3 H3 scope ce fp xe) [] (wipe σ (own.map (·.2))) H' s' ∧ tn i s'.heap ∧ (∀ b ∈ fp, H' b = none) ∧ W i k H' := fun {s' H'} I' nx => by
        obtain ⟨k, hk, w'⟩ := hNx H' nx
        have pin : ∀ b ∈ fp, ∀ o, t7.heap.get? b = some o → s'.heap.get? b = some o ∧ H' b = none := fun b hb o e => by
          obtain ⟨z1, z2, _⟩ := I'.pin (b, o) (List.mem_append_right _ (List.mem_append_right _ (mem_pinsAt hb e)))
          exact ⟨z1, z2⟩
        refine ⟨k, hk, i + 1, H', (I'.unpinned (pins := [])).weak (by rw [← hw8, wipe_length]) (fun j v e => ?_), T.keep _ _ _ st7 fun b hb o e => (pin b hb o e).1, fun b hb => ?_, w'⟩
        · rw [← hw8] at e
          exact (wipe_some e).1
        · obtain ⟨o, e, _⟩ := T.obj _ _ st7 b hb
          exact (pin b hb o e).2
      cases b with
      | false =>
        simp only [Bool.false_eq_true, if_false] at q9 ⊢
        exact next I9 q9
      | true =>
        simp only [if_true] at q9 ⊢
        exact thn (pe.run _ t9 σ8 H9 _ I9 q9) fun z t10 ⟨yv, H10, I10, r10, acc, hD10, hz10, nx⟩ => app_ok (X := Bx X t3 H3 scope ce fp xe) I10 hD10 hz10 r10 fun _ I11 => next I11 nx
  exact codeAny_compStart_list loop (T.self X.A 0 _ _ _ st4 loop)
/-- name = [..] on one line, the name a local; a call in the element may raise -/
theorem ps_setLcX {i : Nat} {y : Str} {py : Pos} {elt tg iter : Expr} {ifs : List Expr} {scope : Scope} {own : List (Str × Nat)} {pos spos : Pos} {wi : TI} {g : TG} {tt : TT} {te : TE} {E : XK}
    (hstk : X.stack = X.env :: X.outer) (hfr : X.env.frame = some X.env.locals) (tk : Takes X (fun cls d _ H => E cls d H)) (hc : X.calm = true) (hN : X.N.Nodup) (hy : X.N[i]? = some y) (hyl : X.env.scope.names.lookup y = some .local)
    (hsw : swapsWith (.ListComp elt [⟨tg, iter, ifs, 0⟩] scope pos) (some (.Name y py)) spos.line X.env = pure true) (hi : PI X tg iter wi) (ok : BlkOk X.N X.env.scope scope own)
    (hg : ∀ s H C cl fp xe, PG (Bx X s H scope (compEnvC scope cl C X.env) fp xe) tg g) (ht : ∀ s H C cl fp xe, PTs (Bx X s H scope (compEnvC scope cl C X.env) fp xe) ifs tt)
    (he : ∀ s H C cl fp xe, Passes (L2.CX X.prog X.w) (Bx X s H scope (compEnvC scope cl C X.env) fp xe) E → PE (Bx X s H scope (compEnvC scope cl C X.env) fp xe) elt te) (hs : ∀ x, foldedSetIterable iter X.env x = pure x := by intro _; rfl) :
    PS X (.Assign [.Name y py] (.ListComp elt [⟨tg, iter, ifs, 0⟩] scope pos) spos) (tAsg (tLc wi g tt te (own.map (·.2))) (gName i)) := by
  refine ⟨fun pins s σ H D I h => ?_⟩
  rw [exec_Assign_Name_used _ _ _ _ hsw]
  refine wpAny_bind (wpAny_standAt (wpAny_bind ?_))
  show wpAny _ X.A (do let _ ← comprehension (.ListComp elt [⟨tg, iter, ifs, 0⟩] scope pos) scope X.env (firstIterPos [⟨tg, iter, ifs, 0⟩] pos) (newList []) false (eval iter X.env) (some (assign (.Name y py) X.env))) _ _ s
  refine wpAny_bind (thn (lcx_core (Qf := fun _ s' => SP X pins D .next s') (Q := fun x H1 => gName i x σ H1 D.nx) hstk hfr tk hc hN I hi ok hg ht he hs h fun L ce s' m H' I' q hn f => ?_) fun _ s' hq => wpAny_pure (wpAny_pure hq))
  show wpAny _ _ (assign (.Name y py) X.env (.ref L)) _ _ _
  refine wpAny_assign_Name (store_ok2 (v := V.ref L) I' hN hy (.inl hyl) rfl (fun s2 I2 ⟨a, sb, ha⟩ => ?_) (.inr hyl))
  obtain ⟨f0, f1, f2, f3, f4, f5⟩ := f
  refine ⟨m, hn.sameBut sb ?_, fun h3 sb3 => ⟨_, H', I2.turned (t' := s2.toks) (fun b o hb e => (sb3.2 b hb).trans e) f0 f1 f3 f4 f5, q⟩⟩
  rcases ha with z | z
  · rw [z]
    exact f1
  · exact fun e => f4 y a z e.symm
end
/-! ## the walk over such a comprehension -/
def mapX {ω α β : Type} (body : α → Res ω β) : List α → Res ω (List β)
  | [] => .ok []
  | x :: l => bind (body x) fun y => bind (mapX body l) fun ys => .ok (y :: ys)
section
variable {ω α β γ : Type} [Rep α] [Rep β] {A H : Hp} {v : V} {xs : List α} {R : List Hp} {K : PySem.W.Frag} {Q : VK} {Qr : γ → Prop} {Er : Exn → ω → Prop}
theorem c_lcX {σ : L2.St} {tl : TE} {te : TE} {j : Nat} {vs : List Nat} {body : α → Res ω β} {f : List β → Res ω γ} (S : St H (A :: R)) (htl : ∀ Q' : VK, Q' v H → tl σ H Q') (hx : Is A v xs) (hm : (bind (mapX body xs) f).wp Qr Er)
    (hw : ∀ x, wipe ((wipe σ vs).set j (some x)) vs = wipe σ vs)
    (step : ∀ z w A' H' n (C : β → Prop) (Q' : VK), Same A A' → St H' (A' :: n :: R) → Is A' w z → (∀ A'' H'' u y, Same A' A'' → St H'' (A'' :: n :: R) → Is A'' u y → C y → Q' u H'') → (body z).wp C Er → te ((wipe σ vs).set j (some w)) H' Q')
    (k : ∀ p A' H' ws y, (f y).wp Qr Er → Same A A' → St H' (A' :: one p (.lst ws) :: R) → OL A' ws y → Q (.ref p) H') : tLc (iList K tl) (gName j) tYes te vs σ H Q := by
  obtain ⟨a, us, rfl, h1, h2⟩ := hx
  refine htl _ ⟨a, rfl, ⟨us, SqL.of (S.1 _ _ h1)⟩, fun Dl hD => ?_⟩
  refine lc_list (xs := us) (fun i H' => ∃ A' ws ys, Same A A' ∧ St H' (A' :: one Dl (.lst ws) :: R) ∧ All2 (Rep.is A') ws ys ∧ ys.length ≤ i ∧ (bind (mapX body (xs.drop i)) fun y => f (ys ++ y)).wp Qr Er) ⟨A, [], [], Same.refl _, S.newM hD, trivial, Nat.le_refl _, by simpa using hm⟩ (fun i H' _ p => ?_) (fun i w H' hi p => ?_) (fun H' p => ?_)
  · obtain ⟨A', ws, ys, e, S', _⟩ := p
    exact SqL.of (S'.1 _ _ (e _ _ h1))
  · obtain ⟨x, hxi, hxw⟩ := h2.1.getV hi
    have hlt : i < xs.length := (List.getElem?_eq_some_iff.mp hxi).1
    obtain ⟨A', ws, ys, e, S', hv, hl, hc⟩ := p
    rw [show xs.drop i = x :: xs.drop (i + 1) from by
      obtain ⟨hlt, hg⟩ := List.getElem?_eq_some_iff.mp hxi
      rw [← hg]
      exact List.drop_eq_getElem_cons hlt] at hc
    refine ⟨hw w, c_yes (step x w A' H' (one Dl (.lst ws)) (fun y => (bind (mapX body (xs.drop (i + 1))) fun z => f (ys ++ y :: z)).wp Qr Er) _ e S' (Rep.mono e hxw) (fun A2 H2 u y e2 S2 hu hy => ?_) ?_)⟩
    · refine ⟨ws, S2.second _ _ one_same, ?_, A2, ws ++ [u], ys ++ [y], e.trans e2, S2.wr1, (hv.mono fun _ _ h => Rep.mono e2 h).append ⟨hu, trivial⟩, ?_, ?_⟩
      · rw [hv.len]
        exact Nat.lt_of_le_of_lt hl (Nat.lt_of_lt_of_le hlt h2.2)
      · rw [List.length_append, List.length_singleton]
        omega
      · rw [show (fun z => f (ys ++ [y] ++ z)) = fun z => f (ys ++ y :: z) from funext fun z => by rw [List.append_assoc]; rfl]
        exact hy
    · unfold mapX at hc
      cases hb : body x with
      | bad =>
        rw [hb] at hc
        exact hc
      | ex e w =>
        rw [hb] at hc
        exact hc
      | ok y =>
        rw [hb] at hc
        have hc : (bind (bind (mapX body (xs.drop (i + 1))) fun zs => .ok (y :: zs)) fun z => f (ys ++ z)).wp Qr Er := hc
        show (bind (mapX body (xs.drop (i + 1))) fun z => f (ys ++ y :: z)).wp Qr Er
        cases hq : mapX body (xs.drop (i + 1)) with
        | bad =>
          rw [hq] at hc
          exact hc
        | ex e w =>
          rw [hq] at hc
          exact hc
        | ok z =>
          rw [hq] at hc
          exact hc
  · obtain ⟨A', ws, ys, e, S', hv, hl, hc⟩ := p
    rw [h2.len, List.drop_length] at hc
    have hc : (f (ys ++ [])).wp Qr Er := hc
    rw [List.append_nil] at hc
    exact k Dl A' H' ws ys hc e S' ⟨hv, by rw [h2.len] at hl; exact Nat.le_trans hl h2.2⟩
end
end SB

namespace SB
open PySem PySem.Spec PyProof.Rows L2 Res
/-! ## an object or None -/
def OpAt {α : Type} [Ob α] (T : Cs) (A m : Hp) (v : V) : Option α → Prop
  | none => m = emp ∧ v = .non
  | some y => (∃ p, v = .ref p) ∧ Ob.isAt T A m v y
instance instObOp {α : Type} [Ob α] : Ob (Option α) := ⟨OpAt, fun {T A B m v x} e h => match x, h with
  | none, h => h
  | some _, h => ⟨h.1, Ob.mono e h.2⟩⟩
section
variable {ω α γ : Type} [Ob α] {T : Cs} {A m H : Hp} {R : List Hp} {v : V} {Q : VK} {Qr : γ → Prop} {Er : Exn → ω → Prop} {P : Prop} {K : PySem.W.Frag}
theorem op_none : Ob.isAt T A emp .non (none : Option α) := ⟨rfl, rfl⟩
theorem op_some {t : Bool} {y : FS t} (h : Ob.isAt T A m v y) : Ob.isAt T A m v (some y) := by
  obtain ⟨p, dx, dr, de, da, db, h1, h2⟩ := h
  exact ⟨⟨p, h1⟩, p, dx, dr, de, da, db, h1, h2⟩
theorem op_get {x : Option α} {f : α → Res ω γ} (h : Ob.isAt T A m v x) (hm : (bind (getR x) f).wp Qr Er) (k : ∀ y, Ob.isAt T A m v y → (f y).wp Qr Er → P) : P := by
  cases x with
  | none =>
    unfold getR at hm
    exact hm.elim
  | some y =>
    unfold getR at hm
    exact k y h.2 hm
theorem c_isOp {x : Option α} (h : Ob.isAt T A m v x) (k : Q (.bl x.isNone) H) : L2.rIsN v .non H Q := by
  cases x with
  | none =>
    obtain ⟨_, rfl⟩ := h
    exact ⟨rfl, k⟩
  | some y =>
    obtain ⟨⟨p, rfl⟩, _⟩ := h
    exact ⟨rfl, k⟩
theorem c_notOp {x : Option α} (h : Ob.isAt T A m v x) (k : Q (.bl (!x.isNone)) H) : L2.rNotN v .non H Q := by
  cases x with
  | none =>
    obtain ⟨_, rfl⟩ := h
    exact ⟨rfl, k⟩
  | some y =>
    obtain ⟨⟨p, rfl⟩, _⟩ := h
    exact ⟨rfl, k⟩
end
/-! ## l.index(x) of data -/
@[irreducible] def idxDR {ω α : Type} [DecidableEq α] (xs : List α) (x : α) : Res ω Int := if x ∈ xs then .ok ((xs.idxOf x : Nat) : Int) else .bad
section
variable {ω γ : Type} {T : Cs} {A m H : Hp} {R : List Hp} {v u : V} {Q : VK} {Qr : γ → Prop} {Er : Exn → ω → Prop} {K : PySem.W.Frag}
theorem c_idxD {α : Type} [RepD α] [DecidableEq α] {x : α} {xs : List α} {f : Int → Res ω γ} (S : St H (A :: R)) (hx : Is A u x) (h : LA A H v xs) (hd : RepD.deep (α := List α) ≤ 64) (hm : (bind (idxDR xs x) f).wp Qr Er) (k : ∀ j : Int, (f j).wp Qr Er → Q (.int j) H) : rIndexD K v [u] H Q := by
  unfold idxDR at hm
  by_cases c : x ∈ xs
  case neg =>
    rw [if_neg c] at hm
    exact hm.elim
  rw [if_pos c] at hm
  have hd1 : RepD.deep (α := α) ≤ 64 := Nat.le_trans (Nat.le_succ _) hd
  have hl := dp_la (K := K) S h
  obtain ⟨a, us, rfl, h1, h2⟩ := h
  have hlt := List.idxOf_lt_length_iff.mpr c
  refine ⟨a, u, _, _, xs.idxOf x, RepD.D x, rfl, rfl, hl, dp_of S hx, shaped_of (α := List α) hd xs, shaped_of hd1 x, ?_, (RepD.eqv x x).mpr rfl, fun i z hi hz => ?_, k _ hm⟩
  · rw [List.getElem?_map, List.getElem?_eq_getElem hlt, List.getElem_idxOf hlt]
    rfl
  · rw [List.getElem?_map] at hz
    have hi' : i < xs.length := Nat.lt_trans hi hlt
    rw [List.getElem?_eq_getElem hi'] at hz
    have hz : RepD.D xs[i] = z := Option.some.inj hz
    rw [← hz]
    cases q : PyData.eqv (RepD.D xs[i]) (RepD.D x) with
    | false => rfl
    | true =>
      have e := (RepD.eqv xs[i] x).mp q
      have hne := List.not_of_lt_findIdx (show i < List.findIdx (· == x) xs from hi)
      exact absurd e (by simpa using hne)
end
/-! ## list(range(n)), sum(xs) -/
section
variable {ω γ : Type} {A H : Hp} {R : List Hp} {v : V} {Q : VK} {Qr : γ → Prop} {Er : Exn → ω → Prop} {K : PySem.W.Frag}
def LrgQ (x : V) (H : Hp) (Q : VK) : Prop := ∃ n, x = .int n ∧ RgOk 0 n ∧ ∀ q, H q = none → Q (.ref q) (upd H q (.lst (rgV 0 n)))
theorem c_lrgE {ta : TE} {σ : L2.St} (h : ta σ H fun x H1 => LrgQ x H1 Q) : tLstRg (tRg1 ta) σ H Q := h
theorem c_lrg {n : Int} {f : List Int → Res ω γ} (hm : (bind (rlR n) f).wp Qr Er) (k : ∀ zs, (f zs).wp Qr Er → RawL A H Q zs) : LrgQ (.int n) H Q := by
  unfold rlR at hm
  by_cases hz : n ≤ 1000000 ∧ -1000000 ≤ n
  case neg =>
    rw [if_neg hz] at hm
    exact hm.elim
  rw [if_pos hz] at hm
  have hm : (f (rangeL 0 n)).wp Qr Er := hm
  have hsz : (1000000 : Nat) < sizeLine := by decide
  have hlen : (rangeL 0 n).length = n.toNat := by unfold rangeL; rw [List.length_map, List.length_range]; omega
  refine ⟨n, rfl, ⟨by decide, by decide, by omega, by omega, by omega⟩, fun q hq => ?_⟩
  have e : rgV 0 n = (rangeL 0 n).map V.int := by
    unfold rgV rangeL
    rw [List.map_map]
    rfl
  rw [e]
  exact k _ hm q _ hq (int_ol (by omega))
theorem c_sum {ns : List Int} (h : LA A H v ns) (k : Q (.int ns.sum) H) : rSum K [v] H Q := by
  obtain ⟨a, vs, rfl, h1, h2⟩ := h
  rw [h2.int] at h1
  exact ⟨a, ns, rfl, SqL.of h1, k⟩
end
section
variable {ta tb : TE} {g : TG} {tu tz : TS} {D : Ends} {σ : L2.St} {H : Hp}
theorem q_forRV2 (h : ta σ H fun x H1 => tb σ H1 fun y H2 => ∃ i j, x = .int i ∧ y = .int j ∧ tFor (iRevR (tRgK i j)) g tu { D with nx := tz D } σ H2) : tSeq (tFor (iRevR (tRg2 ta tb)) g tu) tz D σ H := h
theorem s_forRV2 (h : ta σ H fun x H1 => tb σ H1 fun y H2 => ∃ i j, x = .int i ∧ y = .int j ∧ tFor (iRevR (tRgK i j)) g tu D σ H2) : tFor (iRevR (tRg2 ta tb)) g tu D σ H := h
end
end SB

namespace SB
open PySem PySem.Spec PyProof.Rows L2 Res
/-! ## texts and their signs -/
structure Chr where
  c : Nat
  deriving DecidableEq
def Chr.s (x : Chr) : Str := ⟨#[x.c]⟩
instance : Rep Chr := ⟨fun _ v x => v = .str (Chr.s x), fun _ h => h⟩
def chrs (x : Str) : List Chr := x.cps.toList.map Chr.mk
theorem chrs_len (x : Str) : (chrs x).length = x.cps.size := by
  unfold chrs
  rw [List.length_map, Array.length_toList]
theorem chrs_at {x : Str} {i c : Nat} (h : x.cps[i]? = some c) : (chrs x)[i]? = some ⟨c⟩ := by
  unfold chrs
  rw [List.getElem?_map, Array.getElem?_toList, h]
  rfl
@[irreducible] def strR {ω : Type} (x : Str) : Res ω (List Chr) := if x.length ≤ 1000000 then .ok (chrs x) else .bad
section
variable {ω α β γ σT : Type} {A H : Hp} {R : List Hp} {K : PySem.W.Frag} {Q : VK} {Qr : γ → Prop} {Er : Exn → ω → Prop} {x y : Str}
theorem q_forS {tl : TE} {g : TG} {tu tz : TS} {D : Ends} {σ : L2.St} (h : tl σ H fun v H1 => tFor (iStr (tC v)) g tu { D with nx := tz D } σ H1) : tSeq (tFor (iStr tl) g tu) tz D σ H := h
theorem s_forS {tl : TE} {g : TG} {tu : TS} {D : Ends} {σ : L2.St} (h : tl σ H fun v H1 => tFor (iStr (tC v)) g tu D σ H1) : tFor (iStr tl) g tu D σ H := h
theorem c_lcSE {tl : TE} {g : TG} {tt : TT} {te : TE} {vs : List Nat} {σ : L2.St} (h : tl σ H fun v H1 => tLc (iStr (tC v)) g tt te vs σ H1 Q) : tLc (iStr tl) g tt te vs σ H Q := h
/-- for z in a text -/
theorem c_forS {β' : Type} {σ : L2.St} {tl : TE} {tu : TS} {j : Nat} {D : Ends} {s0 : σT} {body : Chr → σT → Res ω (Fl β' σT)} {f : Fl β' σT → Res ω γ} (Rel : Hp → L2.St → List Hp → σT → Prop)
    (S : St H (A :: R)) (htl : ∀ Q' : VK, Q' (.str x) H → tl σ H Q') (h0 : Rel A σ R s0) (hm : (bind (forM body (chrs x) s0) f).wp Qr Er)
    (step : ∀ z A' H' σ' R' s (C : σT → Prop) (N : L2.St → Hp → Prop), z ∈ chrs x → Same A A' → St H' (A' :: R') → Rel A' σ' R' s →
      (∀ A'' H'' σ'' R'' s', Same A A'' → St H'' (A'' :: R'') → Rel A'' σ'' R'' s' → C s' → N σ'' H'') →
      (body z s).wp (fun r => match r with | .next s' => C s' | .ret y => (f (.ret y)).wp Qr Er) Er → tu { D with nx := N, ct := N, bk := D.nx } (σ'.set j (some (.str (Chr.s z)))) H')
    (done : ∀ A' H' σ' R' s, Same A A' → St H' (A' :: R') → Rel A' σ' R' s → (f (.next s)).wp Qr Er → D.nx σ' H') : tFor (iStr tl) (gName j) tu D σ H := by
  refine htl _ ⟨x, rfl, fun i m σ' H' => m = x.cps.size - i ∧ i ≤ x.cps.size ∧ ∃ A' R' s, Same A A' ∧ St H' (A' :: R') ∧ Rel A' σ' R' s ∧ (bind (forM body ((chrs x).drop i) s) f).wp Qr Er, ⟨_, rfl, Nat.zero_le _, A, R, s0, Same.refl _, S, h0, by simpa using hm⟩, ?_⟩
  rintro i m σ' H' ⟨rfl, hi, A', R', s, e, S', hr, hw⟩
  by_cases hlt : i < x.cps.size
  · refine .inr ⟨hlt, fun σ2 H2 => ∃ A2 R2 s2, Same A A2 ∧ St H2 (A2 :: R2) ∧ Rel A2 σ2 R2 s2 ∧ (bind (forM body ((chrs x).drop (i + 1)) s2) f).wp Qr Er, fun σ2 H2 p => ⟨_, by omega, rfl, hlt, p⟩, fun v H2 y => ?_⟩
    obtain ⟨rfl, c, hc, rfl⟩ := y
    have hz := chrs_at hc
    have ed : (chrs x).drop i = ⟨c⟩ :: (chrs x).drop (i + 1) := by
      obtain ⟨hlt, hg⟩ := List.getElem?_eq_some_iff.mp hz
      rw [← hg]
      exact List.drop_eq_getElem_cons hlt
    rw [ed] at hw
    refine step ⟨c⟩ A' _ σ' R' s (fun s' => (bind (forM body ((chrs x).drop (i + 1)) s') f).wp Qr Er) _ (List.mem_of_getElem? hz) e S' hr (fun A'' H'' σ'' R'' s' e' S'' hr' hc => ⟨A'', R'', s', e', S'', hr', hc⟩) ?_
    unfold forM at hw
    cases hb : body ⟨c⟩ s with
    | ok r =>
      rw [hb] at hw
      cases r with
      | next s' => exact hw
      | ret y => exact hw
    | ex e w =>
      rw [hb] at hw
      exact hw
    | bad =>
      rw [hb] at hw
      exact hw
  · have e1 : i = (chrs x).length := by rw [chrs_len]; omega
    rw [e1, List.drop_length] at hw
    exact .inl ⟨by show x.cps.size ≤ i; omega, done A' H' σ' R' s e S' hr hw⟩
/-- [g(z) for z in a text if f(z)] -/
theorem c_lcS [Rep β] {σ : L2.St} {tl : TE} {tt : TT} {te : TE} {j : Nat} {vs : List Nat} {fm : List β → Res ω γ} (f : Chr → Bool) (g : Chr → β) (S : St H (A :: R)) (htl : ∀ Q' : VK, Q' (.str x) H → tl σ H Q') (hm : (bind (bind (strR x) fun l => .ok ((l.filter f).map g)) fm).wp Qr Er)
    (hw : ∀ v, wipe ((wipe σ vs).set j (some v)) vs = wipe σ vs)
    (ht : ∀ (z : Chr) A1 m, z ∈ chrs x → Same A A1 → TstOk tt ((wipe σ vs).set j (some (.str (Chr.s z)))) A1 (m :: R) (f z)) (he : ∀ (z : Chr) A1 m, z ∈ chrs x → Same A A1 → f z = true → EltOk te ((wipe σ vs).set j (some (.str (Chr.s z)))) A1 (m :: R) (g z))
    (k : ∀ p A' H' ws ys, (fm ys).wp Qr Er → Same A A' → St H' (A' :: one p (.lst ws) :: R) → OL A' ws ys → Q (.ref p) H') : tLc (iStr tl) (gName j) tt te vs σ H Q := by
  unfold strR at hm
  by_cases hz : x.length ≤ 1000000
  case neg =>
    rw [if_neg hz] at hm
    exact hm.elim
  rw [if_pos hz] at hm
  have hz : x.cps.size ≤ 1000000 := hz
  have hsz : (1000000 : Nat) ≤ sizeLine := by decide
  refine htl _ ⟨x, rfl, fun Dl hD => ⟨fun i m H' => m = x.cps.size - i ∧ i ≤ x.cps.size ∧ CwP A R f g (chrs x) Dl i H', ⟨_, rfl, Nat.zero_le _, A, [], Same.refl _, S.newM hD, trivial⟩, ?_⟩⟩
  rintro i m H' ⟨rfl, hi, p⟩
  by_cases hlt : i < x.cps.size
  · refine .inr ⟨hlt, CwP A R f g (chrs x) Dl (i + 1), fun H2 p2 => ⟨_, by omega, rfl, hlt, p2⟩, fun v H2 y => ?_⟩
    obtain ⟨rfl, c, hc, rfl⟩ := y
    have hxi := chrs_at hc
    have hm' := List.mem_of_getElem? hxi
    exact ⟨hw _, cw_turn hxi (by omega) p (fun A1 m e => ht _ A1 m hm' e) (fun A1 m e hf => he _ A1 m hm' e hf)⟩
  · have e1 : i = (chrs x).length := by rw [chrs_len]; omega
    obtain ⟨A', ws, e, S', h⟩ := p
    rw [e1, List.take_length] at h
    refine .inl ⟨by show x.cps.size ≤ i; omega, k Dl A' H' ws _ hm e S' ⟨h, ?_⟩⟩
    rw [List.length_map]
    exact Nat.le_trans (List.length_filter_le _ _) (by rw [chrs_len]; omega)
end
/-! ## deeds of texts -/
def rLenStr : List V → Hp → VK → Prop := fun xs H Q => ∃ z, xs = [.str z] ∧ z.length ≤ sizeLine ∧ Q (.int z.length) H
def rIntStr : List V → Hp → VK → Prop := fun xs H Q => ∃ a n, xs = [.str a] ∧ PySem.intText? a = some n ∧ a.length ≤ 640 ∧ Q (.int n) H
def rStrInt : List V → Hp → VK → Prop := fun xs H Q => ∃ i, xs = [.int i] ∧ i.natAbs.log2 < 1920 ∧ Q (.str (toString i)) H
def rAddStr : R2 := fun x y H Q => ∃ i j, x = .str i ∧ y = .str j ∧ i.length + j.length ≤ sizeLine ∧ Q (.str (i ++ j)) H
def rMulStr : R2 := fun x y H Q => ∃ a n, x = .str a ∧ y = .int n ∧ PySem.MulOk a n ∧ Q (.str (PySem.Txt.mul a n)) H
def rJoinStr (K : PySem.W.Frag) : V → List V → Hp → VK → Prop := fun x xs H Q => ∃ a p, ∃ ys : List Str, x = .str a ∧ xs = [.ref p] ∧ (SqL K H p (ys.map V.str) ∨ SqT K H p (ys.map V.str)) ∧ (ys.map (·.length)).sum + ys.length * a.length ≤ 16777216 ∧ Q (.str (Txt.join a ys)) H
def rSplitStr : V → List V → Hp → VK → Prop := fun x xs H Q => ∃ a b, x = .str a ∧ xs = [.str b] ∧ (b.length == 0) = false ∧ a.length + 2 ≤ sizeLine ∧ rNewStrs (Txt.split a b) H Q
theorem op_mul_str {X : Cx} : OpR X (binaryOp .Mult) rMulStr := by
  intro pins s σ H x y v u Q I rx ry h
  obtain ⟨a, n, rfl, rfl, hz, q⟩ := h
  obtain ⟨t, rfl⟩ := rx
  obtain ⟨t', rfl⟩ := ry
  exact _root_.PySem.SB.mul hz fun t' k => ⟨.str _, H, I.tok _, ⟨_, rfl⟩, q⟩
def rNeNil (K : PySem.W.Frag) : R2 := fun x y H Q => ∃ a b xs, x = .ref a ∧ y = .ref b ∧ SqL K H a xs ∧ SqL K H b [] ∧ Q (.bl (!decide (xs = []))) H
theorem op_neNil {X : Cx} (hu : X.A.units + 64 < cLine) : OpR X (compareOp .NotEq) (rNeNil X.K) := by
  intro pins s σ H x y v u Q I rx ry h
  obtain ⟨a, b, xs, rfl, rfl, h1, h2, q⟩ := h
  cases rx
  cases ry
  obtain ⟨its, r1, p1, _⟩ := I.list h1
  obtain ⟨its2, r2, p2, _⟩ := I.list h2
  cases r2
  show wpAny _ _ (richCompare .NotEq (.ref a) (.ref b)) _ _ _
  by_cases c : xs = []
  · subst c
    cases r1
    refine PySem.SeqAt.RcNeAt.lists (e := fun _ => true) p1.isList p2.isList rfl (by omega) (fun j h1 => absurd h1 (Nat.not_lt_zero _)) _ _ _ _ ⟨.bl _, H, I, rfl, q⟩
  · refine PySem.SeqAt.RcNeAt.lists_lengths p1.isList p2.isList ?_ (by omega) _ _ _ _ ⟨.bl true, H, I, rfl, ?_⟩
    · have hl := r1.length
      have : 0 < xs.length := List.length_pos_iff.mpr c
      rw [List.size_toArray, ← hl]
      show (xs.length != 0) = true
      rw [bne_iff_ne]
      omega
    · rw [decide_eq_false c] at q
      exact q
section
variable {ω γ : Type} {A H : Hp} {R : List Hp} {K : PySem.W.Frag} {Q : VK} {Qr : γ → Prop} {Er : Exn → ω → Prop} {x y : Str} {v : V} {z : Chr}
@[irreducible] def lenSR {ω : Type} (x : Str) : Res ω Int := if x.length ≤ 1000000 then .ok (x.length : Int) else .bad
@[irreducible] def ixSR {ω : Type} (x : Str) (i : Int) : Res ω Chr := if x.length ≤ 1000000 then (match atI x.cps.toList i with | some c => .ok ⟨c⟩ | none => .bad) else .bad
@[irreducible] def intSR {ω : Type} (x : Str) : Res ω Int := if x.length ≤ 640 then (match PySem.intText? x with | some n => .ok n | none => .bad) else .bad
@[irreducible] def strIR {ω : Type} (n : Int) : Res ω Str := if n.natAbs.log2 < 1920 then .ok (Str.ofString (toString n)) else .bad
@[irreducible] def addSR {ω : Type} (x y : Str) : Res ω Str := if x.length + y.length ≤ 1000000 then .ok (x ++ y) else .bad
@[irreducible] def mulSR {ω : Type} (x : Str) (n : Int) : Res ω Str := if x.length = 1 ∧ 0 ≤ n ∧ n ≤ 100000 then .ok (PySem.Txt.mul x n) else .bad
@[irreducible] def joinSR {ω : Type} (x : Str) (ys : List Str) : Res ω Str := if (ys.map (·.length)).sum + ys.length * x.length ≤ 16777216 then .ok (Txt.join x ys) else .bad
@[irreducible] def splitSR {ω : Type} (x y : Str) : Res ω (List Str) := if (y.length == 0) = false ∧ x.length ≤ 1000000 then .ok (Txt.split x y) else .bad
@[irreducible] def cutSR {ω : Type} (x : Str) (lo hi : Option Int) : Res ω Str := if x.length ≤ 1000000 then .ok (cutS x lo hi) else .bad
theorem big_size : (1000000 : Nat) + 2 ≤ sizeLine := by decide
theorem c_lenS {f : Int → Res ω γ} (hm : (bind (lenSR x) f).wp Qr Er) (k : ∀ n : Int, (f n).wp Qr Er → Q (.int n) H) : rLenStr [.str x] H Q := by
  unfold lenSR at hm
  by_cases c : x.length ≤ 1000000
  · rw [if_pos c] at hm
    exact ⟨x, rfl, Nat.le_trans c (by have := big_size; omega), k _ hm⟩
  · rw [if_neg c] at hm
    exact hm.elim
theorem c_ixS {i : Int} {f : Chr → Res ω γ} (hm : (bind (ixSR x i) f).wp Qr Er) (k : ∀ z, (f z).wp Qr Er → Q (.str (Chr.s z)) H) : rIxS (.str x) (.int i) H Q := by
  unfold ixSR at hm
  by_cases c : x.length ≤ 1000000
  · rw [if_pos c] at hm
    cases e : L2.atI x.cps.toList i with
    | none =>
      rw [show atI x.cps.toList i = none from e] at hm
      exact hm.elim
    | some d =>
      rw [show atI x.cps.toList i = some d from e] at hm
      exact ⟨x, i, d, rfl, rfl, Nat.le_trans c (by have := big_size; omega), e, k ⟨d⟩ hm⟩
  · rw [if_neg c] at hm
    exact hm.elim
theorem c_intS {f : Int → Res ω γ} (hm : (bind (intSR x) f).wp Qr Er) (k : ∀ n : Int, (f n).wp Qr Er → Q (.int n) H) : rIntStr [.str x] H Q := by
  unfold intSR at hm
  by_cases c : x.length ≤ 640
  · rw [if_pos c] at hm
    cases e : PySem.intText? x with
    | none =>
      rw [e] at hm
      exact hm.elim
    | some n =>
      rw [e] at hm
      exact ⟨x, n, rfl, e, c, k n hm⟩
  · rw [if_neg c] at hm
    exact hm.elim
theorem c_strI {n : Int} {f : Str → Res ω γ} (hm : (bind (strIR n) f).wp Qr Er) (k : ∀ z : Str, (f z).wp Qr Er → Q (.str z) H) : rStrInt [.int n] H Q := by
  unfold strIR at hm
  by_cases c : n.natAbs.log2 < 1920
  · rw [if_pos c] at hm
    exact ⟨n, rfl, c, k _ hm⟩
  · rw [if_neg c] at hm
    exact hm.elim
theorem c_addS {f : Str → Res ω γ} (hm : (bind (addSR x y) f).wp Qr Er) (k : ∀ z : Str, (f z).wp Qr Er → Q (.str z) H) : rAddStr (.str x) (.str y) H Q := by
  unfold addSR at hm
  by_cases c : x.length + y.length ≤ 1000000
  · rw [if_pos c] at hm
    exact ⟨x, y, rfl, rfl, Nat.le_trans c (by have := big_size; omega), k _ hm⟩
  · rw [if_neg c] at hm
    exact hm.elim
theorem c_mulS {n : Int} {f : Str → Res ω γ} (hm : (bind (mulSR x n) f).wp Qr Er) (k : ∀ z : Str, (f z).wp Qr Er → Q (.str z) H) : rMulStr (.str x) (.int n) H Q := by
  unfold mulSR at hm
  by_cases c : x.length = 1 ∧ 0 ≤ n ∧ n ≤ 100000
  · rw [if_pos c] at hm
    refine ⟨x, n, rfl, rfl, ⟨?_, fun h1 _ => ?_, fun h1 _ => ?_⟩, k _ hm⟩
    · rw [Bool.or_eq_false_iff]
      exact ⟨decide_eq_false (by omega), decide_eq_false (by omega)⟩
    · rw [c.1]
      have : (1 : Int) ≤ (2 ^ 63 - 1) / n := (Int.le_ediv_iff_mul_le (by omega)).mpr (by omega)
      omega
    · rw [c.1, Nat.one_mul]
      show decide (n.toNat > sizeLine) = false
      have := big_size
      exact decide_eq_false (by omega)
  · rw [if_neg c] at hm
    exact hm.elim
theorem c_joinS {ys : List Str} {f : Str → Res ω γ} (h : LA A H v ys) (hm : (bind (joinSR x ys) f).wp Qr Er) (k : ∀ z : Str, (f z).wp Qr Er → Q (.str z) H) : rJoinStr K (.str x) [v] H Q := by
  unfold joinSR at hm
  by_cases c : (ys.map (·.length)).sum + ys.length * x.length ≤ 16777216
  · rw [if_pos c] at hm
    obtain ⟨a, vs, rfl, h1, h2⟩ := h
    rw [all2_str h2.1] at h1
    exact ⟨x, a, ys, rfl, rfl, .inl (SqL.of h1), c, k _ hm⟩
  · rw [if_neg c] at hm
    exact hm.elim
theorem str_ol : ∀ (ys : List Str), All2 (Rep.is A) (ys.map V.str) ys
  | [] => trivial
  | _ :: ys => ⟨rfl, str_ol ys⟩
theorem c_splitS {f : List Str → Res ω γ} (hm : (bind (splitSR x y) f).wp Qr Er) (k : ∀ zs, (f zs).wp Qr Er → RawL A H Q zs) : rSplitStr (.str x) [.str y] H Q := by
  unfold splitSR at hm
  by_cases c : (y.length == 0) = false ∧ x.length ≤ 1000000
  · rw [if_pos c] at hm
    have hl := split_le x y
    have := big_size
    exact ⟨x, y, rfl, rfl, c.1, by omega, fun p hp => k _ hm p _ hp ⟨str_ol _, by omega⟩⟩
  · rw [if_neg c] at hm
    exact hm.elim
theorem c_cutS {lo hi : Option Int} {f : Str → Res ω γ} (hm : (bind (cutSR x lo hi) f).wp Qr Er) (k : ∀ z : Str, (f z).wp Qr Er → Q (.str z) H) : rSlS (.str x) lo hi H Q := by
  unfold cutSR at hm
  by_cases c : x.length ≤ 1000000
  · rw [if_pos c] at hm
    exact ⟨x, rfl, Nat.le_trans c (by have := big_size; omega), k _ hm⟩
  · rw [if_neg c] at hm
    exact hm.elim
theorem c_inC (k : Q (.bl (decide (z.c ∈ x.cps.toList))) H) : rInS (.str (Chr.s z)) (.str x) H Q := ⟨z.c, x, rfl, rfl, k⟩
theorem c_notinC (k : Q (.bl (!decide (z.c ∈ x.cps.toList))) H) : rNotInS (.str (Chr.s z)) (.str x) H Q := ⟨z.c, x, rfl, rfl, k⟩
theorem c_tm1 {r : V → List V → Hp → VK → Prop} {to te : TE} {σ : L2.St} (h : to σ H fun x H1 => (∃ a, x = .str a) ∧ te σ H1 fun y H2 => r x [y] H2 Q) : tM1 r to te σ H Q := h
theorem c_neNil {α : Type} [Rep α] {xs : List α} {u : V} (h : LA A H v xs) (hu : LA A H u ([] : List α)) (k : Q (.bl (!decide (xs.length = 0))) H) : rNeNil K v u H Q := by
  obtain ⟨a, vs, rfl, h1, h2⟩ := h
  obtain ⟨b, us, rfl, h3, h4⟩ := hu
  have e : us = [] := by
    have := h4.len
    exact List.length_eq_zero_iff.mp this
  subst e
  refine ⟨a, b, vs, rfl, rfl, SqL.of h1, SqL.of h3, ?_⟩
  have hl := h2.len
  have e : decide (vs = []) = decide (xs.length = 0) := by
    rw [← hl]
    exact decide_eq_decide.mpr List.length_eq_zero_iff.symm
  rw [e]
  exact k
end
section
variable {A : Hp} {v : V} {α β : Type} [Rep α] [Rep β]
theorem none_pair {x : Unit × β} (h : Is A v x) : Is A v ((none : Option α), x.2) := by
  obtain ⟨a, u, w, h1, h2, h3, h4⟩ := h
  exact ⟨a, u, w, h1, h2, h3, h4⟩
theorem some_pair {x : List α × β} (h : Is A v x) : Is A v (some x.1, x.2) := by
  obtain ⟨a, u, w, h1, h2, h3, h4⟩ := h
  exact ⟨a, u, w, h1, h2, opt_lst h3, h4⟩
end
end SB

namespace SB
open PySem PySem.Spec PyProof.Rows L2 Res
/-! ## the head by one kernel run: what the end leans on -/
abbrev Fr := PySem.W.Frag
def obsB (fn : List He.DefD) (ex : Fr → List Bool) (K : Fr) : He.AlD := ((ex K).all id && fn.all fun d => d.ok K, fn.map fun d => He.fnW K d.at_)
def valsB : List He.DefD → List He.FnW
  | [] => []
  | d :: r => d.val :: valsB r
theorem valsB_eq : ∀ fn : List He.DefD, valsB fn = fn.map He.DefD.val
  | [] => rfl
  | d :: r => congrArg (d.val :: ·) (valsB_eq r)
def valB (fn : List He.DefD) : He.AlD := (true, valsB fn)
/-- the objects that the module's names lead to: names, then three steps on -/
def gaG (g : Addr → Option Obj) (x : Str) : Addr := He.ga (He.frG g [mainGlobals]) x
def refsG (g : Addr → Option Obj) (as : List Addr) : List Addr := as.flatMap fun a => match g a with
  | some o => He.refsD o
  | none => []
def asB (g : Addr → Option Obj) (xs : List Str) : List Addr := mainGlobals :: cStatics :: asB1 (xs.map (gaG g))
where
  asB1 (a1 : List Addr) : List Addr := a1 ++ asB2 (refsG g a1)
  asB2 (a2 : List Addr) : List Addr := a2 ++ asB3 (refsG g a2)
  asB3 (a3 : List Addr) : List Addr := a3 ++ refsG g a3
def SaysB (fn : List He.DefD) (ex : Fr → List Bool) (K : Fr) : Prop := obsB fn ex K = valB fn
def obsBG (xs : List Str) (fn : List He.DefD) (ex : Fr → List Bool) (g : Addr → Option Obj) : He.AlD := obsB fn ex (He.frG g (asB g xs))
def hookB (xs : List Str) (fn : List He.DefD) (ex : Fr → List Bool) : PySem.W.Hook where
  α := He.AlD
  obs := fun s => obsBG xs fn ex s.heap.get?
  val := fun _ => valB fn
  says := fun _ h => ∃ K : Fr, K.In h ∧ SaysB fn ex K
  of := fun _ _ e => ⟨_, He.frG_in, e⟩
  keeps := fun _ _ _ ⟨K, hK, c⟩ k => ⟨K, PySem.W.Frag.In.keeps hK k, c⟩
theorem obsBG_eq {xs : List Str} {fn : List He.DefD} {ex : Fr → List Bool} {g : Addr → Option Obj} {s : Shared} (h : ∀ a, g a = s.heap.get? a) : obsBG xs fn ex g = (hookB xs fn ex).obs s := by
  have e : g = s.heap.get? := funext h
  rw [e] <;> rfl
section
variable {fn : List He.DefD} {ex : Fr → List Bool} {K : Fr}
theorem SaysB.exs (c : SaysB fn ex K) : (ex K).all id = true := (He.ba (show ((ex K).all id && fn.all fun d => d.ok K) = true from congrArg (fun z : He.AlD => z.1) c)).1
theorem SaysB.def_ (c : SaysB fn ex K) (i : Nat) {d : He.DefD} (h : fn[i]? = some d := by rfl) : ∃ fd, FunD K d.name d.qual d.params d.body d.scope (d.dvs K) (d.kws K) (He.fAd K d.at_) fd := by
  have c2 := (He.ba (show ((ex K).all id && fn.all fun d => d.ok K) = true from congrArg (fun z : He.AlD => z.1) c)).2
  have e : fn.map (fun d => He.fnW K d.at_) = fn.map He.DefD.val := (show fn.map (fun d => He.fnW K d.at_) = valsB fn from congrArg (fun z : He.AlD => z.2) c).trans (valsB_eq fn)
  have e2 : (fn.map fun d => He.fnW K d.at_)[i]? = (fn.map He.DefD.val)[i]? := by rw [e]
  rw [List.getElem?_map, List.getElem?_map, h] at e2
  exact He.DefD.funD (Option.some.inj e2) (List.all_eq_true.mp c2 d (List.mem_of_getElem? h))
theorem ex_fact {l : List Bool} (h : l.all id = true) (i : Nat) {P : Prop} [Decidable P] (e : l[i]? = some (decide P)) : P := of_decide_eq_true (List.all_eq_true.mp h _ (List.mem_of_getElem? e))
theorem ex_bool {l : List Bool} (h : l.all id = true) (i : Nat) {b : Bool} (e : l[i]? = some b) : b = true := List.all_eq_true.mp h _ (List.mem_of_getElem? e)
theorem fun_of {x qual : Str} {st : Stmt} {f : Addr} {fd : FuncData} {kws : List (Str × V)} (F : FunD K x qual (defArgs st) (defBody st) (defScope st) [] kws f fd) : Fun K x qual st f fd := by
  obtain ⟨oc, od, dV, kV, doc, pm, an, cdv, ct, osl, e, l, c, hd, _⟩ := F.ex
  rcases hd with ⟨_, e2⟩ | ⟨e2, _⟩
  · subst e2
    exact ⟨⟨oc, od, kV, doc, pm, an, cdv, ct, osl, e, l, c⟩, F.kp⟩
  · exact absurd rfl e2
/-- a class's own maker, read off the class -/
def cfB (K : Fr) (C f : Addr) : Bool := match PySem.W.findCls K (.ref C) (.type "type") "__init__" with
  | some (.val (.ref a)) => decide (a = f)
  | _ => false
theorem cfB_ok {C f : Addr} (h : cfB K C f = true) : PySem.W.findCls K (.ref C) (.type "type") "__init__" = some (.val (.ref f)) := by
  unfold cfB at h
  split at h
  · rename_i a e
    rw [e, of_decide_eq_true h]
  · cases h
/-- an own class of refusals with a value -/
def xclB (K : Fr) (C : Addr) : Bool := match K.lookup C with
  | some ⟨.type t, _, .cls ⟨_, _, .ref c :: bm, _, _, true, _, _, _, _, false⟩, ⟨[_, _, _, _, some (.builtin n), _]⟩⟩ => decide (t = "type") && (decide (c = C) && (PySem.HandSPX.refsVE bm && decide (n = "ValueError.__new__")))
  | _ => false
theorem xclB_ok {C : Addr} (h : xclB K C = true) : ∃ nm q N bs bm sn sub ab col dd k0 k1 k2 k3 k5, K.lookup C = some (excClassObj nm q C N bs bm true sn sub ab col dd k0 k1 k2 k3 k5 "ValueError.__new__") ∧ PySem.HandSPX.refsVE bm = true := by
  unfold xclB at h
  split at h
  · rename_i t dd nm bs c bm N q sn sub ab col k0 k1 k2 k3 n k5 e
    obtain ⟨h1, h⟩ := He.ba h
    obtain ⟨h2, h⟩ := He.ba h
    obtain ⟨h3, h4⟩ := He.ba h
    have h1 := of_decide_eq_true h1
    have h2 := of_decide_eq_true h2
    have h4 := of_decide_eq_true h4
    subst h1 h2 h4
    exact ⟨nm, q, N, bs, bm, sn, sub, ab, col, dd, k0, k1, k2, k3, k5, e, h3⟩
  · cases h
end
end SB

namespace SB
open PySem PySem.Spec PyProof.Rows L2 Res
def topS (i : Nat) : Stmt := PySem.Challenge.pw_slimbody_k58_sums_written_and_read.main.body.getD i (.Pass ⟨0, 0, 0, 0⟩)
end SB

namespace SB
open PySem PySem.Spec PyProof.Rows L2 Res
def exL0 (K : Fr) : List Bool := [decide (PySem.W.nsIn K mainGlobals "_law_bag" = some (some (.ref (He.fAd K ("_law_bag", none))))),
  decide (PySem.W.nsIn K mainGlobals "_law_pull" = some (some (.ref (He.fAd K ("_law_pull", none))))),
  decide (PySem.W.nsIn K mainGlobals "_law_join" = some (some (.ref (He.fAd K ("_law_join", none))))),
  decide (PySem.W.nsIn K mainGlobals "_law_wide" = some (some (.ref (He.fAd K ("_law_wide", none))))),
  decide (PySem.W.nsIn K mainGlobals "shown_sum" = some (some (.ref (He.fAd K ("shown_sum", none))))),
  decide (PySem.W.nsIn K mainGlobals "number_of" = some (some (.ref (He.fAd K ("number_of", none))))),
  decide (PySem.W.nsIn K mainGlobals "is_sum" = some (some (.ref (He.fAd K ("is_sum", none))))),
  decide (PySem.W.nsIn K mainGlobals "sum_of" = some (some (.ref (He.fAd K ("sum_of", none))))),
  decide (PySem.W.nsIn K mainGlobals "read_sum" = some (some (.ref (He.fAd K ("read_sum", none))))),
  decide (PySem.W.nsIn K mainGlobals "_law_whole" = some (some (.ref (He.fAd K ("_law_whole", none))))),
  decide (PySem.W.nsIn K mainGlobals "_law_row" = some (some (.ref (He.fAd K ("_law_row", none))))),
  decide (PySem.W.nsIn K mainGlobals "_law_same" = some (some (.ref (He.fAd K ("_law_same", none))))),
  decide (PySem.W.nsIn K mainGlobals "_law_told" = some (some (.ref (He.fAd K ("_law_told", none))))),
  decide (PySem.W.nsIn K mainGlobals "_law_spoilt" = some (some (.ref (He.fAd K ("_law_spoilt", none))))),
  decide (PySem.W.nsIn K mainGlobals "_law_rising" = some (some (.ref (He.fAd K ("_law_rising", none))))),
  decide (PySem.W.nsIn K mainGlobals "_law_read" = some (some (.ref (He.fAd K ("_law_read", none))))),
  decide (PySem.W.nsIn K mainGlobals "law" = some (some (.ref (He.fAd K ("law", none))))),
  decide (PySem.W.nsIn K mainGlobals "BadRow" = some (some (.ref (He.ga K "BadRow")))),
  xclB K (He.ga K "BadRow"),
  decide (PySem.W.findIn K (.ref (He.ga K "BadRow")) "__setattr__" = some (some (.builtin "object.__setattr__")))]
def exL1 (K : Fr) : List Bool := [decide (PySem.W.subIn K (.ref (He.ga K "BadRow")) (.type "BaseException") = some true),
  decide (PySem.W.typeIn K (.ref (He.ga K "BadRow")) = some (.type "type")),
  decide (PySem.W.keepIn K (.ref (He.ga K "BadRow")) = true),
  decide (PySem.W.findIn K (.ref (He.ga K "BadRow")) "at" = some none),
  decide (PySem.W.findIn K (.ref (He.ga K "BadRow")) "__getattribute__" = some (some (.builtin "BaseException.__getattribute__"))),
  decide (PySem.W.findIn K (.ref (He.ga K "BadRow")) "__getattr__" = some none),
  decide (PySem.W.hasDictIn K (He.ga K "BadRow") = true),
  decide (PySem.W.findIn K (.ref (He.ga K "BadRow")) "__init__" = some (some (.ref (He.fAd K ("BadRow", some "__init__"))))),
  decide (PySem.W.typeIn K (.ref (He.fAd K ("BadRow", some "__init__"))) = some (.type "function")),
  decide (PySem.W.subIn K (.ref (He.ga K "BadRow")) (.type "BaseException") = some true),
  decide (PySem.W.hasDictIn K (He.ga K "BadRow") = true),
  decide (PySem.W.typeIn K (.ref (He.ga K "BadRow")) = some (.type "type")),
  decide (PySem.W.subIn K (.ref (He.ga K "BadRow")) (.ref (He.ga K "BadRow")) = some true),
  decide (PySem.W.nsIn K mainGlobals "len" = some none),
  decide (PySem.W.nsIn K mainGlobals "range" = some none),
  decide (PySem.W.nsIn K mainGlobals "sorted" = some none),
  decide (PySem.W.nsIn K mainGlobals "list" = some none),
  decide (PySem.W.nsIn K mainGlobals "isinstance" = some none),
  decide (PySem.W.nsIn K mainGlobals "int" = some none),
  decide (PySem.W.nsIn K mainGlobals "bool" = some none)]
def exL2 (K : Fr) : List Bool := [decide (PySem.W.nsIn K mainGlobals "enumerate" = some none),
  decide (PySem.W.nsIn K mainGlobals "str" = some none),
  (He.Fa.str "FIGURES" "0123456789").ok K]
def exL (K : Fr) : List Bool := [(exL0 K).all id, (exL1 K).all id, (exL2 K).all id]
def fD_law_bag : He.DefD := ⟨("_law_bag", none), "_law_bag", "_law_bag", defArgs (topS 15), defBody (topS 15), defScope (topS 15), [], []⟩
def fD_law_pull : He.DefD := ⟨("_law_pull", none), "_law_pull", "_law_pull", defArgs (topS 12), defBody (topS 12), defScope (topS 12), [], []⟩
def fD_law_join : He.DefD := ⟨("_law_join", none), "_law_join", "_law_join", defArgs (topS 13), defBody (topS 13), defScope (topS 13), [], []⟩
def fD_law_wide : He.DefD := ⟨("_law_wide", none), "_law_wide", "_law_wide", defArgs (topS 19), defBody (topS 19), defScope (topS 19), [], []⟩
def fD_shown_sum : He.DefD := ⟨("shown_sum", none), "shown_sum", "shown_sum", defArgs (topS 7), defBody (topS 7), defScope (topS 7), [], []⟩
def fD_number_of : He.DefD := ⟨("number_of", none), "number_of", "number_of", defArgs (topS 8), defBody (topS 8), defScope (topS 8), [], []⟩
def fD_is_sum : He.DefD := ⟨("is_sum", none), "is_sum", "is_sum", defArgs (topS 4), defBody (topS 4), defScope (topS 4), [], []⟩
def fD_sum_of : He.DefD := ⟨("sum_of", none), "sum_of", "sum_of", defArgs (topS 9), defBody (topS 9), defScope (topS 9), [], []⟩
def fD_read_sum : He.DefD := ⟨("read_sum", none), "read_sum", "read_sum", defArgs (topS 10), defBody (topS 10), defScope (topS 10), [], []⟩
def fD_law_whole : He.DefD := ⟨("_law_whole", none), "_law_whole", "_law_whole", defArgs (topS 16), defBody (topS 16), defScope (topS 16), [], []⟩
def fD_law_row : He.DefD := ⟨("_law_row", none), "_law_row", "_law_row", defArgs (topS 17), defBody (topS 17), defScope (topS 17), [], []⟩
def fD_law_same : He.DefD := ⟨("_law_same", none), "_law_same", "_law_same", defArgs (topS 18), defBody (topS 18), defScope (topS 18), [], []⟩
def fD_law_told : He.DefD := ⟨("_law_told", none), "_law_told", "_law_told", defArgs (topS 21), defBody (topS 21), defScope (topS 21), [], []⟩
def fD_law_spoilt : He.DefD := ⟨("_law_spoilt", none), "_law_spoilt", "_law_spoilt", defArgs (topS 22), defBody (topS 22), defScope (topS 22), [], []⟩
def fD_law_rising : He.DefD := ⟨("_law_rising", none), "_law_rising", "_law_rising", defArgs (topS 14), defBody (topS 14), defScope (topS 14), [], []⟩
def fD_law_read : He.DefD := ⟨("_law_read", none), "_law_read", "_law_read", defArgs (topS 20), defBody (topS 20), defScope (topS 20), [], []⟩
def fD_law : He.DefD := ⟨("law", none), "law", "law", defArgs (topS 23), defBody (topS 23), defScope (topS 23), [], []⟩
def fD_BadRow_init : He.DefD := ⟨("BadRow", some "__init__"), "__init__", "BadRow.__init__", defArgs (inClass (topS 2) 0), defBody (inClass (topS 2) 0), defScope (inClass (topS 2) 0), [], []⟩
def fnL : List He.DefD := [fD_law_bag, fD_law_pull, fD_law_join, fD_law_wide, fD_shown_sum, fD_number_of, fD_is_sum, fD_sum_of, fD_read_sum, fD_law_whole, fD_law_row, fD_law_same, fD_law_told, fD_law_spoilt, fD_law_rising, fD_law_read, fD_law, fD_BadRow_init]
def loose0 : List Str := ["__name__", "BodyError", "BadRow", "is_sum", "FIGURES", "shown_sum", "number_of", "sum_of", "read_sum", "_law_pull", "_law_join", "_law_rising", "_law_bag", "_law_whole", "_law_row", "_law_same", "_law_wide", "_law_read", "_law_told", "_law_spoilt"]
def looseL : List Str := loose0
abbrev rowL : PySem.W.OpenRow := PySem.W.OpenLaw.row PySem.Challenge.rw_slimbody_k58_sums_written_and_read
def xsL0 : List Str := ["BadRow", "_law_bag", "_law_pull", "_law_join", "_law_wide", "shown_sum", "number_of", "is_sum", "sum_of", "read_sum", "_law_whole", "_law_row", "_law_same", "_law_told", "_law_spoilt", "_law_rising", "_law_read", "law"]
def xsL : List Str := xsL0
abbrev hkL : PySem.W.Hook := hookB xsL fnL exL
def obL (s : PySem.W.SharedT) : He.AlD := obsBG xsL fnL exL (HandSHeadRun.getT s)
theorem obL_eq (s : PySem.W.SharedT) : obL s = hkL.obs s.abs := obsBG_eq (HandSHeadRun.getT_eq s)
theorem runL (w : World) : HandSHeadRun.RunEq rowL (PySem.W.view rowL.prog [23]) hkL obL 20000 looseL w := by
  intro os
  kernel_rfl

end SB

namespace SB
open PySem PySem.Spec PyProof.Rows L2 Res
/-! ## rows: a body's cells by their numbers -/
abbrev Row := Int × List Int
abbrev Rows := List (Option Row)
section
variable {α : Type}
def tab (f : Row → α) : Int → Rows → List (Int × α)
  | _, [] => []
  | k, none :: r => tab f (k + 1) r
  | k, some x :: r => (k, f x) :: tab f (k + 1) r
def hereK : Int → Rows → List Int
  | _, [] => []
  | k, none :: r => hereK (k + 1) r
  | k, some _ :: r => k :: hereK (k + 1) r
def hereF (R : Rows) : List Int := hereK 0 R
def rowAt (R : Rows) (c : Int) : Option Row := if 0 ≤ c then (R[c.toNat]?).join else none
theorem tab_keys (f : Row → α) : ∀ (R : Rows) (k : Int), (tab f k R).map (·.1) = hereK k R
  | [], _ => rfl
  | none :: r, k => tab_keys f r (k + 1)
  | some x :: r, k => congrArg (k :: ·) (tab_keys f r (k + 1))
theorem tab_len (f : Row → α) (k : Int) (R : Rows) : (tab f k R).length ≤ R.length := by
  induction R generalizing k with
  | nil => exact Nat.le_refl _
  | cons x r ih =>
    cases x with
    | none => exact Nat.le_succ_of_le (ih _)
    | some x => exact Nat.succ_le_succ (ih _)
theorem agt_cons {k c : Int} {x : α} {l : List (Int × α)} : agt ((k, x) :: l) c = if k = c then some x else agt l c := by
  unfold agt
  rw [List.find?_cons]
  by_cases h : k = c
  · rw [if_pos h]
    simp [h]
  · rw [if_neg h]
    simp [h]
theorem agt_tabK (f : Row → α) : ∀ (R : Rows) (k c : Int), agt (tab f k R) c = if k ≤ c then ((R[(c - k).toNat]?).join).map f else none
  | [], k, c => by
    show (none : Option α) = _
    simp
  | none :: r, k, c => by
    show agt (tab f (k + 1) r) c = _
    rw [agt_tabK f r (k + 1) c]
    by_cases h : k + 1 ≤ c
    · rw [if_pos h, if_pos (by omega), show (c - k).toNat = (c - (k + 1)).toNat + 1 by omega, List.getElem?_cons_succ]
    · rw [if_neg h]
      by_cases h2 : k ≤ c
      · rw [if_pos h2, show (c - k).toNat = 0 by omega]
        rfl
      · rw [if_neg h2]
  | some x :: r, k, c => by
    show agt ((k, f x) :: tab f (k + 1) r) c = _
    rw [agt_cons, agt_tabK f r (k + 1) c]
    by_cases h : k = c
    · rw [if_pos h, if_pos (by omega), show (c - k).toNat = 0 by omega]
      rfl
    · rw [if_neg h]
      by_cases h1 : k + 1 ≤ c
      · rw [if_pos h1, if_pos (by omega), show (c - k).toNat = (c - (k + 1)).toNat + 1 by omega, List.getElem?_cons_succ]
      · rw [if_neg h1, if_neg (by omega)]
theorem agt_tab (f : Row → α) (R : Rows) (c : Int) : agt (tab f 0 R) c = (rowAt R c).map f := by
  rw [agt_tabK]
  unfold rowAt
  by_cases h : 0 ≤ c
  · rw [if_pos h, if_pos h, show (c - 0).toNat = c.toNat by omega]
  · rw [if_neg h, if_neg h]
    rfl
theorem here_memK : ∀ (R : Rows) (k c : Int), c ∈ hereK k R ↔ k ≤ c ∧ ((R[(c - k).toNat]?).join).isSome = true
  | [], k, c => by
    show c ∈ [] ↔ _
    simp
  | none :: r, k, c => by
    show c ∈ hereK (k + 1) r ↔ _
    rw [here_memK r (k + 1) c]
    by_cases h : k + 1 ≤ c
    · rw [show (c - k).toNat = (c - (k + 1)).toNat + 1 by omega, List.getElem?_cons_succ]
      constructor
      · exact fun ⟨_, h2⟩ => ⟨by omega, h2⟩
      · exact fun ⟨_, h2⟩ => ⟨h, h2⟩
    · constructor
      · exact fun ⟨h2, _⟩ => absurd h2 h
      · rintro ⟨h2, h3⟩
        rw [show (c - k).toNat = 0 by omega] at h3
        cases h3
  | some x :: r, k, c => by
    show c ∈ k :: hereK (k + 1) r ↔ _
    rw [List.mem_cons, here_memK r (k + 1) c]
    by_cases h : c = k
    · subst h
      rw [show (c - c).toNat = 0 by omega]
      simp
    · by_cases h1 : k + 1 ≤ c
      · rw [show (c - k).toNat = (c - (k + 1)).toNat + 1 by omega, List.getElem?_cons_succ]
        constructor
        · rintro (h2 | ⟨_, h2⟩)
          · exact absurd h2 h
          · exact ⟨by omega, h2⟩
        · exact fun ⟨_, h2⟩ => .inr ⟨h1, h2⟩
      · constructor
        · rintro (h2 | ⟨h2, _⟩)
          · exact absurd h2 h
          · exact absurd h2 h1
        · rintro ⟨h2, _⟩
          omega
theorem here_mem {R : Rows} {c : Int} : c ∈ hereF R ↔ (rowAt R c).isSome = true := by
  unfold hereF
  rw [here_memK]
  unfold rowAt
  by_cases h : 0 ≤ c
  · rw [if_pos h, show (c - 0).toNat = c.toNat by omega]
    simp [h]
  · rw [if_neg h]
    simp [h]
theorem here_lowK : ∀ (R : Rows) (k x : Int), x ∈ hereK k R → k ≤ x := fun R k x h => ((here_memK R k x).mp h).1
theorem here_smK : ∀ (R : Rows) (k : Int), Sm (hereK k R)
  | [], _ => .nil
  | none :: r, k => here_smK r (k + 1)
  | some x :: r, k => .cons (fun y hy => by have := here_lowK r (k + 1) y hy; omega) (here_smK r (k + 1))
theorem here_sm (R : Rows) : Sm (hereF R) := here_smK R 0
theorem sort_sm {l : List Int} (h : Sm l) : sortI l = l := sorted_eq (sortI_perm l) (sortI_sorted l) h.le
theorem rowAt_some {R : Rows} {c : Int} {x : Row} (h : rowAt R c = some x) : 0 ≤ c ∧ c < (R.length : Int) ∧ R[c.toNat]? = some (some x) := by
  unfold rowAt at h
  by_cases h0 : 0 ≤ c
  · rw [if_pos h0] at h
    cases e : R[c.toNat]? with
    | none =>
      rw [e] at h
      cases h
    | some y =>
      rw [e] at h
      have h : y = some x := h
      have := (List.getElem?_eq_some_iff.mp e).1
      exact ⟨h0, by omega, by rw [h]⟩
  · rw [if_neg h0] at h
    cases h
theorem rowAt_of {R : Rows} {c : Int} {x : Option Row} (h0 : 0 ≤ c) (h : R[c.toNat]? = some x) : rowAt R c = x := by
  unfold rowAt
  rw [if_pos h0, h]
  rfl
theorem here_lt {R : Rows} {c : Int} (h : c ∈ hereF R) : 0 ≤ c ∧ c < (R.length : Int) := by
  rw [here_mem] at h
  cases e : rowAt R c with
  | none =>
    rw [e] at h
    cases h
  | some x => exact ⟨(rowAt_some e).1, (rowAt_some e).2.1⟩
theorem rowAt_ge {R : Rows} {c : Int} (h : (R.length : Int) ≤ c) : rowAt R c = none := by
  cases e : rowAt R c with
  | none => rfl
  | some x =>
    have := rowAt_some e
    omega
theorem rowAt_append {R S : Rows} {c : Int} (h : c < (R.length : Int)) : rowAt (R ++ S) c = rowAt R c := by
  unfold rowAt
  by_cases h0 : 0 ≤ c
  · rw [if_pos h0, if_pos h0, List.getElem?_append_left (by omega)]
  · rw [if_neg h0, if_neg h0]
theorem rowAt_last {R : Rows} {x : Option Row} : rowAt (R ++ [x]) (R.length : Int) = x := by
  unfold rowAt
  rw [if_pos (by omega), show ((R.length : Int)).toNat = R.length by omega, List.getElem?_append_right (Nat.le_refl _), Nat.sub_self]
  rfl
theorem tab_append (f : Row → α) : ∀ (R S : Rows) (k : Int), tab f k (R ++ S) = tab f k R ++ tab f (k + R.length) S
  | [], S, k => by
    show tab f k S = tab f (k + 0) S
    rw [Int.add_zero]
  | none :: r, S, k => by
    show tab f (k + 1) (r ++ S) = tab f (k + 1) r ++ _
    rw [tab_append f r S (k + 1), List.length_cons, show k + 1 + (r.length : Int) = k + ((r.length + 1 : Nat) : Int) by omega]
  | some x :: r, S, k => by
    show (k, f x) :: tab f (k + 1) (r ++ S) = (k, f x) :: tab f (k + 1) r ++ _
    rw [tab_append f r S (k + 1), List.length_cons, show k + 1 + (r.length : Int) = k + ((r.length + 1 : Nat) : Int) by omega]
    rfl
theorem tab_put (f : Row → α) (R : Rows) (x : Row) : aput (tab f 0 R) (R.length : Int) (f x) = tab f 0 (R ++ [some x]) := by
  unfold aput
  rw [if_neg, tab_append, Int.zero_add]
  · rfl
  · intro h
    rw [List.any_eq_true] at h
    obtain ⟨p, hp, he⟩ := h
    have h1 : p.1 ∈ hereK 0 R := by
      rw [← tab_keys f]
      exact List.mem_map_of_mem hp
    have h2 := here_lt (R := R) h1
    have h3 : p.1 = (R.length : Int) := of_decide_eq_true he
    omega
theorem tab_drop (f : Row → α) : ∀ (R : Rows) (k c : Int), k ≤ c → adrop (tab f k R) c = tab f k (R.set (c - k).toNat none)
  | [], k, c, _ => rfl
  | none :: r, k, c, h => by
    show adrop (tab f (k + 1) r) c = _
    by_cases h1 : c = k
    · subst h1
      rw [show (c - c).toNat = 0 by omega]
      show _ = tab f (c + 1) r
      unfold adrop
      rw [List.filter_eq_self]
      intro p hp
      have h1 : p.1 ∈ hereK (c + 1) r := by
        rw [← tab_keys f]
        exact List.mem_map_of_mem hp
      have := here_lowK r (c + 1) p.1 h1
      exact decide_eq_true (by omega)
    · rw [tab_drop f r (k + 1) c (by omega), show (c - k).toNat = (c - (k + 1)).toNat + 1 by omega]
      rfl
  | some x :: r, k, c, h => by
    show ((k, f x) :: tab f (k + 1) r).filter _ = _
    by_cases h1 : c = k
    · subst h1
      rw [show (c - c).toNat = 0 by omega, List.filter_cons, if_neg (by simp)]
      show _ = tab f (c + 1) r
      rw [List.filter_eq_self]
      intro p hp
      have h1 : p.1 ∈ hereK (c + 1) r := by
        rw [← tab_keys f]
        exact List.mem_map_of_mem hp
      have := here_lowK r (c + 1) p.1 h1
      exact decide_eq_true (by omega)
    · rw [List.filter_cons, if_pos (by rw [decide_eq_true_iff]; exact fun e => h1 e.symm)]
      have ih := tab_drop f r (k + 1) c (by omega)
      unfold adrop at ih
      rw [ih, show (c - k).toNat = (c - (k + 1)).toNat + 1 by omega]
      rfl
end
/-! ## borders -/
def edgeAt (R : Rows) (c : Int) : List Int := match rowAt R c with
  | some x => x.2
  | none => []
def edgeF (R : Rows) (row : List Int) : List Int := row.foldl (fun s c => joinF s (edgeAt R c)) []
/-- a row that may be put at c -/
structure Good (R : Rows) (c r : Int) (e : List Int) : Prop where
  lo : 0 ≤ r
  hi : r ≤ 12
  sm : Sm e
  lt : ∀ x ∈ e, x < c
  kin : ∀ x ∈ e, ∃ e', rowAt R x = some (r - 1, e')
  round : edgeF R e = []
def Wf (R : Rows) : Prop := ∀ c r e, rowAt R c = some (r, e) → Good R c r e
theorem edgeAt_append {R S : Rows} {c : Int} (h : c < (R.length : Int)) : edgeAt (R ++ S) c = edgeAt R c := by
  unfold edgeAt
  rw [rowAt_append h]
theorem edge_fold_congr {R S : Rows} : ∀ (e s : List Int), (∀ x ∈ e, edgeAt R x = edgeAt S x) → e.foldl (fun s c => joinF s (edgeAt R c)) s = e.foldl (fun s c => joinF s (edgeAt S c)) s
  | [], _, _ => rfl
  | x :: e, s, h => by
    rw [List.foldl_cons, List.foldl_cons, h x List.mem_cons_self, edge_fold_congr e _ fun y hy => h y (List.mem_cons_of_mem _ hy)]
theorem edgeF_congr {R S : Rows} {e : List Int} (h : ∀ x ∈ e, edgeAt R x = edgeAt S x) : edgeF R e = edgeF S e := edge_fold_congr e [] h
theorem edgeF_append {R S : Rows} {e : List Int} (h : ∀ x ∈ e, x < (R.length : Int)) : edgeF (R ++ S) e = edgeF R e := edgeF_congr fun x hx => edgeAt_append (h x hx)
theorem Good.append {R S : Rows} {c r : Int} {e : List Int} (g : Good R c r e) : Good (R ++ S) c r e := by
  have hl : ∀ x ∈ e, x < (R.length : Int) := fun x hx => by
    obtain ⟨e', h⟩ := g.kin x hx
    exact (rowAt_some h).2.1
  refine ⟨g.lo, g.hi, g.sm, g.lt, fun x hx => ?_, by rw [edgeF_append hl]; exact g.round⟩
  rw [rowAt_append (hl x hx)]
  exact g.kin x hx
theorem Wf.snoc {R : Rows} (h : Wf R) {x : Option Row} (hx : ∀ r e, x = some (r, e) → Good R R.length r e) : Wf (R ++ [x]) := by
  intro c r e hc
  by_cases h1 : c < (R.length : Int)
  · rw [rowAt_append h1] at hc
    exact (h c r e hc).append
  · have h2 := rowAt_some hc
    rw [List.length_append, List.length_singleton] at h2
    have h3 : c = (R.length : Int) := by omega
    subst h3
    rw [rowAt_last] at hc
    exact (hx r e hc).append
theorem wf_nil : Wf [] := fun c r e h => by
  have := rowAt_some h
  have h2 := this.2.1
  have h3 := this.1
  simp at h2
  omega
theorem edgeAt_sm {R : Rows} (h : Wf R) (c : Int) : Sm (edgeAt R c) := by
  unfold edgeAt
  cases e : rowAt R c with
  | none => exact .nil
  | some x => exact (h c x.1 x.2 e).sm
theorem fold_sm {R : Rows} (h : Wf R) : ∀ (e s : List Int), Sm s → Sm (e.foldl (fun s c => joinF s (edgeAt R c)) s)
  | [], _, hs => hs
  | x :: e, s, hs => fold_sm h e _ (sm_join hs (edgeAt_sm h x))
theorem edgeF_sm {R : Rows} (h : Wf R) (e : List Int) : Sm (edgeF R e) := fold_sm h e [] .nil
theorem edgeAt_mem {R : Rows} (h : Wf R) {c x : Int} (hx : x ∈ edgeAt R c) : ∃ r e, rowAt R c = some (r, e) ∧ x ∈ e ∧ ∃ e', rowAt R x = some (r - 1, e') := by
  unfold edgeAt at hx
  cases e : rowAt R c with
  | none =>
    rw [e] at hx
    cases hx
  | some y =>
    rw [e] at hx
    exact ⟨y.1, y.2, rfl, hx, (h c y.1 y.2 e).kin x hx⟩
theorem fold_mem {R : Rows} {x : Int} : ∀ (e s : List Int), x ∈ e.foldl (fun s c => joinF s (edgeAt R c)) s → x ∈ s ∨ ∃ c ∈ e, x ∈ edgeAt R c
  | [], _, h => .inl h
  | c :: e, s, h => by
    rcases fold_mem e _ h with h1 | ⟨d, hd, h1⟩
    · rcases mem_join.mp h1 with h2 | h2
      · exact .inl h2.1
      · exact .inr ⟨c, List.mem_cons_self, h2.1⟩
    · exact .inr ⟨d, List.mem_cons_of_mem _ hd, h1⟩
theorem edgeF_mem {R : Rows} {x : Int} {e : List Int} (h : x ∈ edgeF R e) : ∃ c ∈ e, x ∈ edgeAt R c := by
  rcases fold_mem e [] h with h1 | h1
  · cases h1
  · exact h1
theorem fold_start {R : Rows} (hw : Wf R) : ∀ (e s : List Int), Sm s → e.foldl (fun s c => joinF s (edgeAt R c)) s = joinF s (e.foldl (fun s c => joinF s (edgeAt R c)) [])
  | [], s, hs => (join_nil s hs).symm
  | c :: e, s, hs => by
    have hc := edgeAt_sm hw c
    rw [List.foldl_cons, List.foldl_cons, fold_start hw e _ (sm_join hs hc), nil_join _ hc, fold_start hw e _ hc, join_assoc _ _ _ hs hc (fold_sm hw e [] .nil)]
theorem edgeF_cons {R : Rows} (hw : Wf R) (c : Int) (e : List Int) : edgeF R (c :: e) = joinF (edgeAt R c) (edgeF R e) := by
  unfold edgeF
  rw [List.foldl_cons, nil_join _ (edgeAt_sm hw c), fold_start hw e _ (edgeAt_sm hw c)]
theorem edgeF_append_row {R : Rows} (hw : Wf R) : ∀ (a b : List Int), edgeF R (a ++ b) = joinF (edgeF R a) (edgeF R b)
  | [], b => (nil_join _ (edgeF_sm hw b)).symm
  | c :: a, b => by
    rw [List.cons_append, edgeF_cons hw, edgeF_append_row hw a b, edgeF_cons hw, join_assoc _ _ _ (edgeAt_sm hw c) (edgeF_sm hw a) (edgeF_sm hw b)]
/-- a sum's border does not ask for the order -/
theorem edgeF_perm {R : Rows} (hw : Wf R) {a b : List Int} (h : a.Perm b) : edgeF R a = edgeF R b := by
  induction h with
  | nil => rfl
  | cons x _ ih => rw [edgeF_cons hw, edgeF_cons hw, ih]
  | swap x y l =>
    have hx := edgeAt_sm hw x
    have hy := edgeAt_sm hw y
    have hl := edgeF_sm hw l
    rw [edgeF_cons hw, edgeF_cons hw, edgeF_cons hw, edgeF_cons hw, ← join_assoc _ _ _ hy hx hl, join_comm _ _ hy hx, join_assoc _ _ _ hx hy hl]
  | trans _ _ ih1 ih2 => exact ih1.trans ih2
theorem join_cancel (a b : List Int) (ha : Sm a) (hb : Sm b) : joinF a (joinF a b) = b := by
  rw [← join_assoc _ _ _ ha ha hb, join_self, nil_join _ hb]
/-- the border of two sums added -/
theorem edgeF_join {R : Rows} (hw : Wf R) {a b : List Int} (ha : Sm a) (hb : Sm b) : edgeF R (joinF a b) = joinF (edgeF R a) (edgeF R b) := by
  -- a = a0 + c, b = b0 + c, the sum: a0 + b0
  have hp : ∀ l : List Int, ∀ q : Int → Bool, edgeF R l = joinF (edgeF R (l.filter q)) (edgeF R (l.filter fun x => !q x)) := fun l q => by
    rw [← edgeF_append_row hw]
    exact edgeF_perm hw (List.filter_append_perm q l).symm
  have ea := hp a (fun x => !decide (x ∈ b))
  have eb := hp b (fun x => !decide (x ∈ a))
  have hc : edgeF R (a.filter fun x => !!decide (x ∈ b)) = edgeF R (b.filter fun x => !!decide (x ∈ a)) := by
    refine edgeF_perm hw (perm_of (ha.nodup.filter _) (hb.nodup.filter _) fun x => ?_)
    rw [List.mem_filter, List.mem_filter]
    simp
    exact And.comm
  have e1 : edgeF R (joinF a b) = joinF (edgeF R (a.filter fun x => !decide (x ∈ b))) (edgeF R (b.filter fun x => !decide (x ∈ a))) := (edgeF_perm hw (sortI_perm _)).trans (edgeF_append_row hw _ _)
  have h1 := edgeF_sm hw (a.filter fun x => !decide (x ∈ b))
  have h2 := edgeF_sm hw (b.filter fun x => !decide (x ∈ a))
  have h3 := edgeF_sm hw (b.filter fun x => !!decide (x ∈ a))
  rw [e1, ea, eb, hc, join_comm _ _ h2 h3, join_assoc _ _ _ h1 h3 (sm_join h3 h2), join_cancel _ _ h3 h2]
theorem sm_snoc {l : List Int} {n : Int} (h : Sm l) (hn : ∀ x ∈ l, x < n) : Sm (l ++ [n]) := List.pairwise_append.mpr ⟨h, List.pairwise_singleton _ _, fun x hx y hy => by
  rw [List.mem_singleton] at hy
  rw [hy]
  exact hn x hx⟩
/-- few numbers are there -/
theorem sm_lenK : ∀ (l : List Int) (lo hi : Int), Sm l → (∀ x ∈ l, lo ≤ x ∧ x < hi) → (l.length : Int) ≤ max 0 (hi - lo)
  | [], lo, hi, _, _ => by
    show (0 : Int) ≤ _
    omega
  | x :: l, lo, hi, h, hb => by
    cases h with
    | cons h1 h2 =>
      have hx := hb x List.mem_cons_self
      have ih := sm_lenK l (x + 1) hi h2 fun y hy => ⟨by have := h1 y hy; omega, (hb y (List.mem_cons_of_mem _ hy)).2⟩
      rw [List.length_cons]
      omega
theorem sm_len {l : List Int} {n : Nat} (h : Sm l) (hb : ∀ x ∈ l, 0 ≤ x ∧ x < (n : Int)) : l.length ≤ n := by
  have := sm_lenK l 0 n h hb
  omega
/-! ## a body that has such rows -/
def Bd {t : Bool} (R : Rows) (s : FS t) : Prop := s.ranks = tab (·.1) 0 R ∧ s.edges = tab (·.2) 0 R ∧ s.after = (R.length : Int)
theorem Bd.rk {t : Bool} {R : Rows} {s : FS t} (h : Bd R s) (c : Int) : agt s.ranks c = (rowAt R c).map (·.1) := by rw [h.1, agt_tab]
theorem Bd.ed {t : Bool} {R : Rows} {s : FS t} (h : Bd R s) (c : Int) : agt s.edges c = (rowAt R c).map (·.2) := by rw [h.2.1, agt_tab]
theorem Bd.keys {t : Bool} {R : Rows} {s : FS t} (h : Bd R s) : s.ranks.map (·.1) = hereF R := by rw [h.1, tab_keys]; rfl
theorem ag_eq {ω α : Type} {l : List (Int × α)} {k : Int} {x : α} (h : agt l k = some x) : (agR l k : Res ω α) = .ok x := by
  unfold agR
  rw [h]
theorem aput_eq {ω α : Type} {l : List (Int × α)} {k : Int} {x : α} (h : l.length < 16777216) : (aputR l k x : Res ω _) = .ok (aput l k x) := by
  unfold aputR
  rw [if_pos (Nat.lt_of_lt_of_le h size_big)]
theorem apop_eq {ω α : Type} {l : List (Int × α)} {k : Int} {x : α} (h : agt l k = some x) : (apopR l k : Res ω _) = .ok (x, adrop l k) := by
  unfold apopR
  rw [h]
theorem keys_eq {ω α : Type} {l : List (Int × α)} (h : l.length ≤ 16777216) : (keysR l : Res ω _) = .ok (l.map (·.1)) := by
  unfold keysR
  rw [if_pos (Nat.le_trans h size_big)]
theorem get_eq {ω α : Type} {x : Option α} {y : α} (h : x = some y) : (getR x : Res ω α) = .ok y := by
  unfold getR
  rw [h]
end SB

namespace SB
open PySem PySem.Spec PyProof.Rows L2 Res
/-! ## dicts whose keys are numbers -/
section
variable {α : Type}
theorem agt_nil {k : Int} : agt ([] : List (Int × α)) k = none := rfl
theorem agt_mem_of : ∀ {l : List (Int × α)} {k : Int} {x : α}, agt l k = some x → (k, x) ∈ l
  | [], _, _, h => (nomatch h)
  | (j, y) :: l, k, x, h => by
    rw [agt_cons] at h
    by_cases e : j = k
    · rw [if_pos e] at h
      cases h
      subst e
      exact List.mem_cons_self
    · rw [if_neg e] at h
      exact List.mem_cons_of_mem _ (agt_mem_of h)
theorem agt_some_key {l : List (Int × α)} {k : Int} {x : α} (h : agt l k = some x) : k ∈ l.map (·.1) := List.mem_map.mpr ⟨_, agt_mem_of h, rfl⟩
theorem agt_none {k : Int} : ∀ {l : List (Int × α)}, agt l k = none ↔ k ∉ l.map (·.1)
  | [] => ⟨fun _ h => (nomatch h), fun _ => rfl⟩
  | (j, y) :: l => by
    rw [agt_cons, List.map_cons, List.mem_cons]
    by_cases e : j = k
    · rw [if_pos e]
      exact ⟨fun h => (nomatch h), fun h => absurd (.inl e.symm) h⟩
    · rw [if_neg e, agt_none (l := l)]
      exact ⟨fun h z => z.elim (fun z => e z.symm) h, fun h z => h (.inr z)⟩
theorem agt_some {k : Int} {l : List (Int × α)} : (agt l k).isSome = true ↔ k ∈ l.map (·.1) := by
  have := agt_none (l := l) (k := k)
  cases e : agt l k with
  | none => exact ⟨fun h => (nomatch h), fun h => absurd h (this.mp e)⟩
  | some x => exact ⟨fun _ => agt_some_key e, fun _ => rfl⟩
theorem agt_iff {l : List (Int × α)} (h : (l.map (·.1)).Nodup) {k : Int} {x : α} : agt l k = some x ↔ (k, x) ∈ l := by
  refine ⟨agt_mem_of, ?_⟩
  induction l with
  | nil => exact fun z => (nomatch z)
  | cons p l ih =>
    obtain ⟨j, y⟩ := p
    intro z
    rw [List.map_cons, List.nodup_cons] at h
    rw [agt_cons]
    cases z with
    | head => rw [if_pos rfl]
    | tail _ z => rw [if_neg fun e => h.1 (by rw [show (j, y).1 = k from e]; exact List.mem_map.mpr ⟨_, z, rfl⟩), ih h.2 z]
theorem agt_perm {l l' : List (Int × α)} (p : l.Perm l') (h : (l.map (·.1)).Nodup) (k : Int) : agt l k = agt l' k := by
  have h' : (l'.map (·.1)).Nodup := (p.map _).nodup_iff.mp h
  cases e : agt l' k with
  | none =>
    rw [agt_none] at e ⊢
    exact fun z => e ((p.map _).mem_iff.mp z)
  | some x => exact (agt_iff h).mpr (p.mem_iff.mpr ((agt_iff h').mp e))
theorem agt_append {k : Int} : ∀ {l l' : List (Int × α)}, agt (l ++ l') k = (agt l k).or (agt l' k)
  | [], l' => rfl
  | (j, y) :: l, l' => by
    rw [List.cons_append, agt_cons, agt_cons, agt_append]
    by_cases e : j = k
    · rw [if_pos e, if_pos e]
      rfl
    · rw [if_neg e, if_neg e]
theorem any_key {l : List (Int × α)} {k : Int} : (l.any fun p => decide (p.1 = k)) = true ↔ k ∈ l.map (·.1) := by
  rw [List.any_eq_true, List.mem_map]
  exact ⟨fun ⟨p, h1, h2⟩ => ⟨p, h1, of_decide_eq_true h2⟩, fun ⟨p, h1, h2⟩ => ⟨p, h1, decide_eq_true h2⟩⟩
theorem aput_new {l : List (Int × α)} {k : Int} {x : α} (h : agt l k = none) : aput l k x = l ++ [(k, x)] := by
  unfold aput
  rw [if_neg fun z => agt_none.mp h (any_key.mp z)]
theorem agt_map_put {k : Int} {x : α} : ∀ {l : List (Int × α)} {j : Int}, agt (l.map fun p => if p.1 = k then (p.1, x) else p) j = if k = j ∧ (agt l k).isSome = true then some x else agt l j
  | [], j => by
    rw [if_neg fun h => (nomatch h.2)]
    rfl
  | (i, y) :: l, j => by
    rw [List.map_cons]
    show agt ((if i = k then (i, x) else (i, y)) :: _) j = _
    by_cases e : i = k
    · rw [if_pos e, agt_cons, agt_cons, agt_cons, agt_map_put, if_pos e]
      subst e
      by_cases e2 : i = j
      · rw [if_pos e2, if_pos ⟨e2, rfl⟩]
      · rw [if_neg e2, if_neg fun h => e2 h.1, if_neg fun h => e2 h.1, if_neg e2]
    · rw [if_neg e, agt_cons, agt_cons, agt_cons, agt_map_put, if_neg e]
      by_cases e2 : i = j
      · rw [if_pos e2, if_pos e2, if_neg fun h => e (e2.trans h.1.symm)]
      · rw [if_neg e2, if_neg e2]
theorem agt_aput {l : List (Int × α)} {k j : Int} {x : α} : agt (aput l k x) j = if k = j then some x else agt l j := by
  cases e : agt l k with
  | none =>
    rw [aput_new e, agt_append, agt_cons]
    by_cases z : k = j
    · rw [if_pos z, if_pos z]
      subst z
      rw [e]
      rfl
    · rw [if_neg z, if_neg z, agt_nil]
      cases agt l j <;> rfl
  | some y =>
    unfold aput
    rw [if_pos (any_key.mpr (agt_some_key e)), agt_map_put, e]
    by_cases z : k = j
    · rw [if_pos z, if_pos ⟨z, rfl⟩]
    · rw [if_neg z, if_neg fun h => z h.1]
theorem aput_keys {l : List (Int × α)} {k : Int} {x y : α} (h : agt l k = some y) : (aput l k x).map (·.1) = l.map (·.1) := by
  unfold aput
  rw [if_pos (any_key.mpr (agt_some_key h)), List.map_map]
  refine List.map_congr_left fun p _ => ?_
  show (if p.1 = k then (p.1, x) else p).1 = p.1
  by_cases e : p.1 = k
  · rw [if_pos e]
  · rw [if_neg e]
theorem aput_len {l : List (Int × α)} {k : Int} {x : α} : (aput l k x).length ≤ l.length + 1 := by
  unfold aput
  by_cases e : (l.any fun p => decide (p.1 = k)) = true
  · rw [if_pos e, List.length_map]
    omega
  · rw [if_neg e, List.length_append, List.length_singleton]
    omega
theorem agt_adrop {k : Int} : ∀ {l : List (Int × α)} {j : Int}, agt (adrop l k) j = if k = j then none else agt l j
  | [], j => by
    by_cases e : k = j
    · rw [if_pos e]
      rfl
    · rw [if_neg e]
      rfl
  | (i, y) :: l, j => by
    unfold adrop
    rw [List.filter_cons]
    have ih := agt_adrop (k := k) (l := l) (j := j)
    unfold adrop at ih
    by_cases e : i = k
    · rw [if_neg (by rw [decide_eq_true_iff]; exact fun h => h e), ih, agt_cons]
      by_cases e2 : k = j
      · rw [if_pos e2, if_pos e2]
      · rw [if_neg e2, if_neg e2, if_neg (e ▸ e2)]
    · rw [if_pos (decide_eq_true e), agt_cons, agt_cons, ih]
      by_cases e2 : i = j
      · rw [if_pos e2, if_pos e2, if_neg fun z => e (e2.trans z.symm)]
      · rw [if_neg e2, if_neg e2]
theorem adrop_nodup {l : List (Int × α)} {k : Int} (h : (l.map (·.1)).Nodup) : ((adrop l k).map (·.1)).Nodup := h.sublist ((List.filter_sublist).map _)
end
/-! ## arrows -/
abbrev Ar := List (Int × Int)
def stepsF (R : Rows) (a : Ar) (t : Int) : List Int := match agt a t with
  | some h => (edgeAt R h).filter fun x => !decide (x = t) && (agt a x).isSome
  | none => []
theorem steps_at {R : Rows} {a : Ar} {t h : Int} (e : agt a t = some h) : stepsF R a t = (edgeAt R h).filter fun x => !decide (x = t) && (agt a x).isSome := by
  unfold stepsF
  rw [e]
theorem steps_mem {R : Rows} {a : Ar} {t x : Int} : x ∈ stepsF R a t ↔ ∃ h, agt a t = some h ∧ x ∈ edgeAt R h ∧ x ≠ t ∧ (agt a x).isSome = true := by
  unfold stepsF
  cases e : agt a t with
  | none => exact ⟨fun h => (nomatch h), fun ⟨h, z, _⟩ => (nomatch z)⟩
  | some h =>
    show x ∈ List.filter _ _ ↔ _
    rw [List.mem_filter, Bool.and_eq_true]
    refine ⟨fun ⟨h1, h2, h3⟩ => ⟨h, rfl, h1, fun z => ?_, h3⟩, fun ⟨h', z, h1, h2, h3⟩ => ?_⟩
    · rw [decide_eq_true z] at h2
      cases h2
    · cases z
      refine ⟨h1, ?_, h3⟩
      rw [decide_eq_false h2]
      rfl
theorem steps_sm {R : Rows} (hw : Wf R) (a : Ar) (t : Int) : Sm (stepsF R a t) := by
  unfold stepsF
  cases e : agt a t with
  | none => exact .nil
  | some h => exact List.Pairwise.filter _ (edgeAt_sm hw h)
def Rk (R : Rows) (a : Ar) (rk : Int → Nat) : Prop := ∀ t x, x ∈ stepsF R a t → rk x < rk t
structure Fd (R : Rows) (a b : Ar) : Prop where
  ka : (a.map (·.1)).Nodup
  kb : (b.map (·.1)).Nodup
  ab : ∀ t h, agt a t = some h ↔ agt b h = some t
  face : ∀ t h, agt a t = some h → t ∈ edgeAt R h
  two : ∀ x, (agt a x).isSome = true → agt b x = none
  acy : ∃ rk, Rk R a rk
theorem filter_lt {p q : Int → Bool} : ∀ {l : List Int}, (∀ x, p x = true → q x = true) → (∃ x ∈ l, q x = true ∧ p x = false) → (l.filter p).length < (l.filter q).length
  | [], _, ⟨_, h, _⟩ => (nomatch h)
  | y :: l, hpq, ⟨x, hx, h1, h2⟩ => by
    have le : (l.filter p).length ≤ (l.filter q).length := by
      have : l.filter p = (l.filter q).filter p := by
        rw [List.filter_filter]
        refine List.filter_congr fun z _ => ?_
        cases e : p z with
        | false => rfl
        | true => rw [hpq z e]; rfl
      rw [this]
      exact List.length_filter_le _ _
    rw [List.filter_cons, List.filter_cons]
    by_cases e : x = y
    · subst e
      rw [if_pos h1, if_neg (by rw [h2]; decide), List.length_cons]
      omega
    · have hx : x ∈ l := by
        cases hx with
        | head => exact absurd rfl e
        | tail _ h => exact h
      have ih := filter_lt hpq ⟨x, hx, h1, h2⟩
      by_cases ep : p y = true
      · rw [if_pos ep, if_pos (hpq y ep), List.length_cons, List.length_cons]
        omega
      · rw [if_neg ep]
        by_cases eq : q y = true
        · rw [if_pos eq, List.length_cons]
          omega
        · rw [if_neg eq]
          exact ih
theorem rk_norm {R : Rows} {a : Ar} (h : ∃ rk, Rk R a rk) : ∃ rk, Rk R a rk ∧ ∀ x, rk x ≤ a.length := by
  obtain ⟨rk, h⟩ := h
  refine ⟨fun x => ((a.map (·.1)).filter fun u => decide (rk u < rk x)).length, fun t x hx => ?_, fun x => ?_⟩
  · have hr := h t x hx
    obtain ⟨_, _, _, _, hk⟩ := steps_mem.mp hx
    exact filter_lt (fun u hu => decide_eq_true (Nat.lt_trans (of_decide_eq_true hu) hr)) ⟨x, agt_some.mp hk, decide_eq_true hr, decide_eq_false (Nat.lt_irrefl _)⟩
  · exact Nat.le_trans (List.length_filter_le _ _) (by rw [List.length_map]; exact Nat.le_refl _)
theorem edge_here {R : Rows} (hw : Wf R) {x h : Int} (hx : x ∈ edgeAt R h) : (rowAt R x).isSome = true ∧ (rowAt R h).isSome = true ∧ x < h := by
  obtain ⟨r, e, h1, h2, e', h3⟩ := edgeAt_mem hw hx
  rw [h1, h3]
  exact ⟨rfl, rfl, (hw h r e h1).lt x h2⟩
theorem nodup_len {l : List Int} {R : Rows} (h : l.Nodup) (hb : ∀ x ∈ l, (rowAt R x).isSome = true) : l.length ≤ R.length := by
  have := sm_len (sm_sort h) (n := R.length) fun x hx => here_lt (here_mem.mpr (hb x (mem_sort.mp hx)))
  rw [(sortI_perm l).length_eq] at this
  exact this
theorem Fd.tail_here {R : Rows} {a b : Ar} (f : Fd R a b) (hw : Wf R) {x : Int} (h : (agt a x).isSome = true) : (rowAt R x).isSome = true := by
  obtain ⟨y, e⟩ := Option.isSome_iff_exists.mp h
  exact (edge_here hw (f.face x y e)).1
theorem Fd.head_here {R : Rows} {a b : Ar} (f : Fd R a b) (hw : Wf R) {x : Int} (h : (agt b x).isSome = true) : (rowAt R x).isSome = true := by
  obtain ⟨y, e⟩ := Option.isSome_iff_exists.mp h
  exact (edge_here hw (f.face y x ((f.ab y x).mpr e))).2.1
theorem Fd.len {R : Rows} {a b : Ar} (f : Fd R a b) (hw : Wf R) : a.length ≤ R.length := by
  have := nodup_len f.ka (R := R) fun x hx => f.tail_here hw (agt_some.mpr hx)
  rw [List.length_map] at this
  exact this
theorem Fd.lenb {R : Rows} {a b : Ar} (f : Fd R a b) (hw : Wf R) : b.length ≤ R.length := by
  have := nodup_len f.kb (R := R) fun x hx => f.head_here hw (agt_some.mpr hx)
  rw [List.length_map] at this
  exact this
theorem fd_nil {R : Rows} : Fd R [] [] := ⟨.nil, .nil, fun _ _ => ⟨fun h => (nomatch h), fun h => (nomatch h)⟩, fun _ _ h => (nomatch h), fun _ h => (nomatch h), ⟨fun _ => 0, fun t x h => by
  obtain ⟨_, z, _⟩ := steps_mem.mp h
  cases z⟩⟩
theorem Fd.congr {R R' : Rows} {a b : Ar} (f : Fd R a b) (h : ∀ t y, agt a t = some y → edgeAt R' y = edgeAt R y) : Fd R' a b := by
  refine ⟨f.ka, f.kb, f.ab, fun t y e => ?_, f.two, ?_⟩
  · rw [h t y e]
    exact f.face t y e
  · obtain ⟨rk, z⟩ := f.acy
    refine ⟨rk, fun t x hx => z t x ?_⟩
    obtain ⟨y, e, h1, h2⟩ := steps_mem.mp hx
    rw [h t y e] at h1
    exact steps_mem.mpr ⟨y, e, h1, h2⟩
theorem bound_of {rk : Int → Nat} : ∀ C : List Int, ∃ N, ∀ x ∈ C, rk x < N
  | [] => ⟨0, fun _ h => (nomatch h)⟩
  | c :: C => by
    obtain ⟨N, h⟩ := bound_of (rk := rk) C
    refine ⟨N + rk c + 1, fun x hx => ?_⟩
    cases hx with
    | head => omega
    | tail _ z => have := h x z; omega
theorem agt_snoc {a : Ar} {l h x : Int} (hl : agt a l = none) : agt (a ++ [(l, h)]) x = if l = x then some h else agt a x := by
  rw [← aput_new hl, agt_aput]
theorem rk_tie {R : Rows} {a : Ar} {low high : Int} {C : List Int} (hr : ∃ rk, Rk R a rk) (hl : agt a low = none) (h0 : ∀ x ∈ edgeAt R high, x ≠ low → (agt a x).isSome = true → x ∈ C)
    (h1 : ∀ t ∈ C, ∀ h, agt a t = some h → low ∉ edgeAt R h) (h2 : ∀ t ∈ C, ∀ x ∈ stepsF R a t, x ∈ C) (h3 : ∀ t ∈ C, t ≠ low) : ∃ rk, Rk R (a ++ [(low, high)]) rk := by
  obtain ⟨rk, hr⟩ := hr
  obtain ⟨N, hN⟩ := bound_of (rk := rk) C
  refine ⟨fun x => if x ∈ C then rk x else if x = low then N else rk x + N + 1, fun t x hx => ?_⟩
  obtain ⟨h, e, hm, hne, hs⟩ := steps_mem.mp hx
  rw [agt_snoc hl] at e hs
  show (if x ∈ C then rk x else if x = low then N else rk x + N + 1) < (if t ∈ C then rk t else if t = low then N else rk t + N + 1)
  by_cases et : low = t
  · rw [if_pos et] at e
    cases e
    subst et
    rw [if_neg (Ne.symm hne)] at hs
    have hxC := h0 x hm hne hs
    rw [if_pos hxC, if_neg fun z => h3 low z rfl, if_pos rfl]
    exact hN x hxC
  · rw [if_neg et] at e
    by_cases ex : low = x
    · subst ex
      have htC : t ∉ C := fun z => h1 t z h e hm
      rw [if_neg fun z => h3 low z rfl, if_pos rfl, if_neg htC, if_neg (Ne.symm et)]
      omega
    · rw [if_neg ex] at hs
      have hst : x ∈ stepsF R a t := steps_mem.mpr ⟨h, e, hm, hne, hs⟩
      have hlt := hr t x hst
      by_cases htC : t ∈ C
      · rw [if_pos (h2 t htC x hst), if_pos htC]
        exact hlt
      · rw [if_neg htC, if_neg (Ne.symm et)]
        by_cases hxC : x ∈ C
        · rw [if_pos hxC]
          have := hN x hxC
          omega
        · rw [if_neg hxC, if_neg (Ne.symm ex)]
          omega
theorem Fd.tie {R : Rows} {a b : Ar} {low high : Int} (f : Fd R a b) (hw : Wf R) (hf : low ∈ edgeAt R high) (a1 : agt a low = none) (a2 : agt b low = none) (b1 : agt a high = none) (b2 : agt b high = none)
    (hr : ∃ rk, Rk R (a ++ [(low, high)]) rk) : Fd R (a ++ [(low, high)]) (b ++ [(high, low)]) := by
  have hne : low ≠ high := fun e => by
    have := (edge_here hw hf).2.2
    omega
  refine ⟨?_, ?_, fun t h => ?_, fun t h e => ?_, fun x hx => ?_, hr⟩
  · rw [List.map_append, List.nodup_append]
    refine ⟨f.ka, List.pairwise_singleton _ _, fun x hx y hy e => ?_⟩
    rw [List.map_singleton, List.mem_singleton] at hy
    subst hy
    subst e
    exact agt_none.mp a1 hx
  · rw [List.map_append, List.nodup_append]
    refine ⟨f.kb, List.pairwise_singleton _ _, fun x hx y hy e => ?_⟩
    rw [List.map_singleton, List.mem_singleton] at hy
    subst hy
    subst e
    exact agt_none.mp b2 hx
  · rw [agt_snoc a1, agt_snoc b2]
    by_cases e1 : low = t
    · subst e1
      rw [if_pos rfl]
      by_cases e2 : high = h
      · subst e2
        rw [if_pos rfl]
        exact ⟨fun _ => rfl, fun _ => rfl⟩
      · rw [if_neg e2]
        refine ⟨fun z => absurd (Option.some.inj z) e2, fun z => ?_⟩
        rw [← f.ab, a1] at z
        cases z
    · rw [if_neg e1]
      by_cases e2 : high = h
      · subst e2
        rw [if_pos rfl]
        refine ⟨fun z => ?_, fun z => absurd (Option.some.inj z) e1⟩
        rw [f.ab, b2] at z
        cases z
      · rw [if_neg e2]
        exact f.ab t h
  · rw [agt_snoc a1] at e
    by_cases e1 : low = t
    · rw [if_pos e1] at e
      cases e
      subst e1
      exact hf
    · rw [if_neg e1] at e
      exact f.face t h e
  · rw [agt_snoc a1] at hx
    rw [agt_snoc b2]
    by_cases e1 : low = x
    · subst e1
      rw [if_neg (Ne.symm hne)]
      exact a2
    · rw [if_neg e1] at hx
      rw [if_neg fun e2 => by rw [← e2, b1] at hx; cases hx]
      exact f.two x hx
theorem Fd.untie {R : Rows} {a b : Ar} {low high : Int} (f : Fd R a b) (e : agt a low = some high) : Fd R (adrop a low) (adrop b high) := by
  have e' := (f.ab low high).mp e
  refine ⟨adrop_nodup f.ka, adrop_nodup f.kb, fun t h => ?_, fun t h z => ?_, fun x hx => ?_, ?_⟩
  · rw [agt_adrop, agt_adrop]
    by_cases e1 : low = t
    · subst e1
      rw [if_pos rfl]
      by_cases e2 : high = h
      · subst e2
        rw [if_pos rfl]
        exact ⟨fun z => (nomatch z), fun z => (nomatch z)⟩
      · rw [if_neg e2]
        refine ⟨fun z => (nomatch z), fun z => ?_⟩
        rw [← f.ab, e] at z
        exact absurd (Option.some.inj z) e2
    · rw [if_neg e1]
      by_cases e2 : high = h
      · subst e2
        rw [if_pos rfl]
        refine ⟨fun z => ?_, fun z => (nomatch z)⟩
        rw [f.ab, e'] at z
        exact absurd (Option.some.inj z) e1
      · rw [if_neg e2]
        exact f.ab t h
  · rw [agt_adrop] at z
    by_cases e1 : low = t
    · rw [if_pos e1] at z
      cases z
    · rw [if_neg e1] at z
      exact f.face t h z
  · rw [agt_adrop] at hx ⊢
    by_cases e1 : low = x
    · rw [if_pos e1] at hx
      cases hx
    · rw [if_neg e1] at hx
      rw [f.two x hx]
      by_cases e2 : high = x
      · rw [if_pos e2]
      · rw [if_neg e2]
  · obtain ⟨rk, hr⟩ := f.acy
    refine ⟨rk, fun t x hx => hr t x ?_⟩
    obtain ⟨h, z, h1, h2, h3⟩ := steps_mem.mp hx
    rw [agt_adrop] at z h3
    by_cases e1 : low = t
    · rw [if_pos e1] at z
      cases z
    · rw [if_neg e1] at z
      by_cases e2 : low = x
      · rw [if_pos e2] at h3
        cases h3
      · rw [if_neg e2] at h3
        exact steps_mem.mpr ⟨h, z, h1, h2, h3⟩
end SB

namespace SB
open PySem PySem.Spec PyProof.Rows L2 Res
/-! ## sums carried cell by cell -/
def linF (f : Int → List Int) (row : List Int) : List Int := row.foldl (fun s c => joinF s (f c)) []
section
variable {f g : Int → List Int}
theorem lfold_sm (hf : ∀ c, Sm (f c)) : ∀ (e s : List Int), Sm s → Sm (e.foldl (fun s c => joinF s (f c)) s)
  | [], _, hs => hs
  | x :: e, s, hs => lfold_sm hf e _ (sm_join hs (hf x))
theorem lin_sm (hf : ∀ c, Sm (f c)) (e : List Int) : Sm (linF f e) := lfold_sm hf e [] .nil
theorem lfold_mem {x : Int} : ∀ (e s : List Int), x ∈ e.foldl (fun s c => joinF s (f c)) s → x ∈ s ∨ ∃ c ∈ e, x ∈ f c
  | [], _, h => .inl h
  | c :: e, s, h => by
    rcases lfold_mem e _ h with h1 | ⟨d, hd, h1⟩
    · rcases mem_join.mp h1 with h2 | h2
      · exact .inl h2.1
      · exact .inr ⟨c, List.mem_cons_self, h2.1⟩
    · exact .inr ⟨d, List.mem_cons_of_mem _ hd, h1⟩
theorem lin_mem {x : Int} {e : List Int} (h : x ∈ linF f e) : ∃ c ∈ e, x ∈ f c := by
  rcases lfold_mem e [] h with h1 | h1
  · cases h1
  · exact h1
theorem lfold_start (hf : ∀ c, Sm (f c)) : ∀ (e s : List Int), Sm s → e.foldl (fun s c => joinF s (f c)) s = joinF s (linF f e)
  | [], s, hs => (join_nil s hs).symm
  | c :: e, s, hs => by
    have hc := hf c
    unfold linF
    rw [List.foldl_cons, List.foldl_cons, lfold_start hf e _ (sm_join hs hc), nil_join _ hc, lfold_start hf e _ hc, join_assoc _ _ _ hs hc (lin_sm hf e)]
theorem lin_cons (hf : ∀ c, Sm (f c)) (c : Int) (e : List Int) : linF f (c :: e) = joinF (f c) (linF f e) := by
  have := lfold_start hf e (joinF [] (f c)) (sm_join .nil (hf c))
  unfold linF at this ⊢
  rw [List.foldl_cons, this, nil_join _ (hf c)]
theorem lin_append (hf : ∀ c, Sm (f c)) : ∀ (a b : List Int), linF f (a ++ b) = joinF (linF f a) (linF f b)
  | [], b => (nil_join _ (lin_sm hf b)).symm
  | c :: a, b => by
    rw [List.cons_append, lin_cons hf, lin_append hf a b, lin_cons hf, join_assoc _ _ _ (hf c) (lin_sm hf a) (lin_sm hf b)]
theorem lin_perm (hf : ∀ c, Sm (f c)) {a b : List Int} (h : a.Perm b) : linF f a = linF f b := by
  induction h with
  | nil => rfl
  | cons x _ ih => rw [lin_cons hf, lin_cons hf, ih]
  | swap x y l =>
    have hx := hf x
    have hy := hf y
    have hl := lin_sm hf l
    rw [lin_cons hf, lin_cons hf, lin_cons hf, lin_cons hf, ← join_assoc _ _ _ hy hx hl, join_comm _ _ hy hx, join_assoc _ _ _ hx hy hl]
  | trans _ _ ih1 ih2 => exact ih1.trans ih2
theorem lin_join (hf : ∀ c, Sm (f c)) {a b : List Int} (ha : Sm a) (hb : Sm b) : linF f (joinF a b) = joinF (linF f a) (linF f b) := by
  have hp : ∀ l : List Int, ∀ q : Int → Bool, linF f l = joinF (linF f (l.filter q)) (linF f (l.filter fun x => !q x)) := fun l q => by
    rw [← lin_append hf]
    exact lin_perm hf (List.filter_append_perm q l).symm
  have ea := hp a (fun x => !decide (x ∈ b))
  have eb := hp b (fun x => !decide (x ∈ a))
  have hc : linF f (a.filter fun x => !!decide (x ∈ b)) = linF f (b.filter fun x => !!decide (x ∈ a)) := by
    refine lin_perm hf (perm_of (ha.nodup.filter _) (hb.nodup.filter _) fun x => ?_)
    rw [List.mem_filter, List.mem_filter]
    simp
    exact And.comm
  have e1 : linF f (joinF a b) = joinF (linF f (a.filter fun x => !decide (x ∈ b))) (linF f (b.filter fun x => !decide (x ∈ a))) := (lin_perm hf (sortI_perm _)).trans (lin_append hf _ _)
  have h1 := lin_sm hf (a.filter fun x => !decide (x ∈ b))
  have h2 := lin_sm hf (b.filter fun x => !decide (x ∈ a))
  have h3 := lin_sm hf (b.filter fun x => !!decide (x ∈ a))
  rw [e1, ea, eb, hc, join_comm _ _ h2 h3, join_assoc _ _ _ h1 h3 (sm_join h3 h2), join_cancel _ _ h3 h2]
theorem lin_one (hf : ∀ c, Sm (f c)) (c : Int) : linF f [c] = f c := nil_join _ (hf c)
theorem lin_lin (hf : ∀ c, Sm (f c)) (hg : ∀ c, Sm (g c)) : ∀ row : List Int, linF f (linF g row) = linF (fun c => linF f (g c)) row
  | [] => rfl
  | c :: row => by
    rw [lin_cons hg, lin_join hf (hg c) (lin_sm hg row), lin_lin hf hg row, lin_cons fun c => lin_sm hf (g c)]
theorem lfold_congr : ∀ (row s : List Int), (∀ x ∈ row, f x = g x) → row.foldl (fun s c => joinF s (f c)) s = row.foldl (fun s c => joinF s (g c)) s
  | [], _, _ => rfl
  | c :: row, s, h => by
    rw [List.foldl_cons, List.foldl_cons, h c List.mem_cons_self, lfold_congr row _ fun x hx => h x (List.mem_cons_of_mem _ hx)]
theorem lin_congr {row : List Int} (h : ∀ x ∈ row, f x = g x) : linF f row = linF g row := lfold_congr row [] h
theorem lin_zero {row : List Int} (h : ∀ x ∈ row, f x = []) : linF f row = [] := by
  rw [lin_congr (g := fun _ => []) h]
  induction row with
  | nil => rfl
  | cons c row ih =>
    rw [lin_cons fun _ => .nil, ih fun x hx => h x (List.mem_cons_of_mem _ hx)]
    rfl
theorem lin_ones : ∀ {row : List Int}, Sm row → linF (fun x => [x]) row = row
  | [], _ => rfl
  | c :: row, hs => by
    have h1 : ∀ c : Int, Sm [c] := fun c => List.pairwise_singleton _ _
    have hp := List.pairwise_cons.mp hs
    rw [lin_cons h1, lin_ones hp.2]
    refine (sm_join (h1 c) hp.2).ext hs fun x => ?_
    rw [mem_join, List.mem_singleton, List.mem_cons]
    constructor
    · rintro (h | h)
      · exact .inl h.1
      · exact .inr h.1
    · rintro (rfl | h)
      · exact .inl ⟨rfl, fun z => by have := hp.1 x z; omega⟩
      · exact .inr ⟨h, fun z => by have := hp.1 x h; omega⟩
theorem lin_id {row : List Int} (hs : Sm row) (h : ∀ x ∈ row, f x = [x]) : linF f row = row := by
  rw [lin_congr (g := fun x => [x]) h, lin_ones hs]
theorem join_swap {a b c d : List Int} (ha : Sm a) (hb : Sm b) (hc : Sm c) (hd : Sm d) : joinF (joinF a b) (joinF c d) = joinF (joinF a c) (joinF b d) := by
  rw [join_assoc _ _ _ ha hb (sm_join hc hd), join_assoc _ _ _ ha hc (sm_join hb hd), ← join_assoc _ _ _ hb hc hd, join_comm _ _ hb hc, join_assoc _ _ _ hc hb hd]
theorem lin_add (hf : ∀ c, Sm (f c)) (hg : ∀ c, Sm (g c)) : ∀ row : List Int, linF (fun c => joinF (f c) (g c)) row = joinF (linF f row) (linF g row)
  | [] => rfl
  | c :: row => by
    rw [lin_cons fun c => sm_join (hf c) (hg c), lin_cons hf, lin_cons hg, lin_add hf hg row, join_swap (hf c) (hg c) (lin_sm hf row) (lin_sm hg row)]
theorem lin_filter (hf : ∀ c, Sm (f c)) (p : Int → Bool) : ∀ {row : List Int}, (∀ x ∈ row, p x = false → f x = []) → linF f (row.filter p) = linF f row
  | [], _ => rfl
  | c :: row, h => by
    rw [List.filter_cons]
    have ih := lin_filter hf p fun x hx => h x (List.mem_cons_of_mem _ hx)
    cases e : p c with
    | true => rw [if_pos rfl, lin_cons hf, lin_cons hf, ih]
    | false => rw [if_neg (by decide), lin_cons hf, ih, h c List.mem_cons_self e, nil_join _ (lin_sm hf row)]
end
theorem edge_lin (R : Rows) (row : List Int) : edgeF R row = linF (edgeAt R) row := rfl
/-! ## an order of the tails -/
def preds (R : Rows) (a : Ar) (x : Int) : List Int := (a.map (·.1)).filter fun t => decide (x ∈ stepsF R a t)
def cnt (R : Rows) (a : Ar) (done : List Int) (x : Int) : Nat := ((preds R a x).filter fun t => !decide (t ∈ done)).length
theorem preds_mem {R : Rows} {a : Ar} {x t : Int} : t ∈ preds R a x ↔ x ∈ stepsF R a t := by
  unfold preds
  rw [List.mem_filter]
  refine ⟨fun h => of_decide_eq_true h.2, fun h => ⟨?_, decide_eq_true h⟩⟩
  obtain ⟨y, e, _⟩ := steps_mem.mp h
  exact agt_some_key e
theorem cnt_zero {R : Rows} {a : Ar} {done : List Int} {x : Int} : cnt R a done x = 0 ↔ ∀ t, x ∈ stepsF R a t → t ∈ done := by
  unfold cnt
  rw [List.length_eq_zero_iff, List.filter_eq_nil_iff]
  refine ⟨fun h t ht => ?_, fun h t ht => ?_⟩
  · have := h t (preds_mem.mpr ht)
    by_cases e : t ∈ done
    · exact e
    · rw [decide_eq_false e] at this
      exact absurd rfl this
  · rw [decide_eq_true (h t (preds_mem.mp ht))]
    decide
theorem ite_iff {α : Type} {p q : Prop} [Decidable p] [Decidable q] {x y : α} (h : p ↔ q) : (if p then x else y) = if q then x else y := by
  by_cases c : p
  · rw [if_pos c, if_pos (h.mp c)]
  · rw [if_neg c, if_neg fun z => c (h.mpr z)]
theorem filter_one {done : List Int} {t : Int} (ht : t ∉ done) : ∀ {l : List Int}, l.Nodup → (l.filter fun u => !decide (u ∈ done ++ [t])).length + (if t ∈ l then 1 else 0) = (l.filter fun u => !decide (u ∈ done)).length
  | [], _ => rfl
  | u :: l, h => by
    rw [List.nodup_cons] at h
    have ih := filter_one ht h.2
    rw [List.filter_cons, List.filter_cons]
    by_cases e : u = t
    · subst e
      rw [if_neg h.1] at ih
      rw [if_neg (by rw [decide_eq_true (List.mem_append_right _ (List.mem_singleton.mpr rfl))]; decide), if_pos (c := u ∈ u :: l) List.mem_cons_self, if_pos (by rw [decide_eq_false ht]; rfl), List.length_cons]
      omega
    · have e1 : (u ∈ done ++ [t]) ↔ u ∈ done := by
        rw [List.mem_append, List.mem_singleton]
        exact ⟨fun z => z.elim id fun z => absurd z e, .inl⟩
      have e2 : (t ∈ u :: l) ↔ t ∈ l := by
        rw [List.mem_cons]
        exact ⟨fun z => z.elim (fun z => absurd z.symm e) id, .inr⟩
      rw [show (if t ∈ u :: l then 1 else 0) = (if t ∈ l then 1 else 0) from ite_iff e2, show decide (u ∈ done ++ [t]) = decide (u ∈ done) from decide_eq_decide.mpr e1]
      cases decide (u ∈ done) with
      | true => exact ih
      | false =>
        show (u :: _).length + _ = (u :: _).length
        rw [List.length_cons, List.length_cons]
        omega
theorem cnt_snoc {R : Rows} {a : Ar} {done : List Int} {x t : Int} (ka : (a.map (·.1)).Nodup) (ht : t ∉ done) : cnt R a (done ++ [t]) x + (if x ∈ stepsF R a t then 1 else 0) = cnt R a done x := by
  have := filter_one ht (l := preds R a x) (ka.filter _)
  rw [show (if t ∈ preds R a x then 1 else 0) = (if x ∈ stepsF R a t then 1 else 0) from ite_iff preds_mem] at this
  exact this
structure Khn (R : Rows) (a : Ar) (done rest : List Int) : Prop where
  nd : (done ++ rest).Nodup
  tl : ∀ x ∈ done ++ rest, (agt a x).isSome = true
  zero : ∀ x, (agt a x).isSome = true → (x ∈ done ++ rest ↔ cnt R a done x = 0)
  ord : (done ++ rest).Pairwise (fun u v => u ∉ stepsF R a v)
def newF (R : Rows) (a : Ar) (done : List Int) (t : Int) : List Int := (stepsF R a t).filter fun x => decide (cnt R a (done ++ [t]) x = 0)
theorem Khn.turn {R : Rows} {a : Ar} {done rest : List Int} {t : Int} (hw : Wf R) (ka : (a.map (·.1)).Nodup) (k : Khn R a done (t :: rest)) : Khn R a (done ++ [t]) (rest ++ newF R a done t) := by
  have hnd := k.nd
  have htd : t ∉ done := fun z => (List.nodup_append.mp hnd).2.2 t z t List.mem_cons_self rfl
  have e : done ++ [t] ++ (rest ++ newF R a done t) = (done ++ t :: rest) ++ newF R a done t := by simp
  have hnew : ∀ x ∈ newF R a done t, x ∈ stepsF R a t ∧ cnt R a (done ++ [t]) x = 0 := fun x hx => ⟨(List.mem_filter.mp hx).1, of_decide_eq_true (List.mem_filter.mp hx).2⟩
  have htl : ∀ x ∈ newF R a done t, (agt a x).isSome = true := fun x hx => by
    obtain ⟨_, _, _, _, h⟩ := steps_mem.mp (hnew x hx).1
    exact h
  have hnot : ∀ x ∈ newF R a done t, x ∉ done ++ t :: rest := fun x hx z => by
    have h1 := (k.zero x (htl x hx)).mp z
    exact htd (cnt_zero.mp h1 t (hnew x hx).1)
  refine ⟨?_, fun x hx => ?_, fun x hx => ?_, ?_⟩
  · rw [e, List.nodup_append]
    refine ⟨hnd, ((steps_sm hw a t).nodup.filter _), fun x hx y hy z => ?_⟩
    subst z
    exact hnot x hy hx
  · rw [e] at hx
    rcases List.mem_append.mp hx with h | h
    · exact k.tl x h
    · exact htl x h
  · rw [e]
    have hs := cnt_snoc (R := R) (x := x) ka htd
    constructor
    · intro z
      rcases List.mem_append.mp z with h | h
      · have := (k.zero x hx).mp h
        omega
      · exact (hnew x h).2
    · intro z
      by_cases c : x ∈ stepsF R a t
      · exact List.mem_append_right _ (List.mem_filter.mpr ⟨c, decide_eq_true z⟩)
      · rw [if_neg c] at hs
        exact List.mem_append_left _ ((k.zero x hx).mpr (by omega))
  · rw [e, List.pairwise_append]
    refine ⟨k.ord, ?_, fun u hu v hv z => ?_⟩
    · refine List.Pairwise.imp_of_mem (R := fun _ _ => True) (fun {u v} hu hv _ z => ?_) (List.pairwise_of_forall fun _ _ => trivial)
      have h1 := cnt_zero.mp (hnew u hu).2 v z
      refine hnot v hv ?_
      rcases List.mem_append.mp h1 with h | h
      · exact List.mem_append_left _ h
      · rw [List.mem_singleton.mp h]
        exact List.mem_append_right _ List.mem_cons_self
    · have h1 := cnt_zero.mp ((k.zero u (k.tl u hu)).mp hu) v z
      exact hnot v hv (List.mem_append_left _ h1)
structure IsOrd (R : Rows) (a : Ar) (l : List Int) : Prop where
  perm : l.Perm (a.map (·.1))
  later : ∀ p x q, l = p ++ x :: q → ∀ y ∈ stepsF R a x, y ∈ q
theorem Khn.all {R : Rows} {a : Ar} {done : List Int} (hr : ∃ rk, Rk R a rk) (k : Khn R a done []) : ∀ x, (agt a x).isSome = true → x ∈ done := by
  obtain ⟨rk, hr, hb⟩ := rk_norm hr
  have : ∀ n x, a.length - rk x ≤ n → (agt a x).isSome = true → x ∈ done := by
    intro n
    induction n with
    | zero =>
      intro x hn hx
      have hz := k.zero x hx
      rw [List.append_nil] at hz
      refine hz.mpr (cnt_zero.mpr fun t ht => ?_)
      have := hr t x ht
      have := hb t
      omega
    | succ n ih =>
      intro x hn hx
      have hz := k.zero x hx
      rw [List.append_nil] at hz
      refine hz.mpr (cnt_zero.mpr fun t ht => ih t ?_ ?_)
      · have := hr t x ht
        omega
      · obtain ⟨y, e, _⟩ := steps_mem.mp ht
        rw [e]
        rfl
  exact fun x hx => this _ x (Nat.le_refl _) hx
theorem Khn.is {R : Rows} {a : Ar} {done : List Int} (ka : (a.map (·.1)).Nodup) (hr : ∃ rk, Rk R a rk) (k : Khn R a done []) : IsOrd R a done := by
  have hall := k.all hr
  have hnd := k.nd
  have htl := k.tl
  have hord := k.ord
  rw [List.append_nil] at hnd htl hord
  refine ⟨perm_of hnd ka fun x => ⟨fun h => agt_some.mp (htl x h), fun h => hall x (agt_some.mpr h)⟩, fun p x q e y hy => ?_⟩
  obtain ⟨_, _, _, hne, hyt⟩ := steps_mem.mp hy
  have hm := hall y hyt
  rw [e] at hm hord
  rcases List.mem_append.mp hm with h | h
  · exact absurd hy ((List.pairwise_append.mp hord).2.2 y h x List.mem_cons_self)
  · cases h with
    | head => exact absurd rfl hne
    | tail _ h => exact h
theorem Khn.start {R : Rows} {a : Ar} (ka : (a.map (·.1)).Nodup) : Khn R a [] ((sortI (a.map (·.1))).filter fun x => decide (cnt R a [] x = 0)) := by
  refine ⟨?_, fun x hx => ?_, fun x hx => ?_, ?_⟩
  · exact ((sm_sort ka).nodup.filter _)
  · exact agt_some.mpr (mem_sort.mp (List.mem_filter.mp hx).1)
  · rw [List.nil_append, List.mem_filter]
    exact ⟨fun z => of_decide_eq_true z.2, fun z => ⟨mem_sort.mpr (agt_some.mp hx), decide_eq_true z⟩⟩
  · rw [List.nil_append]
    refine List.Pairwise.imp_of_mem (R := fun _ _ => True) (fun {u v} hu hv _ z => ?_) (List.pairwise_of_forall fun _ _ => trivial)
    cases cnt_zero.mp (of_decide_eq_true (List.mem_filter.mp hu).2) v z
/-! ## the fillers -/
def filF (R : Rows) (a : Ar) (F : Int → List Int) (t h : Int) : List Int := (stepsF R a t).foldl (fun s x => joinF s (F x)) [h]
structure Fil (R : Rows) (a b : Ar) (F : Int → List Int) : Prop where
  eq : ∀ t h, agt a t = some h → F t = filF R a F t h
  non : ∀ x, agt a x = none → F x = []
  sm : ∀ x, Sm (F x)
  hd : ∀ x, ∀ y ∈ F x, (agt b y).isSome = true
theorem sm_one (c : Int) : Sm [c] := List.pairwise_singleton _ _
theorem Fil.eq' {R : Rows} {a b : Ar} {F : Int → List Int} (f : Fil R a b F) {t h : Int} (e : agt a t = some h) : F t = joinF [h] (linF F (stepsF R a t)) := by
  rw [f.eq t h e]
  exact lfold_start f.sm _ _ (sm_one h)
/-- the border of a head is filled with it -/
theorem Fil.edge {R : Rows} {a b : Ar} {F : Int → List Int} (f : Fil R a b F) (d : Fd R a b) (hw : Wf R) {t h : Int} (e : agt a t = some h) : linF F (edgeAt R h) = [h] := by
  have hs := edgeAt_sm hw h
  have ht := d.face t h e
  have hp : (edgeAt R h).Perm (t :: (edgeAt R h).filter fun x => !decide (x = t)) := by
    refine perm_of hs.nodup ?_ fun x => ?_
    · rw [List.nodup_cons]
      refine ⟨fun z => ?_, hs.nodup.filter _⟩
      have := (List.mem_filter.mp z).2
      rw [decide_eq_true rfl] at this
      cases this
    · rw [List.mem_cons, List.mem_filter]
      by_cases c : x = t
      · subst c
        exact ⟨fun _ => .inl rfl, fun _ => ht⟩
      · rw [decide_eq_false c]
        exact ⟨fun z => .inr ⟨z, rfl⟩, fun z => z.elim (fun z => absurd z c) fun z => z.1⟩
  have e1 : linF F (stepsF R a t) = linF F ((edgeAt R h).filter fun x => !decide (x = t)) := by
    have e2 : stepsF R a t = ((edgeAt R h).filter fun x => !decide (x = t)).filter fun x => (agt a x).isSome := by
      rw [steps_at e, List.filter_filter]
      exact List.filter_congr fun x _ => Bool.and_comm _ _
    rw [e2]
    refine lin_filter f.sm _ fun x _ hx => f.non x ?_
    cases c : agt a x with
    | none => rfl
    | some y =>
      rw [c] at hx
      cases hx
  have hl := lin_sm f.sm (stepsF R a t)
  rw [lin_perm f.sm hp, lin_cons f.sm, ← e1, f.eq' e, join_assoc _ _ _ (sm_one h) hl hl, join_self, join_nil _ (sm_one h)]
theorem Fil.heads {R : Rows} {a b : Ar} {F : Int → List Int} (f : Fil R a b F) (d : Fd R a b) {row : List Int} (h : ∀ x ∈ row, (agt b x).isSome = true) : linF F row = [] := lin_zero fun x hx => f.non x (by
  cases e : agt a x with
  | none => rfl
  | some y =>
    have h1 := d.two x (by rw [e]; rfl)
    have h2 := h x hx
    rw [h1] at h2
    cases h2)
theorem Fil.edges {R : Rows} {a b : Ar} {F : Int → List Int} (f : Fil R a b F) (d : Fd R a b) (hw : Wf R) {row : List Int} (hs : Sm row) (h : ∀ x ∈ row, (agt b x).isSome = true) : linF F (edgeF R row) = row := by
  rw [edge_lin, lin_lin f.sm (fun c => edgeAt_sm hw c)]
  refine lin_id hs fun x hx => ?_
  obtain ⟨t, e⟩ := Option.isSome_iff_exists.mp (h x hx)
  exact f.edge d hw ((d.ab t x).mpr e)
end SB

namespace SB
open PySem PySem.Spec PyProof.Rows L2 Res
def loneF (a b : Ar) (row : List Int) : List Int := row.filter fun x => !((agt a x).isSome || (agt b x).isSome)
theorem lone_mem {a b : Ar} {row : List Int} {x : Int} : x ∈ loneF a b row ↔ x ∈ row ∧ agt a x = none ∧ agt b x = none := by
  unfold loneF
  rw [List.mem_filter]
  cases agt a x with
  | some y => exact ⟨fun h => (nomatch h.2), fun h => (nomatch h.2.1)⟩
  | none =>
    cases agt b x with
    | some y => exact ⟨fun h => (nomatch h.2), fun h => (nomatch h.2.2)⟩
    | none => exact ⟨fun h => ⟨h.1, rfl, rfl⟩, fun h => ⟨h.1, rfl⟩⟩
theorem lone_sm {a b : Ar} {row : List Int} (h : Sm row) : Sm (loneF a b row) := List.Pairwise.filter _ h
theorem lone_join {a b : Ar} {x y : List Int} (hx : Sm x) (hy : Sm y) : loneF a b (joinF x y) = joinF (loneF a b x) (loneF a b y) := by
  refine (lone_sm (sm_join hx hy)).ext (sm_join (lone_sm hx) (lone_sm hy)) fun z => ?_
  rw [lone_mem, mem_join, mem_join, lone_mem, lone_mem]
  constructor
  · rintro ⟨h1 | h1, h2⟩
    · exact .inl ⟨⟨h1.1, h2⟩, fun w => h1.2 w.1⟩
    · exact .inr ⟨⟨h1.1, h2⟩, fun w => h1.2 w.1⟩
  · rintro (h | h)
    · exact ⟨.inl ⟨h.1.1, fun w => h.2 ⟨w, h.1.2⟩⟩, h.1.2⟩
    · exact ⟨.inr ⟨h.1.1, fun w => h.2 ⟨w, h.1.2⟩⟩, h.1.2⟩
theorem lone_nil {a b : Ar} {row : List Int} (h : ∀ x ∈ row, (agt a x).isSome = true ∨ (agt b x).isSome = true) : loneF a b row = [] := List.filter_eq_nil_iff.mpr fun x hx z => by
  have := lone_mem.mp (List.mem_filter.mpr ⟨hx, z⟩)
  rcases h x hx with h | h
  · rw [this.2.1] at h
    cases h
  · rw [this.2.2] at h
    cases h
theorem lone_self {a b : Ar} {row : List Int} (h : ∀ x ∈ row, agt a x = none ∧ agt b x = none) : loneF a b row = row := List.filter_eq_self.mpr fun x hx => by rw [(h x hx).1, (h x hx).2]; rfl
def upF (R : Rows) (F : Int → List Int) (row : List Int) : List Int := joinF row (linF F (edgeF R row))
def downF (R : Rows) (a b : Ar) (F : Int → List Int) (row : List Int) : List Int := loneF a b (joinF row (edgeF R (linF F row)))
def slimF (R : Rows) (a b : Ar) (F : Int → List Int) (row : List Int) : List Int := loneF a b (edgeF R (upF R F row))
def phiF (R : Rows) (F : Int → List Int) (row : List Int) : List Int := joinF (joinF row (edgeF R (linF F row))) (linF F (edgeF R row))
theorem edge_dd {R : Rows} (hw : Wf R) (row : List Int) : edgeF R (edgeF R row) = [] := by
  rw [edge_lin, edge_lin, lin_lin (fun c => edgeAt_sm hw c) (fun c => edgeAt_sm hw c)]
  refine lin_zero fun c _ => ?_
  rw [← edge_lin]
  unfold edgeAt
  cases e : rowAt R c with
  | none => rfl
  | some x => exact (hw c x.1 x.2 e).round
section
variable {R : Rows} {a b : Ar} {F : Int → List Int}
theorem Fil.mem_head (f : Fil R a b F) {row : List Int} : ∀ y ∈ linF F row, (agt b y).isSome = true := fun y hy => by
  obtain ⟨c, _, h⟩ := lin_mem hy
  exact f.hd c y h
theorem Fil.ff (f : Fil R a b F) (d : Fd R a b) (row : List Int) : linF F (linF F row) = [] := f.heads d f.mem_head
theorem Fil.fdf (f : Fil R a b F) (d : Fd R a b) (hw : Wf R) (row : List Int) : linF F (edgeF R (linF F row)) = linF F row := f.edges d hw (lin_sm f.sm row) f.mem_head
theorem Fil.fsm (f : Fil R a b F) (row : List Int) : Sm (linF F row) := lin_sm f.sm row
theorem phi_sm (f : Fil R a b F) (hw : Wf R) {row : List Int} (h : Sm row) : Sm (phiF R F row) := sm_join (sm_join h (edgeF_sm hw _)) (f.fsm _)
theorem up_sm (f : Fil R a b F) {row : List Int} (h : Sm row) : Sm (upF R F row) := sm_join h (f.fsm _)
theorem f_phi (f : Fil R a b F) (d : Fd R a b) (hw : Wf R) {row : List Int} (h : Sm row) : linF F (phiF R F row) = [] := by
  unfold phiF
  rw [lin_join f.sm (sm_join h (edgeF_sm hw _)) (f.fsm _), lin_join f.sm h (edgeF_sm hw _), f.ff d, f.fdf d hw, join_self]
  rfl
theorem phi_f (f : Fil R a b F) (d : Fd R a b) (hw : Wf R) (row : List Int) : phiF R F (linF F row) = [] := by
  unfold phiF
  rw [f.ff d, f.fdf d hw]
  show joinF (joinF _ []) _ = []
  rw [join_nil _ (f.fsm row), join_self]
theorem phi_d (f : Fil R a b F) (hw : Wf R) {row : List Int} (h : Sm row) : edgeF R (phiF R F row) = phiF R F (edgeF R row) := by
  unfold phiF
  have hd := edgeF_sm hw
  rw [edgeF_join hw (sm_join h (hd _)) (f.fsm _), edgeF_join hw h (hd _), edge_dd hw, edge_dd hw]
  show _ = joinF _ []
  rw [join_nil _ (hd _), join_nil _ (sm_join (hd _) (hd _))]
theorem f_lone (f : Fil R a b F) {row : List Int} (h : ∀ x ∈ row, agt a x = none) : linF F row = [] := lin_zero fun x hx => f.non x (h x hx)
theorem up_phi (f : Fil R a b F) {row : List Int} (hs : Sm row) (h : ∀ x ∈ row, agt a x = none) : upF R F row = phiF R F row := by
  unfold upF phiF
  rw [f_lone f h]
  show _ = joinF (joinF row []) _
  rw [join_nil _ hs]
theorem lone_f (f : Fil R a b F) (row : List Int) : loneF a b (linF F row) = [] := lone_nil fun x hx => .inr (f.mem_head x hx)
theorem down_phi (f : Fil R a b F) (hw : Wf R) {row : List Int} (hs : Sm row) : downF R a b F row = loneF a b (phiF R F row) := by
  unfold downF phiF
  rw [lone_join (sm_join hs (edgeF_sm hw _)) (f.fsm _), lone_f f, join_nil _ (lone_sm (sm_join hs (edgeF_sm hw _)))]
/-- a filler's heads: its own, and those of lower tails -/
theorem Fil.reach (f : Fil R a b F) {rk : Int → Nat} (hr : Rk R a rk) : ∀ (n : Nat) (t y : Int), rk t ≤ n → y ∈ F t → ∃ v, agt a v = some y ∧ (v = t ∨ rk v < rk t) := by
  intro n
  induction n with
  | zero =>
    intro t y hn hy
    cases e : agt a t with
    | none =>
      rw [f.non t e] at hy
      cases hy
    | some h =>
      rw [f.eq' e] at hy
      rcases mem_join.mp hy with h1 | h1
      · exact ⟨t, by rw [List.mem_singleton.mp h1.1]; exact e, .inl rfl⟩
      · obtain ⟨c, hc, _⟩ := lin_mem h1.1
        have := hr t c hc
        omega
  | succ n ih =>
    intro t y hn hy
    cases e : agt a t with
    | none =>
      rw [f.non t e] at hy
      cases hy
    | some h =>
      rw [f.eq' e] at hy
      rcases mem_join.mp hy with h1 | h1
      · exact ⟨t, by rw [List.mem_singleton.mp h1.1]; exact e, .inl rfl⟩
      · obtain ⟨c, hc, h2⟩ := lin_mem h1.1
        have hlt := hr t c hc
        obtain ⟨v, hv, hv2⟩ := ih c y (by omega) h2
        refine ⟨v, hv, .inr ?_⟩
        rcases hv2 with rfl | hv2
        · exact hlt
        · omega
theorem Fil.own (f : Fil R a b F) (d : Fd R a b) {t h : Int} (e : agt a t = some h) : h ∈ F t := by
  obtain ⟨rk, hr⟩ := d.acy
  rw [f.eq' e, mem_join]
  refine .inl ⟨List.mem_singleton.mpr rfl, fun z => ?_⟩
  obtain ⟨c, hc, h2⟩ := lin_mem z
  have hlt := hr t c hc
  obtain ⟨v, hv, hv2⟩ := f.reach hr _ c h (Nat.le_refl _) h2
  have : v = t := by
    have e1 := (d.ab v h).mp hv
    have e2 := (d.ab t h).mp e
    rw [e1] at e2
    exact Option.some.inj e2
  subst this
  rcases hv2 with rfl | hv2
  · omega
  · omega
theorem max_rk {rk : Int → Nat} : ∀ {l : List Int}, l ≠ [] → ∃ t ∈ l, ∀ x ∈ l, rk x ≤ rk t
  | [], h => absurd rfl h
  | [x], _ => ⟨x, List.mem_cons_self, fun y hy => by rw [List.mem_singleton.mp hy]; exact Nat.le_refl _⟩
  | x :: y :: l, _ => by
    obtain ⟨t, ht, hm⟩ := max_rk (rk := rk) (l := y :: l) (by simp)
    by_cases c : rk x ≤ rk t
    · exact ⟨t, List.mem_cons_of_mem _ ht, fun z hz => by
        cases hz with
        | head => exact c
        | tail _ hz => exact hm z hz⟩
    · exact ⟨x, List.mem_cons_self, fun z hz => by
        cases hz with
        | head => exact Nat.le_refl _
        | tail _ hz =>
          have := hm z hz
          omega⟩
/-- what is filled with nothing has no tail -/
theorem no_tail (f : Fil R a b F) (d : Fd R a b) {row : List Int} (hs : Sm row) (h : linF F row = []) : ∀ x ∈ row, agt a x = none := by
  have hT : linF F (row.filter fun x => (agt a x).isSome) = [] := by
    rw [lin_filter f.sm _ fun x _ hx => f.non x (by
      cases c : agt a x with
      | none => rfl
      | some y =>
        rw [c] at hx
        cases hx), h]
  by_cases hne : (row.filter fun x => (agt a x).isSome) = []
  · intro x hx
    cases c : agt a x with
    | none => rfl
    | some y =>
      have : x ∈ row.filter fun x => (agt a x).isSome := List.mem_filter.mpr ⟨hx, by rw [c]; rfl⟩
      rw [hne] at this
      cases this
  · exfalso
    obtain ⟨rk, hr⟩ := d.acy
    obtain ⟨t, ht, hm⟩ := max_rk (rk := rk) hne
    obtain ⟨y, ey⟩ := Option.isSome_iff_exists.mp (List.mem_filter.mp ht).2
    have hnd : (row.filter fun x => (agt a x).isSome).Nodup := hs.nodup.filter _
    obtain ⟨p, q, hpq⟩ := List.append_of_mem ht
    have hperm : (row.filter fun x => (agt a x).isSome).Perm (t :: (p ++ q)) := by
      rw [hpq]
      exact List.perm_middle
    rw [lin_perm f.sm hperm, lin_cons f.sm] at hT
    have hy : y ∈ joinF (F t) (linF F (p ++ q)) := mem_join.mpr (.inl ⟨f.own d ey, fun z => by
      obtain ⟨c, hc, h2⟩ := lin_mem z
      have hcm : c ∈ row.filter fun x => (agt a x).isSome := hperm.mem_iff.mpr (List.mem_cons_of_mem _ hc)
      have hle := hm c hcm
      obtain ⟨v, hv, hv2⟩ := f.reach hr _ c y (Nat.le_refl _) h2
      have : v = t := by
        have e1 := (d.ab v y).mp hv
        have e2 := (d.ab t y).mp ey
        rw [e1] at e2
        exact Option.some.inj e2
      subst this
      rcases hv2 with rfl | hv2
      · rw [hperm.nodup_iff, List.nodup_cons] at hnd
        exact hnd.1 hc
      · omega⟩)
    rw [hT] at hy
    cases hy
theorem phi_no_tail (f : Fil R a b F) (d : Fd R a b) (hw : Wf R) {row : List Int} (hs : Sm row) : ∀ x ∈ phiF R F row, agt a x = none := no_tail f d (phi_sm f hw hs) (f_phi f d hw hs)
/-- a sum without tails, its border without tails, is carried up from its lone cells -/
theorem up_of (f : Fil R a b F) (d : Fd R a b) (hw : Wf R) {z : List Int} (hs : Sm z) (h1 : ∀ x ∈ z, agt a x = none) (h2 : ∀ x ∈ edgeF R z, agt a x = none) : upF R F (loneF a b z) = z := by
  have hz : z = joinF (loneF a b z) (z.filter fun x => (agt b x).isSome) := by
    refine hs.ext (sm_join (lone_sm hs) (List.Pairwise.filter _ hs)) fun x => ?_
    rw [mem_join, lone_mem, List.mem_filter]
    constructor
    · intro hx
      cases c : agt b x with
      | none => exact .inl ⟨⟨hx, h1 x hx, rfl⟩, fun w => (nomatch w.2)⟩
      | some y => exact .inr ⟨⟨hx, rfl⟩, fun w => (nomatch w.2.2)⟩
    · rintro (h | h)
      · exact h.1.1
      · exact h.1.1
  have hh : Sm (z.filter fun x => (agt b x).isSome) := List.Pairwise.filter _ hs
  have e1 : linF F (edgeF R z) = [] := f_lone f h2
  have e2 := e1
  rw [hz, edgeF_join hw (lone_sm hs) hh, lin_join f.sm (edgeF_sm hw _) (edgeF_sm hw _), f.edges d hw hh fun x hx => (List.mem_filter.mp hx).2] at e2
  have e3 : linF F (edgeF R (loneF a b z)) = z.filter fun x => (agt b x).isSome := by
    have h3 := congrArg (fun w => joinF w (z.filter fun x => (agt b x).isSome)) e2
    have h4 : joinF (joinF (linF F (edgeF R (loneF a b z))) (z.filter fun x => (agt b x).isSome)) (z.filter fun x => (agt b x).isSome) = joinF [] (z.filter fun x => (agt b x).isSome) := h3
    rw [join_assoc _ _ _ (f.fsm _) hh hh, join_self, join_nil _ (f.fsm _), nil_join _ hh] at h4
    exact h4
  unfold upF
  rw [e3, ← hz]
theorem phi_edge_no_tail (f : Fil R a b F) (d : Fd R a b) (hw : Wf R) {row : List Int} (hs : Sm row) : ∀ x ∈ edgeF R (phiF R F row), agt a x = none := by
  rw [phi_d f hw hs]
  exact phi_no_tail f d hw (edgeF_sm hw row)
theorem up_down (f : Fil R a b F) (d : Fd R a b) (hw : Wf R) {row : List Int} (hs : Sm row) : upF R F (downF R a b F row) = phiF R F row := by
  rw [down_phi f hw hs]
  exact up_of f d hw (phi_sm f hw hs) (phi_no_tail f d hw hs) (phi_edge_no_tail f d hw hs)
theorem lone_up (f : Fil R a b F) {row : List Int} (hs : Sm row) (h : ∀ x ∈ row, agt a x = none ∧ agt b x = none) : loneF a b (upF R F row) = row := by
  unfold upF
  rw [lone_join hs (f.fsm _), lone_f f, join_nil _ (lone_sm hs), lone_self h]
theorem f_up (f : Fil R a b F) (d : Fd R a b) (hw : Wf R) {row : List Int} (hs : Sm row) (h : ∀ x ∈ row, agt a x = none ∧ agt b x = none) : linF F (upF R F row) = [] := by
  rw [up_phi f hs fun x hx => (h x hx).1, f_phi f d hw hs]
theorem down_up (f : Fil R a b F) (d : Fd R a b) (hw : Wf R) {row : List Int} (hs : Sm row) (h : ∀ x ∈ row, agt a x = none ∧ agt b x = none) : downF R a b F (upF R F row) = row := by
  unfold downF
  rw [f_up f d hw hs h]
  show loneF a b (joinF _ []) = _
  rw [join_nil _ (up_sm f hs), lone_up f hs h]
theorem d_up (f : Fil R a b F) (d : Fd R a b) (hw : Wf R) {row : List Int} (hs : Sm row) (h : ∀ x ∈ row, agt a x = none ∧ agt b x = none) : upF R F (slimF R a b F row) = edgeF R (upF R F row) := by
  unfold slimF
  have e := up_phi (R := R) f hs fun x hx => (h x hx).1
  refine up_of f d hw (edgeF_sm hw _) ?_ ?_
  · rw [e]
    exact phi_edge_no_tail f d hw hs
  · rw [edge_dd hw]
    exact fun x hx => (nomatch hx)
theorem slim_slim (f : Fil R a b F) (d : Fd R a b) (hw : Wf R) {row : List Int} (hs : Sm row) (h : ∀ x ∈ row, agt a x = none ∧ agt b x = none) : slimF R a b F (slimF R a b F row) = [] := by
  show loneF a b (edgeF R (upF R F (slimF R a b F row))) = []
  rw [d_up f d hw hs h, edge_dd hw]
  rfl
theorem slim_down (f : Fil R a b F) (d : Fd R a b) (hw : Wf R) {row : List Int} (hs : Sm row) : slimF R a b F (downF R a b F row) = downF R a b F (edgeF R row) := by
  show loneF a b (edgeF R (upF R F (downF R a b F row))) = _
  rw [up_down f d hw hs, phi_d f hw hs, down_phi f hw (edgeF_sm hw row)]
theorem down_f (f : Fil R a b F) (d : Fd R a b) (hw : Wf R) (row : List Int) : downF R a b F (linF F row) = [] := by
  rw [down_phi f hw (f.fsm row), phi_f f d hw]
  rfl
theorem down_lone (f : Fil R a b F) {row : List Int} (hs : Sm row) (h : ∀ x ∈ row, agt a x = none ∧ agt b x = none) : downF R a b F row = row := by
  unfold downF
  rw [f_lone f fun x hx => (h x hx).1]
  show loneF a b (joinF row []) = row
  rw [join_nil _ hs, lone_self h]
theorem down_heads (f : Fil R a b F) (d : Fd R a b) {row : List Int} (hs : Sm row) (h : ∀ x ∈ row, (agt b x).isSome = true) : downF R a b F row = [] := by
  unfold downF
  rw [f.heads d h]
  show loneF a b (joinF row []) = []
  rw [join_nil _ hs]
  exact lone_nil fun x hx => .inr (h x hx)
theorem up_add (f : Fil R a b F) (hw : Wf R) {x y : List Int} (hx : Sm x) (hy : Sm y) : upF R F (joinF x y) = joinF (upF R F x) (upF R F y) := by
  unfold upF
  rw [edgeF_join hw hx hy, lin_join f.sm (edgeF_sm hw _) (edgeF_sm hw _), join_swap hx hy (f.fsm _) (f.fsm _)]
theorem down_add (f : Fil R a b F) (hw : Wf R) {x y : List Int} (hx : Sm x) (hy : Sm y) : downF R a b F (joinF x y) = joinF (downF R a b F x) (downF R a b F y) := by
  unfold downF
  have hd := edgeF_sm hw
  rw [lin_join f.sm hx hy, edgeF_join hw (f.fsm _) (f.fsm _), join_swap hx hy (hd _) (hd _), lone_join (sm_join hx (hd _)) (sm_join hy (hd _))]
theorem slim_add (f : Fil R a b F) (hw : Wf R) {x y : List Int} (hx : Sm x) (hy : Sm y) : slimF R a b F (joinF x y) = joinF (slimF R a b F x) (slimF R a b F y) := by
  unfold slimF
  rw [up_add f hw hx hy, edgeF_join hw (up_sm f hx) (up_sm f hy), lone_join (edgeF_sm hw _) (edgeF_sm hw _)]
end
end SB

namespace SB
open PySem PySem.Spec PyProof.Rows L2 Res
/-! ## roads -/
def sumF (f : Int → Int) (l : List Int) : Int := l.foldl (fun s x => s + f x) 0
theorem sum_snoc {f : Int → Int} {l : List Int} {x : Int} : sumF f (l ++ [x]) = sumF f l + f x := by
  unfold sumF
  rw [List.foldl_append]
  rfl
theorem sum_from {f : Int → Int} : ∀ (l : List Int) (s : Int), l.foldl (fun s x => s + f x) s = s + sumF f l
  | [], s => (Int.add_zero s).symm
  | x :: l, s => by
    unfold sumF
    rw [List.foldl_cons, List.foldl_cons, sum_from l, sum_from l]
    omega
theorem sum_cons {f : Int → Int} {l : List Int} {x : Int} : sumF f (x :: l) = f x + sumF f l := by
  have := sum_from (f := f) l (0 + f x)
  rw [Int.zero_add] at this
  unfold sumF at this ⊢
  rw [List.foldl_cons, Int.zero_add]
  exact this
theorem sum_congr {f g : Int → Int} : ∀ {l : List Int}, (∀ x ∈ l, f x = g x) → sumF f l = sumF g l
  | [], _ => rfl
  | x :: l, h => by rw [sum_cons, sum_cons, h x List.mem_cons_self, sum_congr fun y hy => h y (List.mem_cons_of_mem _ hy)]
def onF (a : Ar) (low : Int) (W : Int → Int) (x : Int) : Int := if x = low then 1 else if (agt a x).isSome = true then W x else 0
def Wy (R : Rows) (a : Ar) (low : Int) (W : Int → Int) : Prop := ∀ t h, agt a t = some h → W t = sumF (onF a low W) ((edgeAt R h).filter fun x => !decide (x = t))
def roadF (R : Rows) (a : Ar) (low : Int) (W : Int → Int) (high : Int) : Int := sumF (onF a low W) (edgeAt R high)
theorem lin_par {g : Int → List Int} (hg : ∀ c, Sm (g c)) {low : Int} {f : Int → Int} : ∀ {l : List Int}, (∀ x ∈ l, low ∈ g x ↔ f x % 2 = 1) → (low ∈ linF g l ↔ sumF f l % 2 = 1)
  | [], _ => ⟨fun h => (nomatch h), fun h => by
      have : (0 : Int) % 2 = 1 := h
      omega⟩
  | x :: l, h => by
    have h1 := h x List.mem_cons_self
    have ih := lin_par hg fun y hy => h y (List.mem_cons_of_mem _ hy)
    rw [lin_cons hg, mem_join, sum_cons, h1, ih]
    omega
section
variable {R : Rows} {a b : Ar} {F : Int → List Int}
theorem road_par (hw : Wf R) (f : Fil R a b F) {low : Int} (hn : agt a low = none) {W : Int → Int} {l : List Int} (hl : Sm l) (hA : ∀ x ∈ l, (agt a x).isSome = true → (low ∈ edgeF R (F x) ↔ W x % 2 = 1)) : low ∈ joinF l (linF (fun c => edgeF R (F c)) l) ↔ sumF (onF a low W) l % 2 = 1 := by
  have e1 : joinF l (linF (fun c => edgeF R (F c)) l) = linF (fun c => joinF [c] (edgeF R (F c))) l := by
    rw [lin_add (f := fun c => [c]) (g := fun c => edgeF R (F c)) sm_one (fun c => edgeF_sm hw _), lin_ones hl]
  rw [e1]
  refine lin_par (fun c => sm_join (sm_one c) (edgeF_sm hw _)) fun x hx => ?_
  unfold onF
  rw [mem_join, List.mem_singleton]
  by_cases c : x = low
  · subst c
    rw [if_pos rfl, f.non x hn]
    exact ⟨fun _ => rfl, fun _ => .inl ⟨rfl, fun z => (nomatch z)⟩⟩
  · rw [if_neg c]
    have c' : ¬ low = x := fun z => c z.symm
    cases e : agt a x with
    | none =>
      rw [f.non x e]
      refine ⟨fun z => ?_, fun z => ?_⟩
      · rcases z with z | z
        · exact absurd z.1 c'
        · cases z.1
      · have : (0 : Int) % 2 = 1 := z
        omega
    | some y =>
      have hx' := hA x hx (by rw [e]; rfl)
      show _ ↔ W x % 2 = 1
      rw [← hx']
      exact ⟨fun z => z.elim (fun z => absurd z.1 c') fun z => z.1, fun z => .inr ⟨z, c'⟩⟩
theorem way_par (hw : Wf R) (f : Fil R a b F) (d : Fd R a b) {low : Int} (hn : agt a low = none) {W : Int → Int} (hW : Wy R a low W) : ∀ t, (agt a t).isSome = true → (low ∈ edgeF R (F t) ↔ W t % 2 = 1) := by
  obtain ⟨rk, hr⟩ := d.acy
  have : ∀ n t, rk t ≤ n → (agt a t).isSome = true → (low ∈ edgeF R (F t) ↔ W t % 2 = 1) := by
    intro n
    induction n with
    | zero | succ n ih =>
      intro t hn' ht
      obtain ⟨y, ey⟩ := Option.isSome_iff_exists.mp ht
      have hl : Sm ((edgeAt R y).filter fun x => !decide (x = t)) := List.Pairwise.filter _ (edgeAt_sm hw y)
      have hs : ∀ x ∈ (edgeAt R y).filter fun x => !decide (x = t), (agt a x).isSome = true → x ∈ stepsF R a t := fun x hx h => by
        obtain ⟨h1, h2⟩ := List.mem_filter.mp hx
        refine steps_mem.mpr ⟨y, ey, h1, fun z => ?_, h⟩
        rw [decide_eq_true z] at h2
        cases h2
      rw [hW t y ey, ← road_par hw f hn hl fun x hx h => ?_]
      · have e2 : linF (fun c => edgeF R (F c)) ((edgeAt R y).filter fun x => !decide (x = t)) = edgeF R (linF F (stepsF R a t)) := by
          rw [edge_lin, lin_lin (fun c => edgeAt_sm hw c) f.sm]
          have e3 : stepsF R a t = ((edgeAt R y).filter fun x => !decide (x = t)).filter fun x => (agt a x).isSome := by
            rw [steps_at ey, List.filter_filter]
            exact List.filter_congr fun x _ => Bool.and_comm _ _
          rw [e3]
          refine (lin_filter (f := fun c => linF (edgeAt R) (F c)) (fun c => lin_sm (fun c => edgeAt_sm hw c) _) _ fun x _ hx => ?_).symm
          rw [f.non x (by
            cases c : agt a x with
            | none => rfl
            | some y =>
              rw [c] at hx
              cases hx)]
          rfl
        have ht' : low ≠ t := fun z => by rw [z, ey] at hn; cases hn
        have e4 : low ∈ ((edgeAt R y).filter fun x => !decide (x = t)) ↔ low ∈ edgeAt R y := by
          rw [List.mem_filter, decide_eq_false ht']
          exact ⟨fun z => z.1, fun z => ⟨z, rfl⟩⟩
        rw [e2, mem_join, e4, f.eq' ey, edgeF_join hw (sm_one y) (f.fsm _), mem_join, edge_lin R [y], lin_one fun c => edgeAt_sm hw c]
      · have hst := hs x hx h
        have hlt := hr t x hst
        first
          | omega
          | exact ih x (by omega) h
  exact fun t ht => this _ t (Nat.le_refl _) ht
theorem road_slim (hw : Wf R) (f : Fil R a b F) (d : Fd R a b) {low high : Int} (h1 : agt a low = none) (h2 : agt b low = none) {W : Int → Int} (hW : Wy R a low W) : low ∈ slimF R a b F [high] ↔ roadF R a low W high % 2 = 1 := by
  unfold slimF roadF
  rw [lone_mem, ← road_par hw f h1 (edgeAt_sm hw high) fun x _ hx => way_par hw f d h1 hW x hx]
  have e : edgeF R (upF R F [high]) = joinF (edgeAt R high) (linF (fun c => edgeF R (F c)) (edgeAt R high)) := by
    unfold upF
    have e1 : edgeF R [high] = edgeAt R high := lin_one (fun c => edgeAt_sm hw c) high
    rw [edgeF_join hw (sm_one high) (f.fsm _), e1]
    congr 1
    rw [edge_lin, lin_lin (fun c => edgeAt_sm hw c) f.sm]
    rfl
  rw [e]
  exact ⟨fun z => z.1, fun z => ⟨z, h1, h2⟩⟩
end
end SB

namespace SB
open PySem PySem.Spec PyProof.Rows L2 Res
/-! ## goings through all rows of steps -/
section
variable {α : Type}
def gsum (f : α → Int) : List α → Int
  | [] => 0
  | x :: l => f x + gsum f l
theorem gsum_append {f : α → Int} : ∀ {l m : List α}, gsum f (l ++ m) = gsum f l + gsum f m
  | [], m => by
    show gsum f m = 0 + gsum f m
    omega
  | x :: l, m => by
    show f x + gsum f (l ++ m) = f x + gsum f l + gsum f m
    rw [gsum_append]
    omega
theorem gsum_one {f : α → Int} {x : α} : gsum f [x] = f x := by
  show f x + 0 = f x
  omega
theorem gsum_nonneg {f : α → Int} (h : ∀ x, 0 ≤ f x) : ∀ l : List α, 0 ≤ gsum f l
  | [] => Int.le_refl _
  | x :: l => by
    show 0 ≤ f x + gsum f l
    have := h x
    have := gsum_nonneg h l
    omega
theorem gsum_congr {f g : α → Int} : ∀ {l : List α}, (∀ x ∈ l, f x = g x) → gsum f l = gsum g l
  | [], _ => rfl
  | x :: l, h => by
    show f x + gsum f l = g x + gsum g l
    rw [h x List.mem_cons_self, gsum_congr fun y hy => h y (List.mem_cons_of_mem _ hy)]
theorem gsum_filter {f : α → Int} {p : α → Bool} : ∀ {l : List α}, gsum f (l.filter p) = gsum (fun x => if p x = true then f x else 0) l
  | [] => rfl
  | x :: l => by
    rw [List.filter_cons]
    show _ = (if p x = true then f x else 0) + gsum _ l
    cases p x with
    | true =>
      rw [if_pos rfl, if_pos rfl, ← gsum_filter]
      rfl
    | false =>
      rw [if_neg (by decide), if_neg (by decide), ← gsum_filter]
      omega
theorem gsum_perm {f : α → Int} {l m : List α} (h : l.Perm m) : gsum f l = gsum f m := by
  induction h with
  | nil => rfl
  | cons x _ ih =>
    show f x + _ = f x + _
    rw [ih]
  | swap x y l =>
    show f y + (f x + _) = f x + (f y + _)
    omega
  | trans _ _ ih1 ih2 => exact ih1.trans ih2
end
theorem gsum_sum {f : Int → Int} : ∀ {l : List Int}, sumF f l = gsum f l
  | [] => rfl
  | x :: l => by rw [sum_cons, gsum_sum]; rfl
theorem gsum_sub {f : Int → Int} (h : ∀ x, 0 ≤ f x) : ∀ {l m : List Int}, l.Nodup → (∀ x ∈ l, x ∈ m) → gsum f l ≤ gsum f m
  | [], m, _, _ => gsum_nonneg h m
  | x :: l, m, hn, hs => by
    rw [List.nodup_cons] at hn
    obtain ⟨p, q, rfl⟩ := List.append_of_mem (hs x List.mem_cons_self)
    rw [gsum_perm (List.perm_middle (l₁ := p) (a := x) (l₂ := q))]
    show f x + gsum f l ≤ f x + gsum f (p ++ q)
    have := gsum_sub h (l := l) (m := p ++ q) hn.2 fun y hy => by
      have := hs y (List.mem_cons_of_mem _ hy)
      rcases List.mem_append.mp this with z | z
      · exact List.mem_append_left _ z
      · cases z with
        | head => exact absurd hy hn.1
        | tail _ z => exact List.mem_append_right _ z
    omega
/-- how many rows of steps go on from a tail -/
theorem nodes_of {R : Rows} {a : Ar} (hw : Wf R) : ∀ (q p l : List Int), IsOrd R a l → l.Nodup → l = p ++ q → ∃ N : Int → Int, (∀ x, 0 ≤ N x) ∧ (∀ t ∈ q, N t = 1 + gsum N (stepsF R a t)) ∧ gsum N q ≤ 2 ^ q.length - 1
  | [], p, l, _, _, _ => ⟨fun _ => 0, fun _ => Int.le_refl _, fun _ h => (nomatch h), by decide⟩
  | t :: q, p, l, o, hn, e => by
    obtain ⟨N, h0, h1, h2⟩ := nodes_of hw q (p ++ [t]) l o hn (by rw [e]; simp)
    have hs : ∀ x ∈ stepsF R a t, x ∈ q := o.later p t q e
    rw [e] at hn
    have htq : t ∉ q := fun z => (List.nodup_cons.mp (List.nodup_append.mp hn).2.1).1 z
    have hsum := gsum_sub h0 (steps_sm hw a t).nodup hs
    have hnn := gsum_nonneg h0 (stepsF R a t)
    have hc : ∀ l : List Int, (∀ x ∈ l, x ∈ q) → gsum (fun x => if x = t then 1 + gsum N (stepsF R a t) else N x) l = gsum N l := fun l hl => gsum_congr fun x hx => if_neg fun z => htq (by rw [← z]; exact hl x hx)
    refine ⟨fun x => if x = t then 1 + gsum N (stepsF R a t) else N x, fun x => ?_, fun u hu => ?_, ?_⟩
    · show 0 ≤ if x = t then _ else _
      by_cases c : x = t
      · rw [if_pos c]
        omega
      · rw [if_neg c]
        exact h0 x
    · cases hu with
      | head =>
        rw [hc _ hs]
        exact if_pos rfl
      | tail _ hu =>
        have hus : ∀ x ∈ stepsF R a u, x ∈ q := fun x hx => by
          obtain ⟨p1, q1, rfl⟩ := List.append_of_mem hu
          have := o.later (p ++ t :: p1) u q1 (by rw [e]; simp) x hx
          exact List.mem_append_right _ (List.mem_cons_of_mem _ this)
        rw [hc _ hus]
        show (if u = t then _ else N u) = _
        rw [if_neg fun z => htq (by rw [← z]; exact hu)]
        exact h1 u hu
    · show (if t = t then 1 + gsum N (stepsF R a t) else N t) + gsum _ q ≤ _
      rw [if_pos rfl, hc q fun _ h => h, List.length_cons, Int.pow_succ]
      omega
/-- a loop that hands back before its rows end -/
theorem loop_ret {ω α β σT : Type} {body : α → σT → Res ω (Fl β σT)} {Qr : β → Prop} (I : σT → Prop) (μ : σT → Nat) (step : ∀ x s, I s → Okk (body x s) (fun f => match f with | .next s' => I s' ∧ μ s' < μ s | .ret y => Qr y)) :
    ∀ (xs : List α) (s : σT), I s → μ s < xs.length → Okk (forM body xs s) (fun f => ∃ y, f = .ret y ∧ Qr y)
  | [], s, _, h => absurd h (Nat.not_lt_zero _)
  | x :: xs, s, hs, h => by
    obtain ⟨f, e, hf⟩ := step x s hs
    unfold forM
    rw [e]
    cases f with
    | ret y => exact ⟨.ret y, rfl, y, rfl, hf⟩
    | next s' =>
      rw [List.length_cons] at h
      exact loop_ret I μ step xs s' hf.1 (by have := hf.2; omega)
theorem two_len {R : Rows} {a b : Ar} (f : Fd R a b) (hw : Wf R) : a.length + b.length ≤ R.length := by
  have hn : (a.map (·.1) ++ b.map (·.1)).Nodup := List.nodup_append.mpr ⟨f.ka, f.kb, fun x hx y hy e => by
    subst e
    have := f.two x (agt_some.mpr hx)
    exact agt_none.mp this hy⟩
  have := nodup_len hn (R := R) fun x hx => by
    rcases List.mem_append.mp hx with z | z
    · exact f.tail_here hw (agt_some.mpr z)
    · exact f.head_here hw (agt_some.mpr z)
  rw [List.length_append, List.length_map, List.length_map] at this
  exact this
theorem len_ab {R : Rows} {a b : Ar} (f : Fd R a b) : a.length ≤ b.length := by
  have h1 : (a.map (·.2)).Nodup := by
    have hb : ∀ q ∈ a, agt b q.2 = some q.1 := fun q hq => (f.ab _ _).mp ((agt_iff f.ka).mpr hq)
    have hk := f.ka
    rw [List.nodup_iff_pairwise_ne, List.pairwise_map] at hk ⊢
    refine List.Pairwise.imp_of_mem (fun {x y} hx hy z e => z ?_) hk
    have e1 := hb x hx
    have e2 := hb y hy
    rw [e, e2] at e1
    exact (Option.some.inj e1).symm
  have := h1.length_le_of_subset (l₂ := b.map (·.1)) fun x hx => by
    obtain ⟨q, hq, rfl⟩ := List.mem_map.mp hx
    exact agt_some_key ((f.ab _ _).mp ((agt_iff f.ka).mpr hq))
  rw [List.length_map, List.length_map] at this
  exact this
end SB

namespace SB
open PySem PySem.Spec PyProof.Rows L2 Res
structure Bi (mg : Str → Option Value) : Prop where
  len : mg "len" = none
  range : mg "range" = none
  sorted : mg "sorted" = none
  list : mg "list" = none
  isinstance : mg "isinstance" = none
  int : mg "int" = none
  bool : mg "bool" = none
  enumerate : mg "enumerate" = none
  str : mg "str" = none
  K_FIGURES : ∃ u, mg "FIGURES" = some u ∧ RelV (.str "0123456789") u
structure Em (K : PySem.W.Frag) (T : Cs) : Prop where
  f_BadRow_BadRow : PySem.W.exmOne K (.ref T.row) (.ref T.row) = some true
abbrev s_BadRow_init : Stmt := inClass (topS 2) 0
theorem sc_BadRow_init : FnScope ["self", "at"] ["self", "at"] (defScope s_BadRow_init) := ⟨rfl, rfl, rfl, by decide +kernel, rfl, by decide +kernel, by decide +kernel⟩
theorem ok_BadRow_init {P : Program} {w : World} {K : PySem.W.Frag} {mg : Str → Option Value} {base : Heap} {C : Addr} {f : Addr} {fd : FuncData} (F : Fun K "__init__" "BadRow.__init__" s_BadRow_init f fd) : FnOk P w K mg base CX0 1 f fd ["self", "at"] (sp_xi K C "at") := by
  refine F.ok sc_BadRow_init (fun vs H Q E h => ?_) (fun cdv A outer s H vs Q E hr h => ⟨rd_xi K "at", ?_, wk_xi h⟩)
  · obtain ⟨_, _, rfl, _⟩ := h
    rfl
  · exact (pss_one (ps_ost (pv 0) (pv 1)))
@[irreducible] def m_law_bag (x_script : (List Int)) : Res Unit Bag := Res.bind (forM (β := Bag) (fun z16 (s21 : Int) => Res.bind (mulR s21 (1009 : Int)) fun t40 => Res.bind (modR ((s21 * (1009 : Int)) + z16) (1000003 : Int)) fun t41 => .ok (.next (((s21 * (1009 : Int)) + z16) % (1000003 : Int)))) (cutL x_script none (some (63 : Int))) ((cutL x_script none (some (63 : Int))).length : Int)) fun r63 => (match r63 with | .next s34 => .ok (Bag.mk (cutL x_script none (some (63 : Int))) (0 : Int) (0 : Int) s34) | .ret y64 => .ok y64)
def sp_law_bag (T : Cs) (K : PySem.W.Frag) : Sp := fun vs H Q E => ∃ (A : Hp) (R : List Hp) (v_script : V) (x_script : (List Int)), vs = [v_script] ∧ St H (A :: R) ∧ Scr K A v_script x_script ∧ (m_law_bag x_script).wp (fun y => ∀ (A' H' : Hp) (v : V) (m : Hp), Same A A' → St H' (A' :: m :: R) → Ob.isAt T A' m v y → Q v H') (fun _ _ => False)
def rd_law_bag (T : Cs) (K : PySem.W.Frag) (E : XK) : TS := (tSeq (tAsg (tCB (Evl.rLenS K) (tCons (tSl (rSlL K) (tVar 0) tNoPart (tPart (tC (.int 63)))) tNil)) (gName 1)) (tSeq (tFor (iList K (tSl (rSlL K) (tVar 0) tNoPart (tPart (tC (.int 63))))) (gName 2) (tAsg (tOp (rI (fun _ j => 0 < j) fun i j => .int (i % j)) (tOp (rI0 fun i j => .int (i + j)) (tOp (rI CMul fun i j => .int (i * j)) (tVar 1) (tC (.int 1009))) (tVar 2)) (tC (.int 1000003))) (gName 1))) (tRet (tLst (tCons (tCB (Evl.rListS K) (tCons (tSl (rSlL K) (tVar 0) tNoPart (tPart (tC (.int 63)))) tNil)) (tCons (tC (.int 0)) (tCons (tC (.int 0)) (tCons (tVar 1) tNil))))))))
theorem wk_law_bag {T : Cs} {K : PySem.W.Frag} {vs : List V} {H : Hp} {Q : VK} {E : XK}  (h : sp_law_bag T K vs H Q E) : rd_law_bag T K E { nx := fun _ H' => Q .non H', rt := Q } (L2.start ["_law_script", "_law_salt", "_law_one"] vs) H := by
  obtain ⟨A, R, v_script, x_script, rfl, S, h_script, h⟩ := h
  unfold m_law_bag at h
  unfold rd_law_bag
  have e0 : Same A A := Same.refl _
  refine q_asg ?_
  refine c_cb (c_cons (c_sl (c_var rfl (c_nopart (c_part (c_c (c_int (c_sliceS S h_script (ow S fun p1 ws2 H3 S4 h5 => ?_)))))))))
  refine c_nil (c_len ⟨_, _, rfl, (S4.mem _ (List.mem_of_getElem? (i := 1) rfl)) _ _ one_same, h5⟩ (?_))
  refine q_forL ?_
  refine c_sl (c_var rfl (c_nopart (c_part (c_c (c_int (c_sliceS S4 h_script (ow S4 fun p6 ws7 H8 S9 h10 => ?_)))))))
  have h12 := frz_is h10 S9
  have S13 := S9.frz
  have e11 := same_join_l (A := A) (B := (one p6 (.lst ws7)))
  generalize hjA14 : join A (one p6 (.lst ws7)) = A14 at h12 S13 e11
  clear hjA14
  have e0 := e0.trans e11
  have h_script := upS h_script e11
  refine c_forL (A := A14) (s0 := ((cutL x_script none (some (63 : Int))).length : Int)) (fun (A_ : Hp) (σ_ : L2.St) (R_ : List Hp) (s : Int) => ∃ (y_one15 : Option V), σ_ = [some v_script, some (.int s), y_one15] ∧ (one p1 (.lst ws2)) :: R = R_) S13 (fun Q' q => q) h12 ⟨_, rfl, rfl⟩ h (fun z16 w17 A18 H19 σ30 R20 s21 C22 N23 hz24 e25 S26 h27 hR28 hN29 h => ?_) (fun A31 H32 σ38 R33 s34 e35 S36 hR37 h => ?_)
  ·
    have eL39 : Same A14 A14 := Same.refl _
    obtain ⟨y_one15, rfl, rfl⟩ := hR28
    have e0 := e0.trans e25
    have eL39 := eL39.trans e25
    have h_script := upS h_script e25
    obtain rfl : w17 = (.int z16) := h27
    refine s_asg ?_
    refine c_op (c_op (c_op (c_var rfl (c_c (c_mul h fun h => ?_)))))
    refine c_var rfl (c_I0 (c_c (c_mod h fun h => ?_)))
    exact hN29 _ _ _ _ (((s21 * (1009 : Int)) + z16) % (1000003 : Int)) eL39 S26 ⟨_, rfl, rfl⟩ h
  ·
    refine nx_mk ?_
    obtain ⟨y_one15, rfl, rfl⟩ := hR37
    have e0 := e0.trans e35
    have h_script := upS h_script e35
    refine s_ret ?_
    refine c_tlst (c_cons (c_cb (c_cons (c_sl (c_var rfl (c_nopart (c_part (c_c (c_int (c_sliceS S36 h_script (ow S36 fun p42 ws43 H44 S45 h46 => ?_)))))))))))
    refine c_nil (c_list ⟨_, _, rfl, (S45.mem _ (List.mem_of_getElem? (i := 1) rfl)) _ _ one_same, h46⟩ (ow S45 fun p47 ws48 H49 S50 h51 => ?_))
    refine c_cons (c_c (c_cons (c_c (c_cons (c_var rfl (c_nil (?_)))))))
    have h53 := frz_is h51 S50
    have S54 := S50.frz
    have e52 := same_join_l (A := A31) (B := (one p47 (.lst ws48)))
    generalize hjA55 : join A31 (one p47 (.lst ws48)) = A55 at h53 S54 e52
    clear hjA55
    have e0 := e0.trans e52
    have h_script := upS h_script e52
    refine c_bag (T := T) (l := (cutL x_script none (some (63 : Int)))) S54 h53 fun p56 m57 H58 S59 h60 => ?_
    have S61 : St H58 (A55 :: m57 :: (one p1 (.lst ws2)) :: R) := S59.drop 1 (Nat.le_of_ble_eq_true rfl)
    have S62 : St H58 (A55 :: m57 :: R) := S61.drop 1 (Nat.le_of_ble_eq_true rfl)
    exact h (A55) (H58) ((.ref p56)) (m57) e0 S62 h60
abbrev s_law_bag : Stmt := topS 15
theorem sc_law_bag : FnScope ["_law_script", "_law_salt", "_law_one"] ["_law_script"] (defScope s_law_bag) := ⟨rfl, rfl, rfl, by decide +kernel, rfl, by decide +kernel, by decide +kernel⟩
theorem ok_law_bag {P : Program} {w : World} {K : PySem.W.Frag} {mg : Str → Option Value} {base : Heap} {T : Cs} {f : Addr} {fd : FuncData}  (F : Fun K "_law_bag" "_law_bag" s_law_bag f fd) (bi : Bi mg)    : FnOk P w K mg base CX0 1 f fd ["_law_script"] (sp_law_bag T K) := by
  refine F.ok sc_law_bag (fun vs H Q E h => ?_) (fun cdv A outer s H vs Q E hr h => ⟨rd_law_bag T K E, ?_, wk_law_bag  h⟩)
  · obtain ⟨_, _, _, _, rfl, _⟩ := h
    rfl
  · exact (pss_cons (ps_set (i := 1) sc_law_bag.nd rfl (Or.inl rfl) (pe_callB call_len_seq (by rfl) bi.len PySem.boot_len (pa_cons (pe_slice sl_list (pv 0) po_none (po_some pe_int)) pa_nil)))
      (pss_cons (ps_for PassesOwn.never rfl (pi_list (pe_slice sl_list (pv 0) po_none (po_some pe_int))) (pg_name (i := 2) sc_law_bag.nd rfl (Or.inl rfl)) (pss_one (ps_set (i := 1) sc_law_bag.nd rfl (Or.inl rfl) (pe_op op_mod (pe_op op_add (pe_op op_mul (pv 1) pe_int) (pv 2)) pe_int))))
      (pss_one (ps_ret (pe_lst (pa_cons (pe_callTy call_list_of (by rfl) bi.list boot_list (pa_cons (pe_slice sl_list (pv 0) po_none (po_some pe_int)) pa_nil)) (pa_cons pe_int (pa_cons pe_int (pa_cons (pv 1) pa_nil)))))))))
abbrev s_law_pull : Stmt := topS 12
theorem sc_law_pull : FnScope ["_law_bag_here", "_law_many", "_law_seed", "_law_mixed", "_law_drawn"] ["_law_bag_here", "_law_many"] (defScope s_law_pull) := ⟨rfl, rfl, rfl, by decide +kernel, rfl, by decide +kernel, by decide +kernel⟩
theorem ok_law_pull {P : Program} {w : World} {K : PySem.W.Frag} {mg : Str → Option Value} {base : Heap} {T : Cs} {f : Addr} {fd : FuncData}  (F : Fun K "_law_pull" "_law_pull" s_law_pull f fd) (bi : Bi mg)    : FnOk P w K mg base CX0 1 f fd ["_law_bag_here", "_law_many"] (sp_law_pull T K) := by
  refine F.ok sc_law_pull (fun vs H Q E h => ?_) (fun cdv A outer s H vs Q E hr h => ⟨rd_law_pull T K E, ?_, wk_law_pull  h⟩)
  · obtain ⟨_, _, _, _, _, _, rfl, _⟩ := h
    rfl
  · exact (pss_cons (ps_if (pt_cmpR op_le (pe_ix ix_list (pv 0) pe_int (fun _ _ => rfl)) pe_int (nomark _)) (pss_cons (ps_augS (pv 0) pe_int get_list pe_int ip_add set_list) (pss_cons (ps_set (i := 2) sc_law_pull.nd rfl (Or.inl rfl) (pe_ix ix_list (pv 0) pe_int (fun _ _ => rfl))) (pss_cons (ps_if (pt_cmpR op_le (pe_ix ix_list (pv 0) pe_int (fun _ _ => rfl)) (pe_callB call_len_seq (by rfl) bi.len PySem.boot_len (pa_cons (pe_ix ix_list (pv 0) pe_int (fun _ _ => rfl)) pa_nil)) (nomark _)) (pss_one (ps_set (i := 2) sc_law_pull.nd rfl (Or.inl rfl) (pe_ix ix_list (pe_ix ix_list (pv 0) pe_int (fun _ _ => rfl)) (pe_op op_sub (pe_ix ix_list (pv 0) pe_int (fun _ _ => rfl)) pe_int) (fun _ _ => rfl)))) pss_nil) (pss_cons (ps_if (PW.pt (pw_or (pt_cmpR op_gt (pe_ix ix_list (pv 0) pe_int (fun _ _ => rfl)) (pe_callB call_len_seq (by rfl) bi.len PySem.boot_len (pa_cons (pe_ix ix_list (pv 0) pe_int (fun _ _ => rfl)) pa_nil)) (nomark _)) (pw_or1 (pt_cmpR op_lt (pv 2) (pe_op op_pow pe_int pe_int) (nomark _))))) (pss_cons (ps_set (i := 3) sc_law_pull.nd rfl (Or.inl rfl) (pe_op op_mod (pe_op op_add (pe_op op_add (pe_op op_mul (pv 2) pe_int) (pe_op op_mul (pe_ix ix_list (pv 0) pe_int (fun _ _ => rfl)) pe_int)) pe_int) pe_int)) (pss_cons (ps_set (i := 3) sc_law_pull.nd rfl (Or.inl rfl) (pe_op op_mod (pe_op op_mul (pv 3) (pv 3)) pe_int)) (pss_one (ps_ret (pe_op op_mod (pe_op op_fdiv (pe_op op_mod (pe_op op_mul (pe_op op_add (pv 3) (pe_ix ix_list (pv 0) pe_int (fun _ _ => rfl))) pe_int) pe_int) pe_int) (pv 1)))))) pss_nil) (pss_one (ps_asg (pv 2) (pg_sub (pv 0) pe_int set_list))))))) pss_nil) (pss_cons (ps_set (i := 4) sc_law_pull.nd rfl (Or.inl rfl) (pe_op op_mod (pe_ix ix_list (pv 0) pe_int (fun _ _ => rfl)) (pv 1))) (pss_cons (ps_asg (pe_op op_fdiv (pe_ix ix_list (pv 0) pe_int (fun _ _ => rfl)) (pv 1)) (pg_sub (pv 0) pe_int set_list)) (pss_one (ps_ret (pv 4))))))
@[irreducible] def m_law_join (x_one : (List Int)) (x_other : (List Int)) : Res Unit (List Int) := Res.bind (.ok ((x_one.filter (fun z1 => (!(decide (z1 ∈ x_other))))).map (fun z1 => z1))) fun t31 => Res.bind (.ok ((x_other.filter (fun z43 => (!(decide (z43 ∈ x_one))))).map (fun z43 => z43))) fun t73 => Res.bind (catR t31 t73) fun t81 => Res.bind (.ok (sortI t81)) fun t87 => .ok t87
def sp_law_join (T : Cs) (K : PySem.W.Frag) : Sp := fun vs H Q E => ∃ (A : Hp) (R : List Hp) (v_one : V) (x_one : (List Int)) (v_other : V) (x_other : (List Int)), vs = [v_one, v_other] ∧ St H (A :: R) ∧ Is A v_one x_one ∧ Is A v_other x_other ∧ (m_law_join x_one x_other).wp (fun y => ∀ (A' H' : Hp) (p : Addr) (ws : List V), Same A A' → St H' (A' :: one p (.lst ws) :: R) → OL A' ws y → Q (.ref p) H') (fun _ _ => False)
def rd_law_join (T : Cs) (K : PySem.W.Frag) (E : XK) : TS := (tSeq (tAsg (tLc (iList K (tVar 0)) (gName 3) (tTest (tOp (rIn K true) (tVar 3) (tVar 1))) (tVar 3) [3]) (gName 2)) (tRet (tCB (rSortedI K) (tCons (tOp rCat (tVar 2) (tLc (iList K (tVar 1)) (gName 3) (tTest (tOp (rIn K true) (tVar 3) (tVar 0))) (tVar 3) [3])) tNil))))
theorem wk_law_join {T : Cs} {K : PySem.W.Frag} {vs : List V} {H : Hp} {Q : VK} {E : XK}  (h : sp_law_join T K vs H Q E) : rd_law_join T K E { nx := fun _ H' => Q .non H', rt := Q } (L2.start ["_law_one", "_law_other", "_law_left", "_law_x"] vs) H := by
  obtain ⟨A, R, v_one, x_one, v_other, x_other, rfl, S, h_one, h_other, h⟩ := h
  unfold m_law_join at h
  unfold rd_law_join
  have e0 : Same A A := Same.refl _
  refine q_asg ?_
  refine c_lcE ?_
  refine c_var rfl (?_)
  refine c_lcL (A := A) (R := R) (tt := (tTest (tOp (rIn K true) (tVar 3) (tVar 1)))) (te := (tVar 3)) (vs := [3]) (j := 3) (xs := x_one) (fun z1 => (!(decide (z1 ∈ x_other)))) (fun z1 => z1) S (fun Q' q => q) h_one h (fun _ => rfl) ?_ ?_ (fun p32 A33 H34 ws35 t31 h e36 S37 h38 => ?_)
  ·
    intro z1 w2 A3 n4 hm14 e7 h12 A5 H6 e8 S9 Q10 hk11
    have e0 := e0.trans (e7.trans e8)
    have e15 := e7.trans e8
    have h_one := up h_one e15
    have h_other := up h_other e15
    have eC16 : Same A5 A5 := Same.refl _
    have h12 := up h12 e8
    obtain rfl : w2 = (.int z1) := h12
    refine c_tst (c_op (c_var rfl (c_var rfl (c_notin (la_of S9 h_other) (c_bl (?_))))))
    exact hk11 _ _ eC16 S9
  ·
    intro z1 w2 A17 n18 hm28 e21 h26 hf27 A19 H20 e22 S23 Q24 hk25
    have e0 := e0.trans (e21.trans e22)
    have e29 := e21.trans e22
    have h_one := up h_one e29
    have h_other := up h_other e29
    have eC30 : Same A19 A19 := Same.refl _
    have h26 := up h26 e22
    obtain rfl : w2 = (.int z1) := h26
    refine c_var rfl (?_)
    exact hk25 _ _ _ eC30 S23 rfl
  ·
    have e0 := e0.trans e36
    have h_one := up h_one e36
    have h_other := up h_other e36
    have h40 := frz_is h38 S37
    have S41 := S37.frz
    have e39 := same_join_l (A := A33) (B := (one p32 (.lst ws35)))
    generalize hjA42 : join A33 (one p32 (.lst ws35)) = A42 at h40 S41 e39
    clear hjA42
    have e0 := e0.trans e39
    have h_one := up h_one e39
    have h_other := up h_other e39
    refine s_ret ?_
    refine c_cb (c_cons (c_op (c_var rfl (?_))))
    refine c_lcE ?_
    refine c_var rfl (?_)
    refine c_lcL (A := A42) (R := R) (tt := (tTest (tOp (rIn K true) (tVar 3) (tVar 0)))) (te := (tVar 3)) (vs := [3]) (j := 3) (xs := x_other) (fun z43 => (!(decide (z43 ∈ x_one)))) (fun z43 => z43) S41 (fun Q' q => q) h_other h (fun _ => rfl) ?_ ?_ (fun p74 A75 H76 ws77 t73 h e78 S79 h80 => ?_)
    ·
      intro z43 w44 A45 n46 hm56 e49 h54 A47 H48 e50 S51 Q52 hk53
      have e0 := e0.trans (e49.trans e50)
      have e57 := e49.trans e50
      have h_one := up h_one e57
      have h_other := up h_other e57
      have h40 := up h40 e57
      have eC58 : Same A47 A47 := Same.refl _
      have h54 := up h54 e50
      obtain rfl : w44 = (.int z43) := h54
      refine c_tst (c_op (c_var rfl (c_var rfl (c_notin (la_of S51 h_one) (c_bl (?_))))))
      exact hk53 _ _ eC58 S51
    ·
      intro z43 w44 A59 n60 hm70 e63 h68 hf69 A61 H62 e64 S65 Q66 hk67
      have e0 := e0.trans (e63.trans e64)
      have e71 := e63.trans e64
      have h_one := up h_one e71
      have h_other := up h_other e71
      have h40 := up h40 e71
      have eC72 : Same A61 A61 := Same.refl _
      have h68 := up h68 e64
      obtain rfl : w44 = (.int z43) := h68
      refine c_var rfl (?_)
      exact hk67 _ _ _ eC72 S65 rfl
    ·
      have e0 := e0.trans e78
      have h_one := up h_one e78
      have h_other := up h_other e78
      have h40 := up h40 e78
      refine c_cat (la_of S79 h40) ⟨_, _, rfl, (S79.mem _ (List.mem_of_getElem? (i := 1) rfl)) _ _ one_same, h80⟩ h fun t81 h => (ow S79 fun p82 ws83 H84 S85 h86 => ?_)
      refine c_nil (c_sorted ⟨_, _, rfl, (S85.mem _ (List.mem_of_getElem? (i := 1) rfl)) _ _ one_same, h86⟩ h fun t87 h => (ow S85 fun p88 ws89 H90 S91 h92 => ?_))
      have S93 : St H90 (A75 :: (one p88 (.lst ws89)) :: (one p74 (.lst ws77)) :: R) := S91.drop 1 (Nat.le_of_ble_eq_true rfl)
      have S94 : St H90 (A75 :: (one p88 (.lst ws89)) :: R) := S93.drop 1 (Nat.le_of_ble_eq_true rfl)
      exact h (A75) (H90) (p88) (ws89) e0 S94 h92
abbrev s_law_join : Stmt := topS 13
theorem sc_law_join : FnScope ["_law_one", "_law_other", "_law_left", "_law_x"] ["_law_one", "_law_other"] (defScope s_law_join) := ⟨rfl, rfl, rfl, by decide +kernel, rfl, by decide +kernel, by decide +kernel⟩
theorem ok_law_join {P : Program} {w : World} {K : PySem.W.Frag} {mg : Str → Option Value} {base : Heap} {T : Cs} {f : Addr} {fd : FuncData}  (F : Fun K "_law_join" "_law_join" s_law_join f fd) (bi : Bi mg)    : FnOk P w K mg base CX0 1 f fd ["_law_one", "_law_other"] (sp_law_join T K) := by
  refine F.ok sc_law_join (fun vs H Q E h => ?_) (fun cdv A outer s H vs Q E hr h => ⟨rd_law_join T K E, ?_, wk_law_join  h⟩)
  · obtain ⟨_, _, _, _, _, _, rfl, _⟩ := h
    rfl
  · exact (pss_cons (ps_setLc (i := 2) (own := [("_law_x", 3)]) (g := gName 3) (tt := (tTest (tOp (rIn K true) (tVar 3) (tVar 1)))) (te := (tVar 3)) rfl sc_law_join.nd rfl rfl (sw_true rfl rfl rfl (by decide +kernel)) (pi_list (pv 0)) (blkOk_by (own := [("_law_x", 3)]) (N := ["_law_one", "_law_other", "_law_left", "_law_x"]) (sc := defScope s_law_join) (by decide +kernel)) (fun _ _ _ _ _ => pg_name (i := 3) sc_law_join.nd rfl (Or.inl rfl)) (fun _ _ _ _ _ => pts_one (pt_cmpR op_notIn_seq (pv 3) (pv 1) rfl)) (fun _ _ _ _ _ => (pv 3)))
      (pss_one (ps_ret (pe_callB cr_sortedI (by rfl) bi.sorted boot_sorted (pa_cons (pe_op op_cat (pv 2) (pe_lc (own := [("_law_x", 3)]) (g := gName 3) (tt := (tTest (tOp (rIn K true) (tVar 3) (tVar 0)))) (te := (tVar 3)) rfl sc_law_join.nd (pi_list (pv 1)) (blkOk_by (own := [("_law_x", 3)]) (N := ["_law_one", "_law_other", "_law_left", "_law_x"]) (sc := defScope s_law_join) (by decide +kernel)) (fun _ _ _ _ _ => pg_name (i := 3) sc_law_join.nd rfl (Or.inl rfl)) (fun _ _ _ _ _ => pts_one (pt_cmpR op_notIn_seq (pv 3) (pv 0) rfl)) (fun _ _ _ _ _ => (pv 3)))) pa_nil)))))
@[irreducible] def m_law_wide (x_bag_here : Bag) : Res Bag ((List Int) × Bag) := Res.bind (Res.noex (m_law_pull x_bag_here (11 : Int))) fun y7 => Res.bind (Res.bind (rgR (0 : Int) y7.1) fun l => forM (β := ((List Int) × Bag)) (fun z15 (s20 : (List Int) × Bag) => Res.bind (Res.noex (m_law_pull s20.2 (5 : Int))) fun y48 => Res.bind (ixR [(10 : Int), (10 : Int), (100 : Int), (1000 : Int), ((10 : Int) ^ (9 : Int).toNat)] y48.1) fun t55 => Res.bind (Res.noex (m_law_pull y48.2 t55)) fun y56 => Res.bind (Res.noex (m_law_join s20.1 [y56.1])) fun y76 => .ok (.next (y76, y56.2))) l (([] : List Int), y7.2)) fun r93 => (match r93 with | .next s33 => .ok (s33.1, s33.2) | .ret y94 => .ok y94)
def sp_law_wide (T : Cs) (K : PySem.W.Frag) : Sp := fun vs H Q E => ∃ (A : Hp) (R : List Hp) (m_bag_here : Hp) (v_bag_here : V) (x_bag_here : Bag), vs = [v_bag_here] ∧ St H (A :: m_bag_here :: R) ∧ Ob.isAt T A m_bag_here v_bag_here x_bag_here ∧ (m_law_wide x_bag_here).wp (fun y => ∀ (A' H' : Hp) (p : Addr) (ws : List V) (m0 : Hp), Same A A' → St H' (A' :: one p (.lst ws) :: m0 :: R) → OL A' ws y.1 → Ob.isAt T A' m0 v_bag_here y.2 → Q (.ref p) H') (fun _ _ => False)
def rd_law_wide (T : Cs) (K : PySem.W.Frag) (E : XK) : TS := (tSeq (tAsg (tLst tNil) (gName 1)) (tSeq (tFor (iRng1 (tCons (tCall (sp_law_pull T K) [] E0 (tCons (tVar 0) (tCons (tC (.int 11)) tNil))) tNil)) (gName 2) (tSeq (tAsg (tOp (rIxL K) (tLst (tCons (tC (.int 10)) (tCons (tC (.int 10)) (tCons (tC (.int 100)) (tCons (tC (.int 1000)) (tCons (tOp (rI CPow fun i j => .int (i ^ j.toNat)) (tC (.int 10)) (tC (.int 9))) tNil)))))) (tCall (sp_law_pull T K) [] E0 (tCons (tVar 0) (tCons (tC (.int 5)) tNil)))) (gName 3)) (tAsg (tCall (sp_law_join T K) [] E0 (tCons (tVar 1) (tCons (tLst (tCons (tCall (sp_law_pull T K) [] E0 (tCons (tVar 0) (tCons (tVar 3) tNil))) tNil)) tNil))) (gName 1)))) (tRet (tVar 1))))
theorem wk_law_wide {T : Cs} {K : PySem.W.Frag} {vs : List V} {H : Hp} {Q : VK} {E : XK}  (h : sp_law_wide T K vs H Q E) : rd_law_wide T K E { nx := fun _ H' => Q .non H', rt := Q } (L2.start ["_law_bag_here", "_law_found", "_law_k", "_law_size"] vs) H := by
  obtain ⟨A, R, m_bag_here, v_bag_here, x_bag_here, rfl, S, h_bag_here, h⟩ := h
  unfold m_law_wide at h
  unfold rd_law_wide
  have e0 : Same A A := Same.refl _
  refine q_asg ?_
  refine c_tlst (c_nil (c_lst (α := Int) (vs := []) (xs := []) (Nat.le_of_ble_eq_true rfl) trivial (ow S fun p1 ws2 H3 S4 h5 => ?_)))
  refine q_forR1 ?_
  have S6 : St H3 (A :: m_bag_here :: (one p1 (.lst ws2)) :: R) := S4.pick 1 (Nat.le_of_ble_eq_true rfl)
  refine c_cons (c_call (c_cons (c_var rfl (c_cons (c_c (c_nil (⟨A, ((one p1 (.lst ws2)) :: R), m_bag_here, v_bag_here, x_bag_here, (11 : Int), rfl, S6, h_bag_here, ?_⟩)))))))
  refine Res.wp_mono (Res.wp_noex (Res.wp_bind h)) (fun y7 h A8 H9 m13 e10 S11 h12 => ?_) (fun _ _ h => h.elim)
  have e0 := e0.trans e10
  have h5 := OL.up h5 e10
  refine c_nil (?_)
  refine c_forR1 (A := A8) (s0 := (([] : List Int), y7.2)) (fun (A_ : Hp) (σ_ : L2.St) (R_ : List Hp) (s : (List Int) × Bag) => ∃ (p_found14 : Addr) (ws_found14 : List V) (m_bag_here14 : Hp) (y_size14 : Option V) (y_k14 : Option V), σ_ = [some v_bag_here, some (.ref p_found14), y_k14, y_size14] ∧ m_bag_here14 :: (one p_found14 (.lst ws_found14)) :: R = R_ ∧ OL A_ ws_found14 (s.1 : (List Int)) ∧ Ob.isAt T A_ m_bag_here14 v_bag_here (s.2 : Bag)) S11 (fun Q' q => q) ⟨p1, ws2, m13, _, _, rfl, rfl, h5, h12⟩ h (fun z15 A17 H18 σ29 R19 s20 C21 N22 hz23a hz23b e24 S25 hR27 hN28 h => ?_) (fun A30 H31 σ37 R32 s33 e34 S35 hR36 h => ?_)
  ·
    have eL38 : Same A8 A8 := Same.refl _
    obtain ⟨p_found14, ws_found14, m_bag_here14, y_size14, y_k14, rfl, rfl, h39, h40⟩ := hR27
    have e0 := e0.trans e24
    have eL38 := eL38.trans e24
    refine q_asg ?_
    refine c_op (c_tlst (c_cons (c_c (c_cons (c_c (c_cons (c_c (c_cons (c_c (c_cons (c_op (c_c (c_c (c_I ⟨by decide, by decide, by decide⟩ (c_nil (c_lst (α := Int) (vs := [(.int 10), (.int 10), (.int 100), (.int 1000), (.int ((10 : Int) ^ (9 : Int).toNat))]) (xs := [(10 : Int), (10 : Int), (100 : Int), (1000 : Int), ((10 : Int) ^ (9 : Int).toNat)]) (Nat.le_of_ble_eq_true rfl) ⟨rfl, ⟨rfl, ⟨rfl, ⟨rfl, ⟨rfl, trivial⟩⟩⟩⟩⟩ (ow S25 fun p42 ws43 H44 S45 h46 => ?_)))))))))))))))))
    have S47 : St H44 (A17 :: m_bag_here14 :: (one p42 (.lst ws43)) :: (one p_found14 (.lst ws_found14)) :: R) := S45.pick 1 (Nat.le_of_ble_eq_true rfl)
    refine c_call (c_cons (c_var rfl (c_cons (c_c (c_nil (⟨A17, ((one p42 (.lst ws43)) :: (one p_found14 (.lst ws_found14)) :: R), m_bag_here14, v_bag_here, s20.2, (5 : Int), rfl, S47, h40, ?_⟩))))))
    refine Res.wp_mono (Res.wp_noex (Res.wp_bind h)) (fun y48 h A49 H50 m54 e51 S52 h53 => ?_) (fun _ _ h => h.elim)
    have e0 := e0.trans e51
    have eL38 := eL38.trans e51
    have h39 := OL.up h39 e51
    have h46 := OL.up h46 e51
    refine c_ixI ⟨_, _, rfl, (S52.mem _ (List.mem_of_getElem? (i := 2) rfl)) _ _ one_same, h46⟩ h fun t55 h => ?_
    refine s_asg ?_
    refine c_call (c_cons (c_var rfl (c_cons (c_tlst (c_cons (c_call (c_cons (c_var rfl (c_cons (c_var rfl (c_nil (⟨A49, ((one p42 (.lst ws43)) :: (one p_found14 (.lst ws_found14)) :: R), m54, v_bag_here, y48.2, t55, rfl, S52, h53, ?_⟩))))))))))))
    refine Res.wp_mono (Res.wp_noex (Res.wp_bind h)) (fun y56 h A57 H58 m62 e59 S60 h61 => ?_) (fun _ _ h => h.elim)
    have e0 := e0.trans e59
    have eL38 := eL38.trans e59
    have h39 := OL.up h39 e59
    refine c_nil (c_lst (α := Int) (vs := [(.int y56.1)]) (xs := [y56.1]) (Nat.le_of_ble_eq_true rfl) ⟨rfl, trivial⟩ (ow S60 fun p63 ws64 H65 S66 h67 => ?_))
    have h69 := frz_is h67 S66
    have S70 := S66.frz
    have e68 := same_join_l (A := A57) (B := (one p63 (.lst ws64)))
    generalize hjA71 : join A57 (one p63 (.lst ws64)) = A71 at h69 S70 e68
    clear hjA71
    have e0 := e0.trans e68
    have eL38 := eL38.trans e68
    have h61 := upO h61 e68
    have h39 := OL.up h39 e68
    have S72 : St H65 (A71 :: (one p_found14 (.lst ws_found14)) :: m62 :: (one p42 (.lst ws43)) :: R) := S70.pick 2 (Nat.le_of_ble_eq_true rfl)
    have h75 := frz_is h39 S72
    have S73 := S72.frz
    have e74 := same_join_l (A := A71) (B := (one p_found14 (.lst ws_found14)))
    refine c_nil (⟨(join A71 (one p_found14 (.lst ws_found14))), (m62 :: (one p42 (.lst ws43)) :: R), (.ref p_found14), s20.1, (.ref p63), [y56.1], rfl, S73, h75, (up h69 e74), ?_⟩)
    refine Res.wp_mono (Res.wp_noex (Res.wp_bind h)) (fun y76 h A77 H78 p81 ws82 e79 S80 h83 => ?_) (fun _ _ h => h.elim)
    have S84 := S80.back1 ((same_join_r S72.dj).trans e79)
    have e85 := same_minus S72 e79
    generalize minus A77 (one p_found14 (.lst ws_found14)) = A86 at S84 e85
    have e0 := e0.trans e85
    have eL38 := eL38.trans e85
    have h61 := upO h61 e85
    have h39 := OL.up h39 e85
    have h83 : OL A86 _ _ := OL.any h83
    have S87 : St H78 (A86 :: (one p81 (.lst ws82)) :: m62 :: (one p42 (.lst ws43)) :: R) := S84.drop 0 (Nat.le_of_ble_eq_true rfl)
    have S88 : St H78 (A86 :: m62 :: (one p81 (.lst ws82)) :: (one p42 (.lst ws43)) :: R) := S87.pick 1 (Nat.le_of_ble_eq_true rfl)
    have S89 : St H78 (A86 :: m62 :: (one p81 (.lst ws82)) :: R) := S88.drop 2 (Nat.le_of_ble_eq_true rfl)
    exact hN28 _ _ _ _ (y76, y56.2) eL38 S89 ⟨p81, ws82, m62, _, _, rfl, rfl, h83, h61⟩ h
  ·
    refine nx_mk ?_
    obtain ⟨p_found14, ws_found14, m_bag_here14, y_size14, y_k14, rfl, rfl, h90, h91⟩ := hR36
    have e0 := e0.trans e34
    refine s_ret ?_
    refine c_var rfl (?_)
    have S92 : St H31 (A30 :: (one p_found14 (.lst ws_found14)) :: m_bag_here14 :: R) := S35.pick 1 (Nat.le_of_ble_eq_true rfl)
    exact h (A30) (H31) (p_found14) (ws_found14) (m_bag_here14) e0 S92 h90 h91
abbrev s_law_wide : Stmt := topS 19
theorem sc_law_wide : FnScope ["_law_bag_here", "_law_found", "_law_k", "_law_size"] ["_law_bag_here"] (defScope s_law_wide) := ⟨rfl, rfl, rfl, by decide +kernel, rfl, by decide +kernel, by decide +kernel⟩
theorem ok_law_wide {P : Program} {w : World} {K : PySem.W.Frag} {mg : Str → Option Value} {base : Heap} {T : Cs} {f : Addr} {fd : FuncData} {f_law_pull : Addr} {fd_law_pull : FuncData} {f_law_join : Addr} {fd_law_join : FuncData} (F : Fun K "_law_wide" "_law_wide" s_law_wide f fd) (bi : Bi mg) (G_law_pull : Glob P w K mg base CX0 1 "_law_pull" ["_law_bag_here", "_law_many"] (sp_law_pull T K) f_law_pull fd_law_pull) (G_law_join : Glob P w K mg base CX0 1 "_law_join" ["_law_one", "_law_other"] (sp_law_join T K) f_law_join fd_law_join)   : FnOk P w K mg base CX0 2 f fd ["_law_bag_here"] (sp_law_wide T K) := by
  refine F.ok sc_law_wide (fun vs H Q E h => ?_) (fun cdv A outer s H vs Q E hr h => ⟨rd_law_wide T K E, ?_, wk_law_wide  h⟩)
  · obtain ⟨_, _, _, _, _, rfl, _⟩ := h
    rfl
  · exact (pss_cons (ps_set (i := 1) sc_law_wide.nd rfl (Or.inl rfl) (pe_lst pa_nil))
      (pss_cons (ps_for PassesOwn.never rfl (pi_range1 (by rfl) bi.range (pa_cons (pe_call G_law_pull.ok (hr.mono (Nat.le_of_ble_eq_true rfl)) (by rfl) G_law_pull.g G_law_pull.kp G_law_pull.b .nil pass0 (pa_cons (pv 0) (pa_cons pe_int pa_nil))) pa_nil)) (pg_name (i := 2) sc_law_wide.nd rfl (Or.inl rfl)) (pss_cons (ps_set (i := 3) sc_law_wide.nd rfl (Or.inl rfl) (pe_ix ix_list (pe_lst (pa_cons pe_int (pa_cons pe_int (pa_cons pe_int (pa_cons pe_int (pa_cons (pe_op op_pow pe_int pe_int) pa_nil)))))) (pe_call G_law_pull.ok (hr.mono (Nat.le_of_ble_eq_true rfl)) (by rfl) G_law_pull.g G_law_pull.kp G_law_pull.b .nil pass0 (pa_cons (pv 0) (pa_cons pe_int pa_nil))) (fun _ _ => rfl)))
      (pss_one (ps_set (i := 1) sc_law_wide.nd rfl (Or.inl rfl) (pe_call G_law_join.ok (hr.mono (Nat.le_of_ble_eq_true rfl)) (by rfl) G_law_join.g G_law_join.kp G_law_join.b .nil pass0 (pa_cons (pv 1) (pa_cons (pe_lst (pa_cons (pe_call G_law_pull.ok (hr.mono (Nat.le_of_ble_eq_true rfl)) (by rfl) G_law_pull.g G_law_pull.kp G_law_pull.b .nil pass0 (pa_cons (pv 0) (pa_cons (pv 3) pa_nil))) pa_nil)) pa_nil)))))))
      (pss_one (ps_ret (pv 1)))))
@[irreducible] def m_shown_sum (x_row : (List Int)) : Res Unit Str := if (decide (x_row = ([] : List Int))) = true then .ok ("-" : Str) else Res.bind (compG (β := Str) (fun z8 (s14 : Unit) => Res.bind (strIR z8) fun t28 => .ok (some t28, ())) x_row ()) fun y29 => Res.bind (joinSR ("+" : Str) y29.1) fun t39 => .ok t39
def sp_shown_sum (T : Cs) (K : PySem.W.Frag) : Sp := fun vs H Q E => ∃ (A : Hp) (R : List Hp) (v_row : V) (x_row : (List Int)), vs = [v_row] ∧ St H (A :: R) ∧ Is A v_row x_row ∧ (m_shown_sum x_row).wp (fun y => ∀ (A' H' : Hp) , Same A A' → St H' (A' :: R) → Q (.str y) H') (fun _ _ => False)
def rd_shown_sum (T : Cs) (K : PySem.W.Frag) (E : XK) : TS := (tSeq (tIfS (tTest (tOp (rEqD K) (tVar 0) (tLst tNil))) (tRet (tC (.str "-"))) tNext) (tRet (tM1 (rJoinStr K) (tC (.str "+")) (tLc (iList K (tVar 0)) (gName 1) tYes (tCB rStrInt (tCons (tVar 1) tNil)) [1]))))
theorem wk_shown_sum {T : Cs} {K : PySem.W.Frag} {vs : List V} {H : Hp} {Q : VK} {E : XK}  (h : sp_shown_sum T K vs H Q E) : rd_shown_sum T K E { nx := fun _ H' => Q .non H', rt := Q } (L2.start ["row", "x"] vs) H := by
  obtain ⟨A, R, v_row, x_row, rfl, S, h_row, h⟩ := h
  unfold m_shown_sum at h
  unfold rd_shown_sum
  have e0 : Same A A := Same.refl _
  refine q_when ?_
  refine c_tst (c_op (c_var rfl (c_tlst (c_nil (c_lst (α := Int) (vs := []) (xs := []) (Nat.le_of_ble_eq_true rfl) trivial (ow S fun p1 ws2 H3 S4 h5 => ?_))))))
  refine c_eqD (α := (List Int)) (x := x_row) (y := ([] : List Int)) (dp_of S4 h_row) (dp_la S4 ⟨_, _, rfl, (S4.mem _ (List.mem_of_getElem? (i := 1) rfl)) _ _ one_same, h5⟩) (Nat.le_of_ble_eq_true rfl) (c_bl (?_))
  refine c_if h (fun hc h => ?_) (fun hc h => ?_)
  ·
    refine s_ret ?_
    refine c_c (?_)
    have S6 : St H3 (A :: R) := S4.drop 0 (Nat.le_of_ble_eq_true rfl)
    exact h (A) (H3) e0 S6 
  ·
    refine s_ret ?_
    refine c_tm1 (c_c (c_and2 ⟨_, rfl⟩ (?_)))
    refine c_lcE ?_
    refine c_var rfl (?_)
    refine c_lcGL (A := A) (R := (one p1 (.lst ws2)) :: R) (tt := tYes) (te := (tCB rStrInt (tCons (tVar 1) tNil))) (vs := [1]) (j := 1) (fun (A_ : Hp) (R_ : List Hp) (s : Unit) => (one p1 (.lst ws2)) :: R = R_) S4 (fun Q' q => q) h_row rfl h (fun _ => rfl) (fun z8 w9 A11 H12 R13 s14 n15 C16 K1_17 K0_18 hz19 e20 S21 hR22 hK23 hK24 h => ?_) (fun p30 A31 H32 R33 ws34 y29 h e35 S36 hR37 h38 => ?_)
    ·
      obtain ⟨hz19, h25⟩ := hz19
      have eC27 : Same A11 A11 := Same.refl _
      obtain rfl := hR22
      have e0 := e0.trans e20
      have h_row := up h_row e20
      obtain rfl : w9 = (.int z8) := h25
      refine c_yes ?_
      refine c_cb (c_cons (c_var rfl (c_nil (c_strI h fun t28 h => ?_))))
      exact hK23 _ _ _ t28 _ () eC27 S21 rfl rfl h
    ·
      obtain rfl := hR37
      have e0 := e0.trans e35
      have h_row := up h_row e35
      refine c_joinS ⟨_, _, rfl, (S36.mem _ (List.mem_of_getElem? (i := 1) rfl)) _ _ one_same, h38⟩ h fun t39 h => ?_
      have S40 : St H32 (A31 :: (one p1 (.lst ws2)) :: R) := S36.drop 0 (Nat.le_of_ble_eq_true rfl)
      have S41 : St H32 (A31 :: R) := S40.drop 0 (Nat.le_of_ble_eq_true rfl)
      exact h (A31) (H32) e0 S41 
abbrev s_shown_sum : Stmt := topS 7
theorem sc_shown_sum : FnScope ["row", "x"] ["row"] (defScope s_shown_sum) := ⟨rfl, rfl, rfl, by decide +kernel, rfl, by decide +kernel, by decide +kernel⟩
theorem ok_shown_sum {P : Program} {w : World} {K : PySem.W.Frag} {mg : Str → Option Value} {base : Heap} {T : Cs} {f : Addr} {fd : FuncData}  (F : Fun K "shown_sum" "shown_sum" s_shown_sum f fd) (bi : Bi mg)    : FnOk P w K mg base CX0 1 f fd ["row"] (sp_shown_sum T K) := by
  refine F.ok sc_shown_sum (fun vs H Q E h => ?_) (fun cdv A outer s H vs Q E hr h => ⟨rd_shown_sum T K E, ?_, wk_shown_sum  h⟩)
  · obtain ⟨_, _, _, _, rfl, _⟩ := h
    rfl
  · exact (pss_cons (ps_if (pt_cmpR (op_eqD hr.units) (pv 0) (pe_lst pa_nil) (nomark _)) (pss_one (ps_ret pe_str)) pss_nil)
      (pss_one (ps_ret (pe_join pe_str (pe_lc (own := [("x", 1)]) (g := (gName 1)) (tt := tYes) (te := (tCB rStrInt (tCons (tVar 1) tNil))) rfl sc_shown_sum.nd (pi_list (pv 0)) (blkOk_by (own := [("x", 1)]) (N := ["row", "x"]) (sc := defScope s_shown_sum) (by decide +kernel)) (fun _ _ _ _ _ => pg_name (i := 1) sc_shown_sum.nd rfl (Or.inl rfl)) (fun _ _ _ _ _ => pts_nil) (fun _ _ _ _ _ => (pe_callTy call_str_int (by rfl) bi.str boot_str (pa_cons (pv 1) pa_nil))))))))
@[irreducible] def m_number_of (x_text : Str) (x_at : Int) : Res Unit Int := Res.bind (forM (β := Int) (fun z1 (s6 : Unit) => if (!(decide (z1.c ∈ (Str.cps ("0123456789" : Str)).toList))) = true then .ex (.atRow x_at) () else .ok (.next ())) (chrs x_text) ()) fun r38 => (match r38 with | .next s18 => Res.bind (orR (decide (x_text = ("" : Str))) (Res.bind (lenSR x_text) fun t33 => orR (decide ((9 : Int) < t33)) (Res.bind (ixSR x_text (0 : Int)) fun t34 => andR (decide ((Chr.s t34) = ("0" : Str))) (Res.bind (lenSR x_text) fun t35 => .ok (decide ((1 : Int) < t35)))))) fun b25 => if b25 = true then .ex (.atRow x_at) () else Res.bind (intSR x_text) fun t37 => .ok t37 | .ret y39 => .ok y39)
def sp_number_of (T : Cs) (K : PySem.W.Frag) : Sp := fun vs H Q E => ∃ (A : Hp) (R : List Hp) (x_text : Str) (x_at : Int), vs = [(.str x_text), (.int x_at)] ∧ St H (A :: R) ∧ (m_number_of x_text x_at).wp (fun y => ∀ (A' H' : Hp) , Same A A' → St H' (A' :: R) → Q (.int y) H') (fun e w => ∀ (A' B' H' : Hp)  (cls : Value) (d : Option Addr), Same A A' → Same A' B' → St H' (B' :: R) → XA T e cls d A' B' → E cls d H')
def rd_number_of (T : Cs) (K : PySem.W.Frag) (E : XK) : TS := (tSeq (tFor (iStr (tVar 0)) (gName 2) (tIfS (tTest (tOp rNotInS (tVar 2) (tC (.str "0123456789")))) (tRaiseP K E T.row "at" (tVar 1)) tNext)) (tSeq (tIfS (tOr (tTest (tOp rEq (tVar 0) (tC (.str "")))) (tOr (tTest (tOp (rI0 fun i j => .bl (decide (j < i))) (tCB rLenStr (tCons (tVar 0) tNil)) (tC (.int 9)))) (tAnd (tTest (tOp rEq (tOp rIxS (tVar 0) (tC (.int 0))) (tC (.str "0")))) (tTest (tOp (rI0 fun i j => .bl (decide (j < i))) (tCB rLenStr (tCons (tVar 0) tNil)) (tC (.int 1))))))) (tRaiseP K E T.row "at" (tVar 1)) tNext) (tRet (tCB rIntStr (tCons (tVar 0) tNil)))))
theorem wk_number_of {T : Cs} {K : PySem.W.Frag} {vs : List V} {H : Hp} {Q : VK} {E : XK} (XO_BadRow : XoC K T.row "at") (h : sp_number_of T K vs H Q E) : rd_number_of T K E { nx := fun _ H' => Q .non H', rt := Q } (L2.start ["text", "at", "sign"] vs) H := by
  obtain ⟨A, R, x_text, x_at, rfl, S, h⟩ := h
  unfold m_number_of at h
  unfold rd_number_of
  have e0 : Same A A := Same.refl _
  refine q_forS ?_
  refine c_var rfl (?_)
  refine c_forS (A := A) (s0 := ()) (fun (A_ : Hp) (σ_ : L2.St) (R_ : List Hp) (s : Unit) => ∃ (y_sign2 : Option V), σ_ = [some (.str x_text), some (.int x_at), y_sign2] ∧ R = R_) S (fun Q' q => q)  ⟨_, rfl, rfl⟩ h (fun z1 A3 H4 σ14 R5 s6 C7 N8 hz9 e10 S11 hR12 hN13 h => ?_) (fun A15 H16 σ22 R17 s18 e19 S20 hR21 h => ?_)
  ·
    have eL23 : Same A A := Same.refl _
    obtain ⟨y_sign2, rfl, rfl⟩ := hR12
    have e0 := e0.trans e10
    have eL23 := eL23.trans e10
    refine s_when ?_
    refine c_tst (c_op (c_var rfl (c_c (c_notinC (c_bl (?_))))))
    refine c_if h (fun hc h => ?_) (fun hc h => ?_)
    ·
      refine s_raiseP XO_BadRow.o XO_BadRow.no ?_ mono_var
      refine c_var rfl (?_)
      refine x_row S11 fun B9 H9 d9 eA9 S9 x9 => ?_
      exact h A3 B9 H9  _ _ e0 eA9 S9  x9
    ·
      exact hN13 _ _ _ _ () eL23 S11 ⟨_, rfl, rfl⟩ h
  ·
    refine nx_mk ?_
    obtain ⟨y_sign2, rfl, rfl⟩ := hR21
    have e0 := e0.trans e19
    refine q_when ?_
    refine q_test (A := A15) (R := R) h (fun Qb27 hk26 h => ?_) (fun b25 A28 H29 e30 S31 h => ?_)
    ·
      have eT32 : Same A15 A15 := Same.refl _
      refine c_or ?_
      refine c_tst (c_op (c_var rfl (c_c (c_eqS (c_bl (?_))))))
      refine c_orR h (fun hc h => ?_) (fun hc h => ?_)
      ·
        exact hk26 _ _ _ eT32 S20 h
      ·
        refine c_or ?_
        refine c_tst (c_op (c_cb (c_cons (c_var rfl (c_nil (c_lenS h fun t33 h => ?_))))))
        refine c_c (c_I0 (c_bl (?_)))
        refine c_orR h (fun hc h => ?_) (fun hc h => ?_)
        ·
          exact hk26 _ _ _ eT32 S20 h
        ·
          refine c_and ?_
          refine c_tst (c_op (c_op (c_var rfl (c_c (c_ixS h fun t34 h => ?_)))))
          refine c_c (c_eqS (c_bl (?_)))
          refine c_andR h (fun hc h => ?_) (fun hc h => ?_)
          ·
            refine c_tst (c_op (c_cb (c_cons (c_var rfl (c_nil (c_lenS h fun t35 h => ?_))))))
            refine c_c (c_I0 (c_bl (?_)))
            exact hk26 _ _ _ eT32 S20 h
          ·
            exact hk26 _ _ _ eT32 S20 h
    ·
      have e0 := e0.trans e30
      refine c_if h (fun hc h => ?_) (fun hc h => ?_)
      ·
        refine s_raiseP XO_BadRow.o XO_BadRow.no ?_ mono_var
        refine c_var rfl (?_)
        refine x_row S31 fun B9 H9 d9 eA9 S9 x9 => ?_
        exact h A28 B9 H9  _ _ e0 eA9 S9  x9
      ·
        refine s_ret ?_
        refine c_cb (c_cons (c_var rfl (c_nil (c_intS h fun t37 h => ?_))))
        exact h (A28) (H29) e0 S31 
abbrev s_number_of : Stmt := topS 8
theorem sc_number_of : FnScope ["text", "at", "sign"] ["text", "at"] (defScope s_number_of) := ⟨rfl, rfl, rfl, by decide +kernel, rfl, by decide +kernel, by decide +kernel⟩
theorem ok_number_of {P : Program} {w : World} {K : PySem.W.Frag} {mg : Str → Option Value} {base : Heap} {T : Cs} {f : Addr} {fd : FuncData}  (F : Fun K "number_of" "number_of" s_number_of f fd) (bi : Bi mg)   (XO_BadRow : XoC K T.row "at") (XG_BadRow : mg "BadRow" = some (.ref T.row)) {fI_BadRow : Addr} {fdI_BadRow : FuncData} (XI_BadRow : XiC P w K mg base T.row "at" fI_BadRow fdI_BadRow) : FnOk P w K mg base (L2.CX P w) 3 f fd ["text", "at"] (sp_number_of T K) := by
  refine F.okX sc_number_of (fun vs H Q E h => ?_) (fun cdv A outer s H vs Q E hr h => ⟨rd_number_of T K E, ?_, wk_number_of XO_BadRow h⟩)
  · obtain ⟨_, _, _, _, rfl, _⟩ := h
    rfl
  · exact (pss_cons (ps_for (passes_of rfl) rfl (pi_str (pv 0)) (pg_name (i := 2) sc_number_of.nd rfl (Or.inl rfl)) (pss_one (ps_if (pt_cmpR op_notInS (pv 2) (pe_kc rfl bi.K_FIGURES) rfl) (pss_one (ps_raise rfl (takes_of rfl rfl rfl rfl) (pmk_oex XO_BadRow.o XI_BadRow.ini XI_BadRow.ty XI_BadRow.ok (hr.mono (Nat.le_of_ble_eq_true rfl)) XI_BadRow.b .nil pass0 (by rfl) XG_BadRow (pa_cons (pv 1) pa_nil)))) pss_nil)))
      (pss_cons (ps_if (PW.pt (pw_or (pt_cmpR op_eq (pv 0) pe_str (nomark _)) (pw_or (pt_cmpR op_gt (pe_callB call_len_str (by rfl) bi.len PySem.boot_len (pa_cons (pv 0) pa_nil)) pe_int (nomark _)) (pw_or1 (PW.pt (pw_and (pt_cmpR op_eq (pe_ix ix_str (pv 0) pe_int (fun _ _ => rfl)) pe_str (nomark _)) (pw_and1 (pt_cmpR op_gt (pe_callB call_len_str (by rfl) bi.len PySem.boot_len (pa_cons (pv 0) pa_nil)) pe_int (nomark _))))))))) (pss_one (ps_raise rfl (takes_of rfl rfl rfl rfl) (pmk_oex XO_BadRow.o XI_BadRow.ini XI_BadRow.ty XI_BadRow.ok (hr.mono (Nat.le_of_ble_eq_true rfl)) XI_BadRow.b .nil pass0 (by rfl) XG_BadRow (pa_cons (pv 1) pa_nil)))) pss_nil)
      (pss_one (ps_ret (pe_callTy call_int_str (by rfl) bi.int boot_int (pa_cons (pv 0) pa_nil))))))
@[irreducible] def m_is_sum (x_row : (List Int)) : Res Unit Bool := Res.bind (Res.bind (rgR (1 : Int) (x_row.length : Int)) fun l => forM (β := Bool) (fun z2 (s7 : Unit) => Res.bind (ixR x_row (z2 - (1 : Int))) fun t26 => Res.bind (ixR x_row z2) fun t27 => if (decide (t27 ≤ t26)) = true then .ok (.ret (false)) else .ok (.next ())) l ()) fun r28 => (match r28 with | .next s20 => .ok true | .ret y29 => .ok y29)
def sp_is_sum (T : Cs) (K : PySem.W.Frag) : Sp := fun vs H Q E => ∃ (A : Hp) (R : List Hp) (v_row : V) (x_row : (List Int)), vs = [v_row] ∧ St H (A :: R) ∧ Is A v_row x_row ∧ (m_is_sum x_row).wp (fun y => ∀ (A' H' : Hp) , Same A A' → St H' (A' :: R) → Q (.bl y) H') (fun _ _ => False)
def rd_is_sum (T : Cs) (K : PySem.W.Frag) (E : XK) : TS := (tSeq (tFor (iRng2 (tCons (tC (.int 1)) (tCons (tCB (Evl.rLenS K) (tCons (tVar 0) tNil)) tNil))) (gName 1) (tIfS (tTest (tOp (rI0 fun i j => .bl (decide (j ≤ i))) (tOp (rIxL K) (tVar 0) (tOp (rI0 fun i j => .int (i - j)) (tVar 1) (tC (.int 1)))) (tOp (rIxL K) (tVar 0) (tVar 1)))) (tRet (tC (.bl false))) tNext)) (tRet (tC (.bl true))))
theorem wk_is_sum {T : Cs} {K : PySem.W.Frag} {vs : List V} {H : Hp} {Q : VK} {E : XK}  (h : sp_is_sum T K vs H Q E) : rd_is_sum T K E { nx := fun _ H' => Q .non H', rt := Q } (L2.start ["row", "k"] vs) H := by
  obtain ⟨A, R, v_row, x_row, rfl, S, h_row, h⟩ := h
  unfold m_is_sum at h
  unfold rd_is_sum
  have e0 : Same A A := Same.refl _
  refine q_forR2 ?_
  refine c_cons (c_c (c_cons (c_cb (c_cons (c_var rfl (c_nil (c_len (la_of S h_row) (c_nil (?_)))))))))
  refine c_forR2 (A := A) (s0 := ()) (fun (A_ : Hp) (σ_ : L2.St) (R_ : List Hp) (s : Unit) => ∃ (y_k1 : Option V), σ_ = [some v_row, y_k1] ∧ R = R_) S (fun Q' q => q) ⟨_, rfl, rfl⟩ h (fun z2 A4 H5 σ16 R6 s7 C8 N9 hz10a hz10b e11 S12 hR14 hN15 h => ?_) (fun A17 H18 σ24 R19 s20 e21 S22 hR23 h => ?_)
  ·
    have eL25 : Same A A := Same.refl _
    obtain ⟨y_k1, rfl, rfl⟩ := hR14
    have e0 := e0.trans e11
    have eL25 := eL25.trans e11
    have h_row := up h_row e11
    refine s_when ?_
    refine c_tst (c_op (c_op (c_var rfl (c_op (c_var rfl (c_c (c_I0 (c_ixI (la_of S12 h_row) h fun t26 h => ?_))))))))
    refine c_op (c_var rfl (c_var rfl (c_ixI (la_of S12 h_row) h fun t27 h => ?_)))
    refine c_I0 (c_bl (?_))
    refine c_if h (fun hc h => ?_) (fun hc h => ?_)
    ·
      refine s_ret ?_
      refine c_c (?_)
      exact h (A4) (H5) e0 S12 
    ·
      exact hN15 _ _ _ _ () eL25 S12 ⟨_, rfl, rfl⟩ h
  ·
    refine nx_mk ?_
    obtain ⟨y_k1, rfl, rfl⟩ := hR23
    have e0 := e0.trans e21
    have h_row := up h_row e21
    refine s_ret ?_
    refine c_c (?_)
    exact h (A17) (H18) e0 S22 
abbrev s_is_sum : Stmt := topS 4
theorem sc_is_sum : FnScope ["row", "k"] ["row"] (defScope s_is_sum) := ⟨rfl, rfl, rfl, by decide +kernel, rfl, by decide +kernel, by decide +kernel⟩
theorem ok_is_sum {P : Program} {w : World} {K : PySem.W.Frag} {mg : Str → Option Value} {base : Heap} {T : Cs} {f : Addr} {fd : FuncData}  (F : Fun K "is_sum" "is_sum" s_is_sum f fd) (bi : Bi mg)    : FnOk P w K mg base CX0 1 f fd ["row"] (sp_is_sum T K) := by
  refine F.ok sc_is_sum (fun vs H Q E h => ?_) (fun cdv A outer s H vs Q E hr h => ⟨rd_is_sum T K E, ?_, wk_is_sum  h⟩)
  · obtain ⟨_, _, _, _, rfl, _⟩ := h
    rfl
  · exact (pss_cons (ps_for PassesOwn.never rfl (pi_range2 (by rfl) bi.range (pa_cons pe_int (pa_cons (pe_callB call_len_seq (by rfl) bi.len PySem.boot_len (pa_cons (pv 0) pa_nil)) pa_nil))) (pg_name (i := 1) sc_is_sum.nd rfl (Or.inl rfl)) (pss_one (ps_if (pt_cmpR op_ge (pe_ix ix_list (pv 0) (pe_op op_sub (pv 1) pe_int) (fun _ _ => rfl)) (pe_ix ix_list (pv 0) (pv 1) (fun _ _ => rfl)) (nomark _)) (pss_one (ps_ret pe_bl)) pss_nil)))
      (pss_one (ps_ret pe_bl)))
@[irreducible] def m_sum_of (x_text : Str) (x_at : Int) : Res Unit (List Int) := if (decide (x_text = ("-" : Str))) = true then .ok ([] : List Int) else Res.bind (splitSR x_text ("+" : Str)) fun t6 => Res.bind (mapX (β := Int) (fun (z16 : Str) => Res.bind (Res.lift (fun w => ()) (m_number_of z16 x_at)) fun y28 => .ok y28) t6) fun y34 => Res.bind (Res.noex (m_is_sum y34)) fun y45 => if (!y45) = true then .ex (.atRow x_at) () else .ok y34
def sp_sum_of (T : Cs) (K : PySem.W.Frag) : Sp := fun vs H Q E => ∃ (A : Hp) (R : List Hp) (x_text : Str) (x_at : Int), vs = [(.str x_text), (.int x_at)] ∧ St H (A :: R) ∧ (m_sum_of x_text x_at).wp (fun y => ∀ (A' H' : Hp) (p : Addr) (ws : List V), Same A A' → St H' (A' :: one p (.lst ws) :: R) → OL A' ws y → Q (.ref p) H') (fun e w => ∀ (A' B' H' : Hp)  (cls : Value) (d : Option Addr), Same A A' → Same A' B' → St H' (B' :: R) → XA T e cls d A' B' → E cls d H')
def rd_sum_of (T : Cs) (K : PySem.W.Frag) (E : XK) : TS := (tSeq (tIfS (tTest (tOp rEq (tVar 0) (tC (.str "-")))) (tRet (tLst tNil)) tNext) (tSeq (tAsg (tLc (iList K (tM1 rSplitStr (tVar 0) (tC (.str "+")))) (gName 3) tYes (tCall (sp_number_of T K) [] E (tCons (tVar 3) (tCons (tVar 1) tNil))) [3]) (gName 2)) (tSeq (tIfS (tNot (tB (tCall (sp_is_sum T K) [] E0 (tCons (tVar 2) tNil)))) (tRaiseP K E T.row "at" (tVar 1)) tNext) (tRet (tVar 2)))))
theorem wk_sum_of {T : Cs} {K : PySem.W.Frag} {vs : List V} {H : Hp} {Q : VK} {E : XK} (XO_BadRow : XoC K T.row "at") (h : sp_sum_of T K vs H Q E) : rd_sum_of T K E { nx := fun _ H' => Q .non H', rt := Q } (L2.start ["text", "at", "row", "part"] vs) H := by
  obtain ⟨A, R, x_text, x_at, rfl, S, h⟩ := h
  unfold m_sum_of at h
  unfold rd_sum_of
  have e0 : Same A A := Same.refl _
  refine q_when ?_
  refine c_tst (c_op (c_var rfl (c_c (c_eqS (c_bl (?_))))))
  refine c_if h (fun hc h => ?_) (fun hc h => ?_)
  ·
    refine s_ret ?_
    refine c_tlst (c_nil (c_lst (α := Int) (vs := []) (xs := []) (Nat.le_of_ble_eq_true rfl) trivial (ow S fun p1 ws2 H3 S4 h5 => ?_)))
    exact h (A) (H3) (p1) (ws2) e0 S4 h5
  ·
    refine q_asg ?_
    refine c_lcE ?_
    refine c_tm1 (c_var rfl (c_and2 ⟨_, rfl⟩ (c_c (c_splitS h fun t6 h => (ow S fun p7 ws8 H9 S10 h11 => ?_)))))
    have h13 := frz_is h11 S10
    have S14 := S10.frz
    have e12 := same_join_l (A := A) (B := (one p7 (.lst ws8)))
    generalize hjA15 : join A (one p7 (.lst ws8)) = A15 at h13 S14 e12
    clear hjA15
    have e0 := e0.trans e12
    refine c_lcX (β := Int) (A := A15) (R := R) (te := (tCall (sp_number_of T K) [] E (tCons (tVar 3) (tCons (tVar 1) tNil)))) (vs := [3]) (j := 3) S14 (fun Q' q => q) h13 h (fun _ => rfl) (fun z16 w17 A18 H19 n20 C21 Q22 e23 S24 h25 hQ26 h => ?_) (fun p35 A36 H37 ws38 y34 h e39 S40 h41 => ?_)
    ·
      have eC27 : Same A18 A18 := Same.refl _
      have e0 := e0.trans e23
      obtain rfl : w17 = (.str z16) := h25
      refine c_call (c_cons (c_var rfl (c_cons (c_var rfl (c_nil (⟨A18, (n20 :: R), z16, x_at, rfl, S24, ?_⟩))))))
      refine Res.wp_mono (Res.wp_lift (Res.wp_bind h)) (fun y28 h A29 H30 e31 S32 => ?_) (fun e w he AX BX HX  cls d eX fX SX  hx => by
          have S33 : St HX (BX :: R) := SX.drop 0 (Nat.le_of_ble_eq_true rfl)
          exact he AX BX HX  cls d (e0.trans eX) fX S33  hx)
      have e0 := e0.trans e31
      have eC27 := eC27.trans e31
      exact hQ26 _ _ _ y28 eC27 S32 rfl h
    ·
      have e0 := e0.trans e39
      refine q_when ?_
      have h44 := frz_is h41 S40
      have S42 := S40.frz
      have e43 := same_join_l (A := A36) (B := (one p35 (.lst ws38)))
      refine c_not (b := true) (c_tb (c_call (c_cons (c_var rfl (c_nil (⟨(join A36 (one p35 (.lst ws38))), (R), (.ref p35), y34, rfl, S42, h44, ?_⟩))))))
      refine Res.wp_mono (Res.wp_noex (Res.wp_bind h)) (fun y45 h A46 H47 e48 S49 => ?_) (fun _ _ h => h.elim)
      have S50 := S49.back1 ((same_join_r S40.dj).trans e48)
      have e51 := same_minus S40 e48
      generalize minus A46 (one p35 (.lst ws38)) = A52 at S50 e51
      have e0 := e0.trans e51
      have h41 := OL.up h41 e51
      refine c_bl (?_)
      refine c_if h (fun hc h => ?_) (fun hc h => ?_)
      ·
        refine s_raiseP XO_BadRow.o XO_BadRow.no ?_ mono_var
        refine c_var rfl (?_)
        have S53 : St H47 (A52 :: R) := S50.drop 0 (Nat.le_of_ble_eq_true rfl)
        refine x_row S53 fun B9 H9 d9 eA9 S9 x9 => ?_
        exact h A52 B9 H9  _ _ e0 eA9 S9  x9
      ·
        refine s_ret ?_
        refine c_var rfl (?_)
        exact h (A52) (H47) (p35) (ws38) e0 S50 h41
abbrev s_sum_of : Stmt := topS 9
theorem sc_sum_of : FnScope ["text", "at", "row", "part"] ["text", "at"] (defScope s_sum_of) := ⟨rfl, rfl, rfl, by decide +kernel, rfl, by decide +kernel, by decide +kernel⟩
theorem ok_sum_of {P : Program} {w : World} {K : PySem.W.Frag} {mg : Str → Option Value} {base : Heap} {T : Cs} {f : Addr} {fd : FuncData} {f_number_of : Addr} {fd_number_of : FuncData} {f_is_sum : Addr} {fd_is_sum : FuncData} (F : Fun K "sum_of" "sum_of" s_sum_of f fd) (bi : Bi mg) (G_number_of : Glob P w K mg base (L2.CX P w) 3 "number_of" ["text", "at"] (sp_number_of T K) f_number_of fd_number_of) (G_is_sum : Glob P w K mg base CX0 1 "is_sum" ["row"] (sp_is_sum T K) f_is_sum fd_is_sum)  (XO_BadRow : XoC K T.row "at") (XG_BadRow : mg "BadRow" = some (.ref T.row)) {fI_BadRow : Addr} {fdI_BadRow : FuncData} (XI_BadRow : XiC P w K mg base T.row "at" fI_BadRow fdI_BadRow) : FnOk P w K mg base (L2.CX P w) 4 f fd ["text", "at"] (sp_sum_of T K) := by
  refine F.okX sc_sum_of (fun vs H Q E h => ?_) (fun cdv A outer s H vs Q E hr h => ⟨rd_sum_of T K E, ?_, wk_sum_of XO_BadRow h⟩)
  · obtain ⟨_, _, _, _, rfl, _⟩ := h
    rfl
  · exact (pss_cons (ps_if (pt_cmpR op_eq (pv 0) pe_str (nomark _)) (pss_one (ps_ret (pe_lst pa_nil))) pss_nil)
      (pss_cons (ps_setLcX (i := 2) (own := [("part", 3)]) (g := (gName 3)) (tt := tYes) (te := (tCall (sp_number_of T K) [] E (tCons (tVar 3) (tCons (tVar 1) tNil)))) (E := E) rfl rfl (takes_of rfl rfl rfl rfl) rfl sc_sum_of.nd rfl rfl (sw_true rfl rfl rfl (by decide +kernel)) (pi_list (pe_split (pv 0) pe_str)) (blkOk_by (own := [("part", 3)]) (N := ["text", "at", "row", "part"]) (sc := defScope s_sum_of) (by decide +kernel)) (fun _ _ _ _ _ _ => pg_name (i := 3) sc_sum_of.nd rfl (Or.inl rfl)) (fun _ _ _ _ _ _ => pts_nil) (fun _ _ _ _ _ _ psX => (pe_call G_number_of.ok (hr.mono (Nat.le_of_ble_eq_true rfl)) (by rfl) G_number_of.g G_number_of.kp G_number_of.b .nil psX (pa_cons (pv 3) (pa_cons (pv 1) pa_nil)))))
      (pss_cons (ps_if (pt_not (pt_val (pe_call G_is_sum.ok (hr.mono (Nat.le_of_ble_eq_true rfl)) (by rfl) G_is_sum.g G_is_sum.kp G_is_sum.b .nil pass0 (pa_cons (pv 2) pa_nil)))) (pss_one (ps_raise rfl (takes_of rfl rfl rfl rfl) (pmk_oex XO_BadRow.o XI_BadRow.ini XI_BadRow.ty XI_BadRow.ok (hr.mono (Nat.le_of_ble_eq_true rfl)) XI_BadRow.b .nil pass0 (by rfl) XG_BadRow (pa_cons (pv 1) pa_nil)))) pss_nil)
      (pss_one (ps_ret (pv 2))))))
@[irreducible] def m_read_sum (x_line : Str) : Res Unit (List Int) := Res.bind (Res.lift (fun w => ()) (m_sum_of x_line (0 : Int))) fun y1 => .ok y1
def sp_read_sum (T : Cs) (K : PySem.W.Frag) : Sp := fun vs H Q E => ∃ (A : Hp) (R : List Hp) (x_line : Str), vs = [(.str x_line)] ∧ St H (A :: R) ∧ (m_read_sum x_line).wp (fun y => ∀ (A' H' : Hp) (p : Addr) (ws : List V), Same A A' → St H' (A' :: one p (.lst ws) :: R) → OL A' ws y → Q (.ref p) H') (fun e w => ∀ (A' B' H' : Hp)  (cls : Value) (d : Option Addr), Same A A' → Same A' B' → St H' (B' :: R) → XA T e cls d A' B' → E cls d H')
def rd_read_sum (T : Cs) (K : PySem.W.Frag) (E : XK) : TS := (tRet (tCall (sp_sum_of T K) [] E (tCons (tVar 0) (tCons (tC (.int 0)) tNil))))
theorem wk_read_sum {T : Cs} {K : PySem.W.Frag} {vs : List V} {H : Hp} {Q : VK} {E : XK}  (h : sp_read_sum T K vs H Q E) : rd_read_sum T K E { nx := fun _ H' => Q .non H', rt := Q } (L2.start ["line"] vs) H := by
  obtain ⟨A, R, x_line, rfl, S, h⟩ := h
  unfold m_read_sum at h
  unfold rd_read_sum
  have e0 : Same A A := Same.refl _
  refine s_ret ?_
  refine c_call (c_cons (c_var rfl (c_cons (c_c (c_nil (⟨A, (R), x_line, (0 : Int), rfl, S, ?_⟩))))))
  refine Res.wp_mono (Res.wp_lift (Res.wp_bind h)) (fun y1 h A2 H3 p6 ws7 e4 S5 h8 => ?_) (fun e w he AX BX HX  cls d eX fX SX  hx => by
      exact he AX BX HX  cls d (e0.trans eX) fX SX  hx)
  have e0 := e0.trans e4
  exact h (A2) (H3) (p6) (ws7) e0 S5 h8
abbrev s_read_sum : Stmt := topS 10
theorem sc_read_sum : FnScope ["line"] ["line"] (defScope s_read_sum) := ⟨rfl, rfl, rfl, by decide +kernel, rfl, by decide +kernel, by decide +kernel⟩
theorem ok_read_sum {P : Program} {w : World} {K : PySem.W.Frag} {mg : Str → Option Value} {base : Heap} {T : Cs} {f : Addr} {fd : FuncData} {f_sum_of : Addr} {fd_sum_of : FuncData} (F : Fun K "read_sum" "read_sum" s_read_sum f fd) (bi : Bi mg) (G_sum_of : Glob P w K mg base (L2.CX P w) 4 "sum_of" ["text", "at"] (sp_sum_of T K) f_sum_of fd_sum_of)   : FnOk P w K mg base (L2.CX P w) 5 f fd ["line"] (sp_read_sum T K) := by
  refine F.okX sc_read_sum (fun vs H Q E h => ?_) (fun cdv A outer s H vs Q E hr h => ⟨rd_read_sum T K E, ?_, wk_read_sum  h⟩)
  · obtain ⟨_, _, _, rfl, _⟩ := h
    rfl
  · exact (pss_one (ps_ret (pe_call G_sum_of.ok (hr.mono (Nat.le_of_ble_eq_true rfl)) (by rfl) G_sum_of.g G_sum_of.kp G_sum_of.b .nil (passes_call (takes_of rfl rfl rfl rfl) (fun _ _ _ _ h => h)) (pa_cons (pv 0) (pa_cons pe_int pa_nil)))))
@[irreducible] def m_law_whole (x_found : Int) : Res Unit Bool := if true = true then .ok (!false) else .ok false
def sp_law_whole (T : Cs) (K : PySem.W.Frag) : Sp := fun vs H Q E => ∃ (A : Hp) (R : List Hp) (x_found : Int), vs = [(.int x_found)] ∧ St H (A :: R) ∧ (m_law_whole x_found).wp (fun y => ∀ (A' H' : Hp) , Same A A' → St H' (A' :: R) → Q (.bl y) H') (fun _ _ => False)
def rd_law_whole (T : Cs) (K : PySem.W.Frag) (E : XK) : TS := (tRet (tAndV (tCB (rIsi K) (tCons (tVar 0) (tCons (tC (.ty "int")) tNil))) (tNotV (tCB (rIsi K) (tCons (tVar 0) (tCons (tC (.ty "bool")) tNil))))))
theorem wk_law_whole {T : Cs} {K : PySem.W.Frag} {vs : List V} {H : Hp} {Q : VK} {E : XK}  (h : sp_law_whole T K vs H Q E) : rd_law_whole T K E { nx := fun _ H' => Q .non H', rt := Q } (L2.start ["_law_found"] vs) H := by
  obtain ⟨A, R, x_found, rfl, S, h⟩ := h
  unfold m_law_whole at h
  unfold rd_law_whole
  have e0 : Same A A := Same.refl _
  refine s_ret ?_
  refine c_andV (c_cb (c_cons (c_var rfl (c_cons (c_c (c_nil (isi_int (c_bl (?_)))))))))
  refine c_if h (fun hc h => ?_) (fun hc h => ?_)
  ·
    refine c_notV (c_cb (c_cons (c_var rfl (c_cons (c_c (c_nil (isi_int_bool (c_bl (?_)))))))))
    exact h (A) (H) e0 S 
  ·
    exact h (A) (H) e0 S 
abbrev s_law_whole : Stmt := topS 16
theorem sc_law_whole : FnScope ["_law_found"] ["_law_found"] (defScope s_law_whole) := ⟨rfl, rfl, rfl, by decide +kernel, rfl, by decide +kernel, by decide +kernel⟩
theorem ok_law_whole {P : Program} {w : World} {K : PySem.W.Frag} {mg : Str → Option Value} {base : Heap} {T : Cs} {f : Addr} {fd : FuncData}  (F : Fun K "_law_whole" "_law_whole" s_law_whole f fd) (bi : Bi mg)    : FnOk P w K mg base CX0 1 f fd ["_law_found"] (sp_law_whole T K) := by
  refine F.ok sc_law_whole (fun vs H Q E h => ?_) (fun cdv A outer s H vs Q E hr h => ⟨rd_law_whole T K E, ?_, wk_law_whole  h⟩)
  · obtain ⟨_, _, _, rfl, _⟩ := h
    rfl
  · exact (pss_one (ps_ret (pe_and (pe_callB call_isi (by rfl) bi.isinstance boot_isinstance (pa_cons (pv 0) (pa_cons (pe_bltn (v := .ty "int") (by rfl) bi.int boot_int rfl) pa_nil))) (pe_one (pe_not (pe_callB call_isi (by rfl) bi.isinstance boot_isinstance (pa_cons (pv 0) (pa_cons (pe_bltn (v := .ty "bool") (by rfl) bi.bool boot_bool rfl) pa_nil))))))))
@[irreducible] def m_law_row (x_found : (List Int)) : Res Unit Bool := if (!true) = true then .ok false else Res.bind (forM (β := Bool) (fun z2 (s7 : Unit) => Res.bind (Res.noex (m_law_whole z2)) fun y26 => if (!y26) = true then .ok (.ret (false)) else .ok (.next ())) x_found ()) fun r31 => (match r31 with | .next s20 => .ok true | .ret y32 => .ok y32)
def sp_law_row (T : Cs) (K : PySem.W.Frag) : Sp := fun vs H Q E => ∃ (A : Hp) (R : List Hp) (v_found : V) (x_found : (List Int)), vs = [v_found] ∧ St H (A :: R) ∧ Is A v_found x_found ∧ (m_law_row x_found).wp (fun y => ∀ (A' H' : Hp) , Same A A' → St H' (A' :: R) → Q (.bl y) H') (fun _ _ => False)
def rd_law_row (T : Cs) (K : PySem.W.Frag) (E : XK) : TS := (tSeq (tIfS (tNot (tB (tCB (rIsi K) (tCons (tVar 0) (tCons (tC (.ty "list")) tNil))))) (tRet (tC (.bl false))) tNext) (tSeq (tFor (iList K (tVar 0)) (gName 1) (tIfS (tNot (tB (tCall (sp_law_whole T K) [] E0 (tCons (tVar 1) tNil)))) (tRet (tC (.bl false))) tNext)) (tRet (tC (.bl true)))))
theorem wk_law_row {T : Cs} {K : PySem.W.Frag} {vs : List V} {H : Hp} {Q : VK} {E : XK}  (h : sp_law_row T K vs H Q E) : rd_law_row T K E { nx := fun _ H' => Q .non H', rt := Q } (L2.start ["_law_found", "_law_one"] vs) H := by
  obtain ⟨A, R, v_found, x_found, rfl, S, h_found, h⟩ := h
  unfold m_law_row at h
  unfold rd_law_row
  have e0 : Same A A := Same.refl _
  refine q_when ?_
  refine c_not (b := true) (c_tb (c_cb (c_cons (c_var rfl (c_cons (c_c (c_nil (isi_list (la_of S h_found) (c_bl (?_))))))))))
  refine c_if h (fun hc h => ?_) (fun hc h => ?_)
  ·
    refine s_ret ?_
    refine c_c (?_)
    exact h (A) (H) e0 S 
  ·
    refine q_forL ?_
    refine c_var rfl (?_)
    refine c_forL (A := A) (s0 := ()) (fun (A_ : Hp) (σ_ : L2.St) (R_ : List Hp) (s : Unit) => ∃ (y_one1 : Option V), σ_ = [some v_found, y_one1] ∧ R = R_) S (fun Q' q => q) h_found ⟨_, rfl, rfl⟩ h (fun z2 w3 A4 H5 σ16 R6 s7 C8 N9 hz10 e11 S12 h13 hR14 hN15 h => ?_) (fun A17 H18 σ24 R19 s20 e21 S22 hR23 h => ?_)
    ·
      have eL25 : Same A A := Same.refl _
      obtain ⟨y_one1, rfl, rfl⟩ := hR14
      have e0 := e0.trans e11
      have eL25 := eL25.trans e11
      have h_found := up h_found e11
      obtain rfl : w3 = (.int z2) := h13
      refine s_when ?_
      refine c_not (b := true) (c_tb (c_call (c_cons (c_var rfl (c_nil (⟨A4, (R), z2, rfl, S12, ?_⟩))))))
      refine Res.wp_mono (Res.wp_noex (Res.wp_bind h)) (fun y26 h A27 H28 e29 S30 => ?_) (fun _ _ h => h.elim)
      have e0 := e0.trans e29
      have eL25 := eL25.trans e29
      have h_found := up h_found e29
      refine c_bl (?_)
      refine c_if h (fun hc h => ?_) (fun hc h => ?_)
      ·
        refine s_ret ?_
        refine c_c (?_)
        exact h (A27) (H28) e0 S30 
      ·
        exact hN15 _ _ _ _ () eL25 S30 ⟨_, rfl, rfl⟩ h
    ·
      refine nx_mk ?_
      obtain ⟨y_one1, rfl, rfl⟩ := hR23
      have e0 := e0.trans e21
      have h_found := up h_found e21
      refine s_ret ?_
      refine c_c (?_)
      exact h (A17) (H18) e0 S22 
abbrev s_law_row : Stmt := topS 17
theorem sc_law_row : FnScope ["_law_found", "_law_one"] ["_law_found"] (defScope s_law_row) := ⟨rfl, rfl, rfl, by decide +kernel, rfl, by decide +kernel, by decide +kernel⟩
theorem ok_law_row {P : Program} {w : World} {K : PySem.W.Frag} {mg : Str → Option Value} {base : Heap} {T : Cs} {f : Addr} {fd : FuncData} {f_law_whole : Addr} {fd_law_whole : FuncData} (F : Fun K "_law_row" "_law_row" s_law_row f fd) (bi : Bi mg) (G_law_whole : Glob P w K mg base CX0 1 "_law_whole" ["_law_found"] (sp_law_whole T K) f_law_whole fd_law_whole)   : FnOk P w K mg base CX0 2 f fd ["_law_found"] (sp_law_row T K) := by
  refine F.ok sc_law_row (fun vs H Q E h => ?_) (fun cdv A outer s H vs Q E hr h => ⟨rd_law_row T K E, ?_, wk_law_row  h⟩)
  · obtain ⟨_, _, _, _, rfl, _⟩ := h
    rfl
  · exact (pss_cons (ps_if (pt_not (pt_val (pe_callB call_isi (by rfl) bi.isinstance boot_isinstance (pa_cons (pv 0) (pa_cons (pe_bltn (v := .ty "list") (by rfl) bi.list boot_list rfl) pa_nil))))) (pss_one (ps_ret pe_bl)) pss_nil)
      (pss_cons (ps_for PassesOwn.never rfl (pi_list (pv 0)) (pg_name (i := 1) sc_law_row.nd rfl (Or.inl rfl)) (pss_one (ps_if (pt_not (pt_val (pe_call G_law_whole.ok (hr.mono (Nat.le_of_ble_eq_true rfl)) (by rfl) G_law_whole.g G_law_whole.kp G_law_whole.b .nil pass0 (pa_cons (pv 1) pa_nil)))) (pss_one (ps_ret pe_bl)) pss_nil)))
      (pss_one (ps_ret pe_bl))))
@[irreducible] def m_law_same (x_found : (List Int)) (x_due : (List Int)) : Res Unit Bool := Res.bind (Res.noex (m_law_row x_found)) fun y1 => if y1 = true then .ok (decide (x_found = x_due)) else .ok false
def sp_law_same (T : Cs) (K : PySem.W.Frag) : Sp := fun vs H Q E => ∃ (A : Hp) (R : List Hp) (v_found : V) (x_found : (List Int)) (v_due : V) (x_due : (List Int)), vs = [v_found, v_due] ∧ St H (A :: R) ∧ Is A v_found x_found ∧ Is A v_due x_due ∧ (m_law_same x_found x_due).wp (fun y => ∀ (A' H' : Hp) , Same A A' → St H' (A' :: R) → Q (.bl y) H') (fun _ _ => False)
def rd_law_same (T : Cs) (K : PySem.W.Frag) (E : XK) : TS := (tRet (tAndV (tCall (sp_law_row T K) [] E0 (tCons (tVar 0) tNil)) (tOp (rEqD K) (tVar 0) (tVar 1))))
theorem wk_law_same {T : Cs} {K : PySem.W.Frag} {vs : List V} {H : Hp} {Q : VK} {E : XK}  (h : sp_law_same T K vs H Q E) : rd_law_same T K E { nx := fun _ H' => Q .non H', rt := Q } (L2.start ["_law_found", "_law_due"] vs) H := by
  obtain ⟨A, R, v_found, x_found, v_due, x_due, rfl, S, h_found, h_due, h⟩ := h
  unfold m_law_same at h
  unfold rd_law_same
  have e0 : Same A A := Same.refl _
  refine s_ret ?_
  refine c_andV (c_call (c_cons (c_var rfl (c_nil (⟨A, (R), v_found, x_found, rfl, S, h_found, ?_⟩)))))
  refine Res.wp_mono (Res.wp_noex (Res.wp_bind h)) (fun y1 h A2 H3 e4 S5 => ?_) (fun _ _ h => h.elim)
  have e0 := e0.trans e4
  have h_found := up h_found e4
  have h_due := up h_due e4
  refine c_bl (?_)
  refine c_if h (fun hc h => ?_) (fun hc h => ?_)
  ·
    refine c_op (c_var rfl (c_var rfl (c_eqD (α := (List Int)) (x := x_found) (y := x_due) (dp_of S5 h_found) (dp_of S5 h_due) (Nat.le_of_ble_eq_true rfl) (?_))))
    exact h (A2) (H3) e0 S5 
  ·
    exact h (A2) (H3) e0 S5 
abbrev s_law_same : Stmt := topS 18
theorem sc_law_same : FnScope ["_law_found", "_law_due"] ["_law_found", "_law_due"] (defScope s_law_same) := ⟨rfl, rfl, rfl, by decide +kernel, rfl, by decide +kernel, by decide +kernel⟩
theorem ok_law_same {P : Program} {w : World} {K : PySem.W.Frag} {mg : Str → Option Value} {base : Heap} {T : Cs} {f : Addr} {fd : FuncData} {f_law_row : Addr} {fd_law_row : FuncData} (F : Fun K "_law_same" "_law_same" s_law_same f fd) (bi : Bi mg) (G_law_row : Glob P w K mg base CX0 2 "_law_row" ["_law_found"] (sp_law_row T K) f_law_row fd_law_row)   : FnOk P w K mg base CX0 3 f fd ["_law_found", "_law_due"] (sp_law_same T K) := by
  refine F.ok sc_law_same (fun vs H Q E h => ?_) (fun cdv A outer s H vs Q E hr h => ⟨rd_law_same T K E, ?_, wk_law_same  h⟩)
  · obtain ⟨_, _, _, _, _, _, rfl, _⟩ := h
    rfl
  · exact (pss_one (ps_ret (pe_and (pe_call G_law_row.ok (hr.mono (Nat.le_of_ble_eq_true rfl)) (by rfl) G_law_row.g G_law_row.kp G_law_row.b .nil pass0 (pa_cons (pv 0) pa_nil)) (pe_one (pe_cmpR (op_eqD hr.units) (pv 0) (pv 1) (nomark _))))))
@[irreducible] def m_law_told (x_text : Str) : Res Unit ((Option (List Int)) × Int) := Res.bind (tryM (Res.bind (Res.lift (fun w => ()) (m_read_sum x_text)) fun y32 => .ok (some (y32, (-(1 : Int))).1, (y32, (-(1 : Int))).2) : Res Unit (((Option (List Int)) × Int))) (fun e9 w13 => exM e9 (fun k9 => .bad) (fun l9 => .bad) (fun n9 => .bad) (fun n9 => .ok ((none : (Option (List Int))), ((), n9).2)))) fun s26 => .ok s26
def sp_law_told (T : Cs) (K : PySem.W.Frag) : Sp := fun vs H Q E => ∃ (A : Hp) (R : List Hp) (x_text : Str), vs = [(.str x_text)] ∧ St H (A :: R) ∧ (m_law_told x_text).wp (fun y => ∀ (A' H' : Hp) (v : V), Same A A' → St H' (A' :: R) → Is A' v y → Q v H') (fun _ _ => False)
def rd_law_told (T : Cs) (K : PySem.W.Frag) (E : XK) : TS := (Evl.tCut (tTry K (fun _ _ _ _ => False) (fun W => (tAsg (tTup (tCons (tCallS (sp_read_sum T K) (WE W) (tCons (tVar 0) tNil)) (tCons (tUn (rU fun i => .int (-i)) (tC (.int 1))) tNil))) (gName 1))) [⟨[(.ref T.row)], some 2, fun a_ cls_ d_ => (tAsg (tTup (tCons (tC .non) (tCons (tXf a_ cls_ d_ T.row "at" (tVar 2)) tNil))) (gName 1))⟩]) (tRet (tVar 1)))
theorem wk_law_told {T : Cs} {K : PySem.W.Frag} {vs : List V} {H : Hp} {Q : VK} {E : XK} (XO_BadRow : XoC K T.row "at") (em : Em K T) (h : sp_law_told T K vs H Q E) : rd_law_told T K E { nx := fun _ H' => Q .non H', rt := Q } (L2.start ["_law_text", "_law_told_here", "e"] vs) H := by
  obtain ⟨A, R, x_text, rfl, S, h⟩ := h
  unfold m_law_told at h
  unfold rd_law_told
  have e0 : Same A A := Same.refl _
  refine q_try (T := T) (A := A) (fun (A_ : Hp) (σ_ : L2.St) (R_ : List Hp) (s : ((Option (List Int)) × Int)) => ∃ (w_told_here2 : V) (y_e2 : Option V), σ_ = [some (.str x_text), some w_told_here2, y_e2] ∧ R = R_ ∧ Is A_ w_told_here2 (s : ((Option (List Int)) × Int))) (fun (A_ : Hp) (σ_ : L2.St) (R_ : List Hp) (s : Unit) => ∃ (y_told_here1 : Option V), σ_ = [some (.str x_text), y_told_here1, none] ∧ R = R_) h (fun C3 CE4 W5 N6 hN7 hX8 h => ?_) (fun C3 N6 hN7 A9 B21 H10 σ11 R12 w13 ex14 cls15 d16 e17 f22 S18 hR19 hx20 h => ?_) (fun A23 H24 σ30 R25 s26 e27 S28 hR29 h => ?_)
  ·
    have eT31 : Same A A := Same.refl _
    refine s_asg ?_
    refine c_ttup (c_cons (c_callS (c_cons (c_var rfl (c_nil (⟨A, (R), x_text, rfl, S, ?_⟩))))))
    refine Res.wp_mono (Res.wp_lift (Res.wp_bind h)) (fun y32 h A33 H34 p37 ws38 e35 S36 h39 => ?_) (fun e w he AX BX HX  cls d eX fX SX  hx => by
        exact hX8 _ _ _ _ _ () e cls d (eT31.trans eX) fX SX ⟨_, rfl, rfl⟩ hx he)
    have e0 := e0.trans e35
    have eT31 := eT31.trans e35
    have h41 := frz_is h39 S36
    have S42 := S36.frz
    have e40 := same_join_l (A := A33) (B := (one p37 (.lst ws38)))
    generalize hjA43 : join A33 (one p37 (.lst ws38)) = A43 at h41 S42 e40
    clear hjA43
    have e0 := e0.trans e40
    have eT31 := eT31.trans e40
    refine c_cons (c_un (c_c (c_U (c_nil (c_tup (α := (List Int)) (β := Int) (x := y32) (y := (-(1 : Int))) S42 h41 rfl fun p44 A45 H46 e47 S48 h49 => ?_)))))
    have e0 := e0.trans e47
    have eT31 := eT31.trans e47
    have h50 := some_pair h49
    exact hN7 _ _ _ _ (some (y32, (-(1 : Int))).1, (y32, (-(1 : Int))).2) eT31 S48 ⟨(.ref p44), _, rfl, rfl, h50⟩ h
  ·
    have eT51 : Same A A := Same.refl _
    obtain ⟨y_told_here1, rfl, rfl⟩ := hR19
    have e0 := e0.trans e17
    have eT51 := eT51.trans e17
    refine exM_by hx20 h (fun k9 hc hd h => ?_) (fun l9 dd9 q9 vs9 hc hd hb9 hn9 hq9 hl9 h => ?_) (fun n9 dd9 hc hd hb9 h => ?_) (fun n9 dd9 hc hd hb9 h => ?_)
    ·
      obtain rfl := hc
      obtain rfl := hd
      exact h.elim
    ·
      exact h.elim
    ·
      exact h.elim
    ·
      obtain rfl := hc
      obtain rfl := hd
      have e0 := e0.trans f22
      have eT51 := eT51.trans f22
      refine cl_yesA (ex_1 em.f_BadRow_BadRow) fun a52 hz53 => ?_
      refine s_asg ?_
      refine c_ttup (c_cons (c_c (c_cons (?_))))
      refine c_xf (c_var rfl ⟨rfl, S18.1 _ _ hb9, ?_⟩) mono_var
      refine c_nil (c_tup (α := Unit) (β := Int) (x := ()) (y := n9) S18 rfl rfl fun p54 A55 H56 e57 S58 h59 => ?_)
      have e0 := e0.trans e57
      have eT51 := eT51.trans e57
      have h60 := none_pair (α := (List Int)) h59
      exact hN7 _ _ _ _ ((none : (Option (List Int))), ((), n9).2) eT51 S58 ⟨(.ref p54), _, rfl, rfl, h60⟩ h
  ·
    obtain ⟨w_told_here2, y_e2, rfl, rfl, h61⟩ := hR29
    have e0 := e0.trans e27
    refine s_ret ?_
    refine c_var rfl (?_)
    exact h (A23) (H24) (w_told_here2) e0 S28 h61
abbrev s_law_told : Stmt := topS 21
theorem sc_law_told : FnScope ["_law_text", "_law_told_here", "e"] ["_law_text"] (defScope s_law_told) := ⟨rfl, rfl, rfl, by decide +kernel, rfl, by decide +kernel, by decide +kernel⟩
theorem ok_law_told {P : Program} {w : World} {K : PySem.W.Frag} {mg : Str → Option Value} {base : Heap} {T : Cs} {f : Addr} {fd : FuncData} {f_read_sum : Addr} {fd_read_sum : FuncData} (F : Fun K "_law_told" "_law_told" s_law_told f fd) (bi : Bi mg) (G_read_sum : Glob P w K mg base (L2.CX P w) 5 "read_sum" ["line"] (sp_read_sum T K) f_read_sum fd_read_sum)  (XO_BadRow : XoC K T.row "at") (em : Em K T) (XG_BadRow : mg "BadRow" = some (.ref T.row)) : FnOk P w K mg base CX0 6 f fd ["_law_text"] (sp_law_told T K) := by
  refine F.ok sc_law_told (fun vs H Q E h => ?_) (fun cdv A outer s H vs Q E hr h => ⟨rd_law_told T K E, ?_, wk_law_told XO_BadRow em h⟩)
  · obtain ⟨_, _, _, rfl, _⟩ := h
    rfl
  · exact (Evl.pss_cut (ps_tryT rfl rfl takes_none5 (fun W pn xe tk _ => (pss_one (ps_set (i := 1) sc_law_told.nd rfl (Or.inl rfl) (pe_tup (pa_cons (pe_callS G_read_sum.ok (hr.mono (Nat.le_of_ble_eq_true rfl)) (by rfl) G_read_sum.g G_read_sum.kp G_read_sum.b (fun σ => passAt tk σ) (pa_cons (pv 0) pa_nil)) (pa_cons (pe_un un_neg pe_int) pa_nil)))))) (ClOk.as sc_law_told.nd rfl rfl ⟨rfl, by decide, .inl XG_BadRow⟩ (fun a oe cls d pn hz hf => (pss_one (ps_set (i := 1) sc_law_told.nd rfl (Or.inl rfl) (pe_tup (pa_cons pe_non (pa_cons (pe_xf XO_BadRow.xf XO_BadRow.no hz hf (pv 2)) pa_nil)))))) ClOk.nil))
      (pss_one (ps_ret (pv 1))))
@[irreducible] def m_law_spoilt (x_bag_here : Bag) (x_text : Str) : Res Bag (Str × Bag) := Res.bind (Res.noex (m_law_pull x_bag_here (5 : Int))) fun y10 => if (decide (y10.1 = (0 : Int))) = true then Res.bind (Res.noex (m_law_pull y10.2 ([("" : Str), ("+" : Str), ("--" : Str), ("0+" : Str), ("-0" : Str), ("00" : Str), ("1+1" : Str), ("2+1" : Str), (" 1" : Str), ("1 " : Str), ("0+01" : Str), ("1234567890" : Str), ("1 +2" : Str), ("+1" : Str), ("_1" : Str), ("1_0" : Str)].length : Int))) fun y17 => Res.bind (ixR [("" : Str), ("+" : Str), ("--" : Str), ("0+" : Str), ("-0" : Str), ("00" : Str), ("1+1" : Str), ("2+1" : Str), (" 1" : Str), ("1 " : Str), ("0+01" : Str), ("1234567890" : Str), ("1 +2" : Str), ("+1" : Str), ("_1" : Str), ("1_0" : Str)] y17.1) fun t24 => .ok (t24, y17.2) else Res.bind (lenSR x_text) fun t27 => Res.bind (Res.noex (m_law_pull y10.2 (t27 + (1 : Int)))) fun y28 => Res.bind (Res.noex (m_law_pull y28.2 (18 : Int))) fun y35 => Res.bind (ixSR ("0123456789+- ,ax_." : Str) y35.1) fun t42 => if (decide (y10.1 = (1 : Int))) = true then Res.bind (cutSR x_text none (some y28.1)) fun t43 => Res.bind (cutSR x_text (some (y28.1 + (1 : Int))) none) fun t44 => Res.bind (addSR t43 t44) fun t45 => .ok (t45, y35.2) else if (decide (y10.1 = (2 : Int))) = true then Res.bind (cutSR x_text none (some y28.1)) fun t46 => Res.bind (addSR t46 (Chr.s t42)) fun t47 => Res.bind (cutSR x_text (some (y28.1 + (1 : Int))) none) fun t48 => Res.bind (addSR t47 t48) fun t49 => .ok (t49, y35.2) else Res.bind (cutSR x_text none (some y28.1)) fun t50 => Res.bind (addSR t50 (Chr.s t42)) fun t51 => Res.bind (cutSR x_text (some y28.1) none) fun t52 => Res.bind (addSR t51 t52) fun t53 => .ok (t53, y35.2)
def sp_law_spoilt (T : Cs) (K : PySem.W.Frag) : Sp := fun vs H Q E => ∃ (A : Hp) (R : List Hp) (m_bag_here : Hp) (v_bag_here : V) (x_bag_here : Bag) (x_text : Str), vs = [v_bag_here, (.str x_text)] ∧ St H (A :: m_bag_here :: R) ∧ Ob.isAt T A m_bag_here v_bag_here x_bag_here ∧ (m_law_spoilt x_bag_here x_text).wp (fun y => ∀ (A' H' : Hp) (m0 : Hp), Same A A' → St H' (A' :: m0 :: R) → Ob.isAt T A' m0 v_bag_here y.2 → Q (.str y.1) H') (fun _ _ => False)
def rd_law_spoilt (T : Cs) (K : PySem.W.Frag) (E : XK) : TS := (tSeq (tAsg (tLst (tCons (tC (.str "")) (tCons (tC (.str "+")) (tCons (tC (.str "--")) (tCons (tC (.str "0+")) (tCons (tC (.str "-0")) (tCons (tC (.str "00")) (tCons (tC (.str "1+1")) (tCons (tC (.str "2+1")) (tCons (tC (.str " 1")) (tCons (tC (.str "1 ")) (tCons (tC (.str "0+01")) (tCons (tC (.str "1234567890")) (tCons (tC (.str "1 +2")) (tCons (tC (.str "+1")) (tCons (tC (.str "_1")) (tCons (tC (.str "1_0")) tNil))))))))))))))))) (gName 2)) (tSeq (tAsg (tCall (sp_law_pull T K) [] E0 (tCons (tVar 0) (tCons (tC (.int 5)) tNil))) (gName 3)) (tSeq (tIfS (tTest (tOp rEq (tVar 3) (tC (.int 0)))) (tRet (tOp (rIxL K) (tVar 2) (tCall (sp_law_pull T K) [] E0 (tCons (tVar 0) (tCons (tCB (Evl.rLenS K) (tCons (tVar 2) tNil)) tNil))))) tNext) (tSeq (tAsg (tCall (sp_law_pull T K) [] E0 (tCons (tVar 0) (tCons (tOp (rI0 fun i j => .int (i + j)) (tCB rLenStr (tCons (tVar 1) tNil)) (tC (.int 1))) tNil))) (gName 4)) (tSeq (tAsg (tOp rIxS (tC (.str "0123456789+- ,ax_.")) (tCall (sp_law_pull T K) [] E0 (tCons (tVar 0) (tCons (tC (.int 18)) tNil)))) (gName 5)) (tSeq (tIfS (tTest (tOp rEq (tVar 3) (tC (.int 1)))) (tRet (tOp rAddStr (tSl rSlS (tVar 1) tNoPart (tPart (tVar 4))) (tSl rSlS (tVar 1) (tPart (tOp (rI0 fun i j => .int (i + j)) (tVar 4) (tC (.int 1)))) tNoPart))) tNext) (tSeq (tIfS (tTest (tOp rEq (tVar 3) (tC (.int 2)))) (tRet (tOp rAddStr (tOp rAddStr (tSl rSlS (tVar 1) tNoPart (tPart (tVar 4))) (tVar 5)) (tSl rSlS (tVar 1) (tPart (tOp (rI0 fun i j => .int (i + j)) (tVar 4) (tC (.int 1)))) tNoPart))) tNext) (tRet (tOp rAddStr (tOp rAddStr (tSl rSlS (tVar 1) tNoPart (tPart (tVar 4))) (tVar 5)) (tSl rSlS (tVar 1) (tPart (tVar 4)) tNoPart))))))))))
theorem wk_law_spoilt {T : Cs} {K : PySem.W.Frag} {vs : List V} {H : Hp} {Q : VK} {E : XK}  (h : sp_law_spoilt T K vs H Q E) : rd_law_spoilt T K E { nx := fun _ H' => Q .non H', rt := Q } (L2.start ["_law_bag_here", "_law_text", "_law_odd", "_law_way", "_law_at", "_law_sign"] vs) H := by
  obtain ⟨A, R, m_bag_here, v_bag_here, x_bag_here, x_text, rfl, S, h_bag_here, h⟩ := h
  unfold m_law_spoilt at h
  unfold rd_law_spoilt
  have e0 : Same A A := Same.refl _
  refine q_asg ?_
  refine c_tlst (c_cons (c_c (c_cons (c_c (c_cons (c_c (c_cons (c_c (c_cons (c_c (c_cons (c_c (c_cons (c_c (c_cons (c_c (c_cons (c_c (c_cons (c_c (c_cons (c_c (c_cons (c_c (c_cons (c_c (c_cons (c_c (c_cons (c_c (c_cons (c_c (c_nil (c_lst (α := Str) (vs := [(.str ""), (.str "+"), (.str "--"), (.str "0+"), (.str "-0"), (.str "00"), (.str "1+1"), (.str "2+1"), (.str " 1"), (.str "1 "), (.str "0+01"), (.str "1234567890"), (.str "1 +2"), (.str "+1"), (.str "_1"), (.str "1_0")]) (xs := [("" : Str), ("+" : Str), ("--" : Str), ("0+" : Str), ("-0" : Str), ("00" : Str), ("1+1" : Str), ("2+1" : Str), (" 1" : Str), ("1 " : Str), ("0+01" : Str), ("1234567890" : Str), ("1 +2" : Str), ("+1" : Str), ("_1" : Str), ("1_0" : Str)]) (Nat.le_of_ble_eq_true rfl) ⟨rfl, ⟨rfl, ⟨rfl, ⟨rfl, ⟨rfl, ⟨rfl, ⟨rfl, ⟨rfl, ⟨rfl, ⟨rfl, ⟨rfl, ⟨rfl, ⟨rfl, ⟨rfl, ⟨rfl, ⟨rfl, trivial⟩⟩⟩⟩⟩⟩⟩⟩⟩⟩⟩⟩⟩⟩⟩⟩ (ow S fun p1 ws2 H3 S4 h5 => ?_)))))))))))))))))))))))))))))))))))
  have h7 := frz_is h5 S4
  have S8 := S4.frz
  have e6 := same_join_l (A := A) (B := (one p1 (.lst ws2)))
  generalize hjA9 : join A (one p1 (.lst ws2)) = A9 at h7 S8 e6
  clear hjA9
  have e0 := e0.trans e6
  have h_bag_here := upO h_bag_here e6
  refine q_asg ?_
  refine c_call (c_cons (c_var rfl (c_cons (c_c (c_nil (⟨A9, (R), m_bag_here, v_bag_here, x_bag_here, (5 : Int), rfl, S8, h_bag_here, ?_⟩))))))
  refine Res.wp_mono (Res.wp_noex (Res.wp_bind h)) (fun y10 h A11 H12 m16 e13 S14 h15 => ?_) (fun _ _ h => h.elim)
  have e0 := e0.trans e13
  have h7 := up h7 e13
  refine q_when ?_
  refine c_tst (c_op (c_var rfl (c_c (c_eqI (c_bl (?_))))))
  refine c_if h (fun hc h => ?_) (fun hc h => ?_)
  ·
    refine s_ret ?_
    refine c_op (c_var rfl (c_call (c_cons (c_var rfl (c_cons (c_cb (c_cons (c_var rfl (c_nil (c_len (la_of S14 h7) (c_nil (⟨A11, (R), m16, v_bag_here, y10.2, ([("" : Str), ("+" : Str), ("--" : Str), ("0+" : Str), ("-0" : Str), ("00" : Str), ("1+1" : Str), ("2+1" : Str), (" 1" : Str), ("1 " : Str), ("0+01" : Str), ("1234567890" : Str), ("1 +2" : Str), ("+1" : Str), ("_1" : Str), ("1_0" : Str)].length : Int), rfl, S14, h15, ?_⟩))))))))))))
    refine Res.wp_mono (Res.wp_noex (Res.wp_bind h)) (fun y17 h A18 H19 m23 e20 S21 h22 => ?_) (fun _ _ h => h.elim)
    have e0 := e0.trans e20
    have h7 := up h7 e20
    refine c_ix (la_of S21 h7) h fun t24 w25 h26 h => ?_
    obtain rfl : w25 = (.str t24) := h26
    exact h (A18) (H19) (m23) e0 S21 h22
  ·
    refine q_asg ?_
    refine c_call (c_cons (c_var rfl (c_cons (c_op (c_cb (c_cons (c_var rfl (c_nil (c_lenS h fun t27 h => ?_)))))))))
    refine c_c (c_I0 (c_nil (⟨A11, (R), m16, v_bag_here, y10.2, (t27 + (1 : Int)), rfl, S14, h15, ?_⟩)))
    refine Res.wp_mono (Res.wp_noex (Res.wp_bind h)) (fun y28 h A29 H30 m34 e31 S32 h33 => ?_) (fun _ _ h => h.elim)
    have e0 := e0.trans e31
    have h7 := up h7 e31
    refine q_asg ?_
    refine c_op (c_c (c_call (c_cons (c_var rfl (c_cons (c_c (c_nil (⟨A29, (R), m34, v_bag_here, y28.2, (18 : Int), rfl, S32, h33, ?_⟩))))))))
    refine Res.wp_mono (Res.wp_noex (Res.wp_bind h)) (fun y35 h A36 H37 m41 e38 S39 h40 => ?_) (fun _ _ h => h.elim)
    have e0 := e0.trans e38
    have h7 := up h7 e38
    refine c_ixS h fun t42 h => ?_
    refine q_when ?_
    refine c_tst (c_op (c_var rfl (c_c (c_eqI (c_bl (?_))))))
    refine c_if h (fun hc h => ?_) (fun hc h => ?_)
    ·
      refine s_ret ?_
      refine c_op (c_sl (c_var rfl (c_nopart (c_part (c_var rfl (c_int (c_cutS h fun t43 h => ?_)))))))
      refine c_sl (c_var rfl (c_part (c_op (c_var rfl (c_c (c_I0 (c_int (c_nopart (c_cutS h fun t44 h => ?_)))))))))
      refine c_addS h fun t45 h => ?_
      exact h (A36) (H37) (m41) e0 S39 h40
    ·
      refine q_when ?_
      refine c_tst (c_op (c_var rfl (c_c (c_eqI (c_bl (?_))))))
      refine c_if h (fun hc h => ?_) (fun hc h => ?_)
      ·
        refine s_ret ?_
        refine c_op (c_op (c_sl (c_var rfl (c_nopart (c_part (c_var rfl (c_int (c_cutS h fun t46 h => ?_))))))))
        refine c_var rfl (c_addS h fun t47 h => ?_)
        refine c_sl (c_var rfl (c_part (c_op (c_var rfl (c_c (c_I0 (c_int (c_nopart (c_cutS h fun t48 h => ?_)))))))))
        refine c_addS h fun t49 h => ?_
        exact h (A36) (H37) (m41) e0 S39 h40
      ·
        refine s_ret ?_
        refine c_op (c_op (c_sl (c_var rfl (c_nopart (c_part (c_var rfl (c_int (c_cutS h fun t50 h => ?_))))))))
        refine c_var rfl (c_addS h fun t51 h => ?_)
        refine c_sl (c_var rfl (c_part (c_var rfl (c_int (c_nopart (c_cutS h fun t52 h => ?_))))))
        refine c_addS h fun t53 h => ?_
        exact h (A36) (H37) (m41) e0 S39 h40
abbrev s_law_spoilt : Stmt := topS 22
theorem sc_law_spoilt : FnScope ["_law_bag_here", "_law_text", "_law_odd", "_law_way", "_law_at", "_law_sign"] ["_law_bag_here", "_law_text"] (defScope s_law_spoilt) := ⟨rfl, rfl, rfl, by decide +kernel, rfl, by decide +kernel, by decide +kernel⟩
theorem ok_law_spoilt {P : Program} {w : World} {K : PySem.W.Frag} {mg : Str → Option Value} {base : Heap} {T : Cs} {f : Addr} {fd : FuncData} {f_law_pull : Addr} {fd_law_pull : FuncData} (F : Fun K "_law_spoilt" "_law_spoilt" s_law_spoilt f fd) (bi : Bi mg) (G_law_pull : Glob P w K mg base CX0 1 "_law_pull" ["_law_bag_here", "_law_many"] (sp_law_pull T K) f_law_pull fd_law_pull)   : FnOk P w K mg base CX0 2 f fd ["_law_bag_here", "_law_text"] (sp_law_spoilt T K) := by
  refine F.ok sc_law_spoilt (fun vs H Q E h => ?_) (fun cdv A outer s H vs Q E hr h => ⟨rd_law_spoilt T K E, ?_, wk_law_spoilt  h⟩)
  · obtain ⟨_, _, _, _, _, _, rfl, _⟩ := h
    rfl
  · exact (pss_cons (ps_set (i := 2) sc_law_spoilt.nd rfl (Or.inl rfl) (pe_lst (pa_cons pe_str (pa_cons pe_str (pa_cons pe_str (pa_cons pe_str (pa_cons pe_str (pa_cons pe_str (pa_cons pe_str (pa_cons pe_str (pa_cons pe_str (pa_cons pe_str (pa_cons pe_str (pa_cons pe_str (pa_cons pe_str (pa_cons pe_str (pa_cons pe_str (pa_cons pe_str pa_nil))))))))))))))))))
      (pss_cons (ps_set (i := 3) sc_law_spoilt.nd rfl (Or.inl rfl) (pe_call G_law_pull.ok (hr.mono (Nat.le_of_ble_eq_true rfl)) (by rfl) G_law_pull.g G_law_pull.kp G_law_pull.b .nil pass0 (pa_cons (pv 0) (pa_cons pe_int pa_nil))))
      (pss_cons (ps_if (pt_cmpR op_eq (pv 3) pe_int (nomark _)) (pss_one (ps_ret (pe_ix ix_list (pv 2) (pe_call G_law_pull.ok (hr.mono (Nat.le_of_ble_eq_true rfl)) (by rfl) G_law_pull.g G_law_pull.kp G_law_pull.b .nil pass0 (pa_cons (pv 0) (pa_cons (pe_callB call_len_seq (by rfl) bi.len PySem.boot_len (pa_cons (pv 2) pa_nil)) pa_nil))) (fun _ _ => rfl)))) pss_nil)
      (pss_cons (ps_set (i := 4) sc_law_spoilt.nd rfl (Or.inl rfl) (pe_call G_law_pull.ok (hr.mono (Nat.le_of_ble_eq_true rfl)) (by rfl) G_law_pull.g G_law_pull.kp G_law_pull.b .nil pass0 (pa_cons (pv 0) (pa_cons (pe_op op_add (pe_callB call_len_str (by rfl) bi.len PySem.boot_len (pa_cons (pv 1) pa_nil)) pe_int) pa_nil))))
      (pss_cons (ps_set (i := 5) sc_law_spoilt.nd rfl (Or.inl rfl) (pe_ix ix_str pe_str (pe_call G_law_pull.ok (hr.mono (Nat.le_of_ble_eq_true rfl)) (by rfl) G_law_pull.g G_law_pull.kp G_law_pull.b .nil pass0 (pa_cons (pv 0) (pa_cons pe_int pa_nil))) (fun _ _ => rfl)))
      (pss_cons (ps_if (pt_cmpR op_eq (pv 3) pe_int (nomark _)) (pss_one (ps_ret (pe_op op_add_str (pe_slice sl_str (pv 1) po_none (po_some (pv 4))) (pe_slice sl_str (pv 1) (po_some (pe_op op_add (pv 4) pe_int)) po_none)))) pss_nil)
      (pss_cons (ps_if (pt_cmpR op_eq (pv 3) pe_int (nomark _)) (pss_one (ps_ret (pe_op op_add_str (pe_op op_add_str (pe_slice sl_str (pv 1) po_none (po_some (pv 4))) (pv 5)) (pe_slice sl_str (pv 1) (po_some (pe_op op_add (pv 4) pe_int)) po_none)))) pss_nil)
      (pss_one (ps_ret (pe_op op_add_str (pe_op op_add_str (pe_slice sl_str (pv 1) po_none (po_some (pv 4))) (pv 5)) (pe_slice sl_str (pv 1) (po_some (pv 4)) po_none)))))))))))
@[irreducible] def m_law_rising (x_row_here : (List Int)) : Res Unit Bool := Res.bind (Res.bind (rgR (1 : Int) (x_row_here.length : Int)) fun l => forM (β := Bool) (fun z2 (s7 : Unit) => Res.bind (ixR x_row_here (z2 - (1 : Int))) fun t26 => Res.bind (ixR x_row_here z2) fun t27 => if (decide (t27 ≤ t26)) = true then .ok (.ret (false)) else .ok (.next ())) l ()) fun r28 => (match r28 with | .next s20 => .ok true | .ret y29 => .ok y29)
def sp_law_rising (T : Cs) (K : PySem.W.Frag) : Sp := fun vs H Q E => ∃ (A : Hp) (R : List Hp) (v_row_here : V) (x_row_here : (List Int)), vs = [v_row_here] ∧ St H (A :: R) ∧ Is A v_row_here x_row_here ∧ (m_law_rising x_row_here).wp (fun y => ∀ (A' H' : Hp) , Same A A' → St H' (A' :: R) → Q (.bl y) H') (fun _ _ => False)
def rd_law_rising (T : Cs) (K : PySem.W.Frag) (E : XK) : TS := (tSeq (tFor (iRng2 (tCons (tC (.int 1)) (tCons (tCB (Evl.rLenS K) (tCons (tVar 0) tNil)) tNil))) (gName 1) (tIfS (tTest (tOp (rI0 fun i j => .bl (decide (j ≤ i))) (tOp (rIxL K) (tVar 0) (tOp (rI0 fun i j => .int (i - j)) (tVar 1) (tC (.int 1)))) (tOp (rIxL K) (tVar 0) (tVar 1)))) (tRet (tC (.bl false))) tNext)) (tRet (tC (.bl true))))
theorem wk_law_rising {T : Cs} {K : PySem.W.Frag} {vs : List V} {H : Hp} {Q : VK} {E : XK}  (h : sp_law_rising T K vs H Q E) : rd_law_rising T K E { nx := fun _ H' => Q .non H', rt := Q } (L2.start ["_law_row_here", "_law_k"] vs) H := by
  obtain ⟨A, R, v_row_here, x_row_here, rfl, S, h_row_here, h⟩ := h
  unfold m_law_rising at h
  unfold rd_law_rising
  have e0 : Same A A := Same.refl _
  refine q_forR2 ?_
  refine c_cons (c_c (c_cons (c_cb (c_cons (c_var rfl (c_nil (c_len (la_of S h_row_here) (c_nil (?_)))))))))
  refine c_forR2 (A := A) (s0 := ()) (fun (A_ : Hp) (σ_ : L2.St) (R_ : List Hp) (s : Unit) => ∃ (y_k1 : Option V), σ_ = [some v_row_here, y_k1] ∧ R = R_) S (fun Q' q => q) ⟨_, rfl, rfl⟩ h (fun z2 A4 H5 σ16 R6 s7 C8 N9 hz10a hz10b e11 S12 hR14 hN15 h => ?_) (fun A17 H18 σ24 R19 s20 e21 S22 hR23 h => ?_)
  ·
    have eL25 : Same A A := Same.refl _
    obtain ⟨y_k1, rfl, rfl⟩ := hR14
    have e0 := e0.trans e11
    have eL25 := eL25.trans e11
    have h_row_here := up h_row_here e11
    refine s_when ?_
    refine c_tst (c_op (c_op (c_var rfl (c_op (c_var rfl (c_c (c_I0 (c_ixI (la_of S12 h_row_here) h fun t26 h => ?_))))))))
    refine c_op (c_var rfl (c_var rfl (c_ixI (la_of S12 h_row_here) h fun t27 h => ?_)))
    refine c_I0 (c_bl (?_))
    refine c_if h (fun hc h => ?_) (fun hc h => ?_)
    ·
      refine s_ret ?_
      refine c_c (?_)
      exact h (A4) (H5) e0 S12 
    ·
      exact hN15 _ _ _ _ () eL25 S12 ⟨_, rfl, rfl⟩ h
  ·
    refine nx_mk ?_
    obtain ⟨y_k1, rfl, rfl⟩ := hR23
    have e0 := e0.trans e21
    have h_row_here := up h_row_here e21
    refine s_ret ?_
    refine c_c (?_)
    exact h (A17) (H18) e0 S22 
abbrev s_law_rising : Stmt := topS 14
theorem sc_law_rising : FnScope ["_law_row_here", "_law_k"] ["_law_row_here"] (defScope s_law_rising) := ⟨rfl, rfl, rfl, by decide +kernel, rfl, by decide +kernel, by decide +kernel⟩
theorem ok_law_rising {P : Program} {w : World} {K : PySem.W.Frag} {mg : Str → Option Value} {base : Heap} {T : Cs} {f : Addr} {fd : FuncData}  (F : Fun K "_law_rising" "_law_rising" s_law_rising f fd) (bi : Bi mg)    : FnOk P w K mg base CX0 1 f fd ["_law_row_here"] (sp_law_rising T K) := by
  refine F.ok sc_law_rising (fun vs H Q E h => ?_) (fun cdv A outer s H vs Q E hr h => ⟨rd_law_rising T K E, ?_, wk_law_rising  h⟩)
  · obtain ⟨_, _, _, _, rfl, _⟩ := h
    rfl
  · exact (pss_cons (ps_for PassesOwn.never rfl (pi_range2 (by rfl) bi.range (pa_cons pe_int (pa_cons (pe_callB call_len_seq (by rfl) bi.len PySem.boot_len (pa_cons (pv 0) pa_nil)) pa_nil))) (pg_name (i := 1) sc_law_rising.nd rfl (Or.inl rfl)) (pss_one (ps_if (pt_cmpR op_ge (pe_ix ix_list (pv 0) (pe_op op_sub (pv 1) pe_int) (fun _ _ => rfl)) (pe_ix ix_list (pv 0) (pv 1) (fun _ _ => rfl)) (nomark _)) (pss_one (ps_ret pe_bl)) pss_nil)))
      (pss_one (ps_ret pe_bl)))
@[irreducible] def m_law_read_s1 (x_row_here : (List Int)) : Res Unit (Option (List Int)) := Res.bind (Res.noex (m_law_rising x_row_here)) fun y130 => if (!y130) = true then .ok (none : (Option (List Int))) else .ok (some x_row_here)
@[irreducible] def m_law_read (x_text : Str) : Res Unit (Option (List Int)) := if (decide (x_text = ("-" : Str))) = true then .ok (some ([] : List Int)) else Res.bind (splitSR x_text ("+" : Str)) fun t16 => Res.bind (forM (β := (Option (List Int))) (fun z27 (s32 : (List Int)) => Res.bind (orR (decide (z27 = ("" : Str))) (Res.bind (lenSR z27) fun t60 => orR (decide ((9 : Int) < t60)) (Res.bind (Res.bind (strR z27) fun l => .ok ((l.filter (fun z61 => (!(decide (z61.c ∈ (Str.cps ("0123456789" : Str)).toList))))).map (fun z61 => z61))) fun t91 => .ok (!decide (t91.length = 0))))) fun b52 => if b52 = true then .ok (.ret ((none : (Option (List Int))))) else Res.bind (Res.bind (ixSR z27 (0 : Int)) fun t117 => andR (decide ((Chr.s t117) = ("0" : Str))) (.ok (!(decide (z27 = ("0" : Str)))))) fun b109 => if b109 = true then .ok (.ret ((none : (Option (List Int))))) else Res.bind (intSR z27) fun t120 => Res.bind (appR s32 t120) fun t121 => .ok (.next t121)) t16 ([] : List Int)) fun r145 => (match r145 with | .next s45 => m_law_read_s1 s45 | .ret y146 => .ok y146)
def sp_law_read (T : Cs) (K : PySem.W.Frag) : Sp := fun vs H Q E => ∃ (A : Hp) (R : List Hp) (x_text : Str), vs = [(.str x_text)] ∧ St H (A :: R) ∧ (m_law_read x_text).wp (fun y => ∀ (A' H' : Hp) (v : V), Same A A' → St H' (A' :: R) → Is A' v y → Q v H') (fun _ _ => False)
def rd_law_read_s1 (T : Cs) (K : PySem.W.Frag) (E : XK) : TS := (tSeq (tIfS (tNot (tB (tCall (sp_law_rising T K) [] E0 (tCons (tVar 1) tNil)))) (tRet (tC .non)) tNext) (tRet (tVar 1)))
def rd_law_read (T : Cs) (K : PySem.W.Frag) (E : XK) : TS := (tSeq (tIfS (tTest (tOp rEq (tVar 0) (tC (.str "-")))) (tRet (tLst tNil)) tNext) (tSeq (tAsg (tLst tNil) (gName 1)) (tSeq (tFor (iList K (tM1 rSplitStr (tVar 0) (tC (.str "+")))) (gName 2) (tSeq (tIfS (tOr (tTest (tOp rEq (tVar 2) (tC (.str "")))) (tOr (tTest (tOp (rI0 fun i j => .bl (decide (j < i))) (tCB rLenStr (tCons (tVar 2) tNil)) (tC (.int 9)))) (tTest (tOp (rNeNil K) (tLc (iStr (tVar 2)) (gName 3) (tTest (tOp rNotInS (tVar 3) (tC (.str "0123456789")))) (tVar 3) [3]) (tLst tNil))))) (tRet (tC .non)) tNext) (tSeq (tIfS (tAnd (tTest (tOp rEq (tOp rIxS (tVar 2) (tC (.int 0))) (tC (.str "0")))) (tTest (tOp rNe (tVar 2) (tC (.str "0"))))) (tRet (tC .non)) tNext) (tDrop (tBM K "list" rAppend (tVar 1) (tCons (tCB rIntStr (tCons (tVar 2) tNil)) tNil)))))) (rd_law_read_s1 T K E))))
theorem wk_law_read_s1 {T : Cs} {K : PySem.W.Frag} {A AS HS : Hp} {R : List Hp} {Q : VK} {E : XK} {x_row_here : (List Int)} {p_row_here : Addr} {ws_row_here : List V} {o0 : Option V} {o2 : Option V} {o3 : Option V}  (e0 : Same A AS) (S : St HS (AS :: (one p_row_here (.lst ws_row_here)) :: R)) (h_row_here : OL AS ws_row_here x_row_here) (h : (m_law_read_s1 x_row_here).wp (fun y => ∀ (A' H' : Hp) (v : V), Same A A' → St H' (A' :: R) → Is A' v y → Q v H') (fun _ _ => False)) : rd_law_read_s1 T K E { nx := fun _ H' => Q .non H', rt := Q } [o0, some (.ref p_row_here), o2, o3] HS := by
  unfold m_law_read_s1 at h
  unfold rd_law_read_s1
  refine q_when ?_
  have h129 := frz_is h_row_here S
  have S127 := S.frz
  have e128 := same_join_l (A := AS) (B := (one p_row_here (.lst ws_row_here)))
  refine c_not (b := true) (c_tb (c_call (c_cons (c_var rfl (c_nil (⟨(join AS (one p_row_here (.lst ws_row_here))), (R), (.ref p_row_here), x_row_here, rfl, S127, h129, ?_⟩))))))
  refine Res.wp_mono (Res.wp_noex (Res.wp_bind h)) (fun y130 h A131 H132 e133 S134 => ?_) (fun _ _ h => h.elim)
  have S135 := S134.back1 ((same_join_r S.dj).trans e133)
  have e136 := same_minus S e133
  generalize minus A131 (one p_row_here (.lst ws_row_here)) = A137 at S135 e136
  have e0 := e0.trans e136
  have h_row_here := OL.up h_row_here e136
  refine c_bl (?_)
  refine c_if h (fun hc h => ?_) (fun hc h => ?_)
  ·
    refine s_ret ?_
    refine c_c (?_)
    have h138 : Is A137 .non (none : (Option (List Int))) := rfl
    have S139 : St H132 (A137 :: R) := S135.drop 0 (Nat.le_of_ble_eq_true rfl)
    exact h (A137) (H132) (.non) e0 S139 h138
  ·
    refine s_ret ?_
    refine c_var rfl (?_)
    have h142 := frz_is h_row_here S135
    have S143 := S135.frz
    have e141 := same_join_l (A := A137) (B := (one p_row_here (.lst ws_row_here)))
    generalize hjA144 : join A137 (one p_row_here (.lst ws_row_here)) = A144 at h142 S143 e141
    clear hjA144
    have e0 := e0.trans e141
    have h140 := opt_any h142
    exact h (A144) (H132) ((.ref p_row_here)) e0 S143 h140
theorem wk_law_read {T : Cs} {K : PySem.W.Frag} {vs : List V} {H : Hp} {Q : VK} {E : XK}  (h : sp_law_read T K vs H Q E) : rd_law_read T K E { nx := fun _ H' => Q .non H', rt := Q } (L2.start ["_law_text", "_law_row_here", "_law_word", "_law_x"] vs) H := by
  obtain ⟨A, R, x_text, rfl, S, h⟩ := h
  unfold m_law_read at h
  unfold rd_law_read
  have e0 : Same A A := Same.refl _
  refine q_when ?_
  refine c_tst (c_op (c_var rfl (c_c (c_eqS (c_bl (?_))))))
  refine c_if h (fun hc h => ?_) (fun hc h => ?_)
  ·
    refine s_ret ?_
    refine c_tlst (c_nil (c_lst (α := Int) (vs := []) (xs := []) (Nat.le_of_ble_eq_true rfl) trivial (ow S fun p1 ws2 H3 S4 h5 => ?_)))
    have h8 := frz_is h5 S4
    have S9 := S4.frz
    have e7 := same_join_l (A := A) (B := (one p1 (.lst ws2)))
    generalize hjA10 : join A (one p1 (.lst ws2)) = A10 at h8 S9 e7
    clear hjA10
    have e0 := e0.trans e7
    have h6 := opt_any h8
    exact h (A10) (H3) ((.ref p1)) e0 S9 h6
  ·
    refine q_asg ?_
    refine c_tlst (c_nil (c_lst (α := Int) (vs := []) (xs := []) (Nat.le_of_ble_eq_true rfl) trivial (ow S fun p11 ws12 H13 S14 h15 => ?_)))
    refine q_forL ?_
    refine c_tm1 (c_var rfl (c_and2 ⟨_, rfl⟩ (c_c (c_splitS h fun t16 h => (ow S14 fun p17 ws18 H19 S20 h21 => ?_)))))
    have h23 := frz_is h21 S20
    have S24 := S20.frz
    have e22 := same_join_l (A := A) (B := (one p17 (.lst ws18)))
    generalize hjA25 : join A (one p17 (.lst ws18)) = A25 at h23 S24 e22
    clear hjA25
    have e0 := e0.trans e22
    have h15 := OL.up h15 e22
    refine c_forL (A := A25) (s0 := ([] : List Int)) (fun (A_ : Hp) (σ_ : L2.St) (R_ : List Hp) (s : (List Int)) => ∃ (ws_row_here26 : List V) (y_word26 : Option V), σ_ = [some (.str x_text), some (.ref p11), y_word26, none] ∧ (one p11 (.lst ws_row_here26)) :: R = R_ ∧ OL A_ ws_row_here26 (s : (List Int))) S24 (fun Q' q => q) h23 ⟨ws12, _, rfl, rfl, h15⟩ h (fun z27 w28 A29 H30 σ41 R31 s32 C33 N34 hz35 e36 S37 h38 hR39 hN40 h => ?_) (fun A42 H43 σ49 R44 s45 e46 S47 hR48 h => ?_)
    ·
      have eL50 : Same A25 A25 := Same.refl _
      obtain ⟨ws_row_here26, y_word26, rfl, rfl, h51⟩ := hR39
      have e0 := e0.trans e36
      have eL50 := eL50.trans e36
      obtain rfl : w28 = (.str z27) := h38
      refine q_when ?_
      refine q_test (A := A29) (R := (one p11 (.lst ws_row_here26)) :: R) h (fun Qb54 hk53 h => ?_) (fun b52 A55 H56 e57 S58 h => ?_)
      ·
        have eT59 : Same A29 A29 := Same.refl _
        refine c_or ?_
        refine c_tst (c_op (c_var rfl (c_c (c_eqS (c_bl (?_))))))
        refine c_orR h (fun hc h => ?_) (fun hc h => ?_)
        ·
          exact hk53 _ _ _ eT59 S37 h
        ·
          refine c_or ?_
          refine c_tst (c_op (c_cb (c_cons (c_var rfl (c_nil (c_lenS h fun t60 h => ?_))))))
          refine c_c (c_I0 (c_bl (?_)))
          refine c_orR h (fun hc h => ?_) (fun hc h => ?_)
          ·
            exact hk53 _ _ _ eT59 S37 h
          ·
            refine c_tst (c_op (?_))
            refine c_lcSE ?_
            refine c_var rfl (?_)
            refine c_lcS (A := A29) (R := (one p11 (.lst ws_row_here26)) :: R) (tt := (tTest (tOp rNotInS (tVar 3) (tC (.str "0123456789"))))) (te := (tVar 3)) (vs := [3]) (j := 3) (x := z27) (fun z61 => (!(decide (z61.c ∈ (Str.cps ("0123456789" : Str)).toList)))) (fun z61 => z61) S37 (fun Q' q => q) h (fun _ => rfl) ?_ ?_ (fun p92 A93 H94 ws95 t91 h e96 S97 h98 => ?_)
            ·
              intro z61 A63 n64 hm74 e67 A65 H66 e68 S69 Q70 hk71
              have e0 := e0.trans (e67.trans e68)
              have eL50 := eL50.trans (e67.trans e68)
              have eT59 := eT59.trans (e67.trans e68)
              have e75 := e67.trans e68
              have h51 := OL.up h51 e75
              have eC76 : Same A65 A65 := Same.refl _
              refine c_tst (c_op (c_var rfl (c_c (c_notinC (c_bl (?_))))))
              exact hk71 _ _ eC76 S69
            ·
              intro z61 A77 n78 hm88 e81 hf87 A79 H80 e82 S83 Q84 hk85
              have e0 := e0.trans (e81.trans e82)
              have eL50 := eL50.trans (e81.trans e82)
              have eT59 := eT59.trans (e81.trans e82)
              have e89 := e81.trans e82
              have h51 := OL.up h51 e89
              have eC90 : Same A79 A79 := Same.refl _
              refine c_var rfl (?_)
              exact hk85 _ _ _ eC90 S83 rfl
            ·
              have e0 := e0.trans e96
              have eL50 := eL50.trans e96
              have eT59 := eT59.trans e96
              have h51 := OL.up h51 e96
              refine c_tlst (c_nil (c_lst (α := Chr) (vs := []) (xs := []) (Nat.le_of_ble_eq_true rfl) trivial (ow S97 fun p99 ws100 H101 S102 h103 => ?_)))
              refine c_neNil ⟨_, _, rfl, (S102.mem _ (List.mem_of_getElem? (i := 2) rfl)) _ _ one_same, h98⟩ ⟨_, _, rfl, (S102.mem _ (List.mem_of_getElem? (i := 1) rfl)) _ _ one_same, h103⟩ (c_bl (?_))
              have S104 : St H101 (A93 :: (one p11 (.lst ws_row_here26)) :: (one p99 (.lst ws100)) :: (one p92 (.lst ws95)) :: R) := S102.pick 2 (Nat.le_of_ble_eq_true rfl)
              have S105 : St H101 (A93 :: (one p11 (.lst ws_row_here26)) :: (one p92 (.lst ws95)) :: R) := S104.drop 1 (Nat.le_of_ble_eq_true rfl)
              have S106 : St H101 (A93 :: (one p11 (.lst ws_row_here26)) :: R) := S105.drop 1 (Nat.le_of_ble_eq_true rfl)
              exact hk53 _ _ _ eT59 S106 h
      ·
        have e0 := e0.trans e57
        have eL50 := eL50.trans e57
        have h51 := OL.up h51 e57
        refine c_if h (fun hc h => ?_) (fun hc h => ?_)
        ·
          refine s_ret ?_
          refine c_c (?_)
          have h107 : Is A55 .non (none : (Option (List Int))) := rfl
          have S108 : St H56 (A55 :: R) := S58.drop 0 (Nat.le_of_ble_eq_true rfl)
          exact h (A55) (H56) (.non) e0 S108 h107
        ·
          refine q_when ?_
          refine q_test (A := A55) (R := (one p11 (.lst ws_row_here26)) :: R) h (fun Qb111 hk110 h => ?_) (fun b109 A112 H113 e114 S115 h => ?_)
          ·
            have eT116 : Same A55 A55 := Same.refl _
            refine c_and ?_
            refine c_tst (c_op (c_op (c_var rfl (c_c (c_ixS h fun t117 h => ?_)))))
            refine c_c (c_eqS (c_bl (?_)))
            refine c_andR h (fun hc h => ?_) (fun hc h => ?_)
            ·
              refine c_tst (c_op (c_var rfl (c_c (c_neS (c_bl (?_))))))
              exact hk110 _ _ _ eT116 S58 h
            ·
              exact hk110 _ _ _ eT116 S58 h
          ·
            have e0 := e0.trans e114
            have eL50 := eL50.trans e114
            have h51 := OL.up h51 e114
            refine c_if h (fun hc h => ?_) (fun hc h => ?_)
            ·
              refine s_ret ?_
              refine c_c (?_)
              have h118 : Is A112 .non (none : (Option (List Int))) := rfl
              have S119 : St H113 (A112 :: R) := S115.drop 0 (Nat.le_of_ble_eq_true rfl)
              exact h (A112) (H113) (.non) e0 S119 h118
            ·
              refine s_drop (c_bm (c_var rfl (c_and2 (.inl ⟨rfl, _, SqL.of ((S115.mem _ (List.mem_of_getElem? (i := 1) rfl)) _ _ one_same)⟩) (c_cons (c_cb (c_cons (c_var rfl (c_nil (c_intS h fun t120 h => ?_)))))))))
              refine c_nil (?_)
              refine c_app (x := t120) S115 h51 rfl h fun t121 ws125 h H124 S123 h122 => ?_
              exact hN40 _ _ _ _ t121 eL50 S123 ⟨ws125, _, rfl, rfl, h122⟩ h
    ·
      refine nx_mk ?_
      obtain ⟨ws_row_here26, y_word26, rfl, rfl, h126⟩ := hR48
      have e0 := e0.trans e46
      exact wk_law_read_s1 (T := T) (K := K) (E := E)  e0 S47 h126 h
abbrev s_law_read : Stmt := topS 20
theorem sc_law_read : FnScope ["_law_text", "_law_row_here", "_law_word", "_law_x"] ["_law_text"] (defScope s_law_read) := ⟨rfl, rfl, rfl, by decide +kernel, rfl, by decide +kernel, by decide +kernel⟩
theorem ok_law_read {P : Program} {w : World} {K : PySem.W.Frag} {mg : Str → Option Value} {base : Heap} {T : Cs} {f : Addr} {fd : FuncData} {f_law_rising : Addr} {fd_law_rising : FuncData} (F : Fun K "_law_read" "_law_read" s_law_read f fd) (bi : Bi mg) (G_law_rising : Glob P w K mg base CX0 1 "_law_rising" ["_law_row_here"] (sp_law_rising T K) f_law_rising fd_law_rising)   : FnOk P w K mg base CX0 2 f fd ["_law_text"] (sp_law_read T K) := by
  refine F.ok sc_law_read (fun vs H Q E h => ?_) (fun cdv A outer s H vs Q E hr h => ⟨rd_law_read T K E, ?_, wk_law_read  h⟩)
  · obtain ⟨_, _, _, rfl, _⟩ := h
    rfl
  · exact (pss_cons (ps_if (pt_cmpR op_eq (pv 0) pe_str (nomark _)) (pss_one (ps_ret (pe_lst pa_nil))) pss_nil)
      (pss_cons (ps_set (i := 1) sc_law_read.nd rfl (Or.inl rfl) (pe_lst pa_nil))
      (pss_cons (ps_for PassesOwn.never rfl (pi_list (pe_split (pv 0) pe_str)) (pg_name (i := 2) sc_law_read.nd rfl (Or.inl rfl)) (pss_cons (ps_if (PW.pt (pw_or (pt_cmpR op_eq (pv 2) pe_str (nomark _)) (pw_or (pt_cmpR op_gt (pe_callB call_len_str (by rfl) bi.len PySem.boot_len (pa_cons (pv 2) pa_nil)) pe_int (nomark _)) (pw_or1 (pt_cmpR (op_neNil hr.units) (pe_lc (own := [("_law_x", 3)]) (g := gName 3) (tt := (tTest (tOp rNotInS (tVar 3) (tC (.str "0123456789"))))) (te := (tVar 3)) rfl sc_law_read.nd (pi_str (pv 2)) (blkOk_by (own := [("_law_x", 3)]) (N := ["_law_text", "_law_row_here", "_law_word", "_law_x"]) (sc := defScope s_law_read) (by decide +kernel)) (fun _ _ _ _ _ => pg_name (i := 3) sc_law_read.nd rfl (Or.inl rfl)) (fun _ _ _ _ _ => pts_one (pt_cmpR op_notInS (pv 3) pe_str rfl)) (fun _ _ _ _ _ => (pv 3))) (pe_lst pa_nil) (nomark _)))))) (pss_one (ps_ret pe_non)) pss_nil)
      (pss_cons (ps_if (PW.pt (pw_and (pt_cmpR op_eq (pe_ix ix_str (pv 2) pe_int (fun _ _ => rfl)) pe_str (nomark _)) (pw_and1 (pt_cmpR op_ne (pv 2) pe_str (nomark _))))) (pss_one (ps_ret pe_non)) pss_nil)
      (pss_one (ps_expr (pe_bm PySem.F.plainAttrs_list PySem.F.slot_list_append PySem.F.type_list_append mt_append (pv 1) (pa_cons (pe_callTy call_int_str (by rfl) bi.int boot_int (pa_cons (pv 2) pa_nil)) pa_nil)))))))
      (pss_cons (ps_if (pt_not (pt_val (pe_call G_law_rising.ok (hr.mono (Nat.le_of_ble_eq_true rfl)) (by rfl) G_law_rising.g G_law_rising.kp G_law_rising.b .nil pass0 (pa_cons (pv 1) pa_nil)))) (pss_one (ps_ret pe_non)) pss_nil)
      (pss_one (ps_ret (pv 1)))))))
@[irreducible] def m_law_s1  : Res Unit Bool := .ok false
@[irreducible] def m_law_s3 (x_due : (Option (List Int))) (x_told_here : ((Option (List Int)) × Int)) : Res Unit Bool := Res.bind (getR x_told_here.1) fun t178 => Res.bind (getR x_due) fun t180 => Res.bind (Res.noex (m_law_same t178 t180)) fun y182 => .ok y182
@[irreducible] def m_law_s2 (x_bag_here : Bag) (x_row_here : (List Int)) (x_due : Str) (x_text : Str) : Res Unit Bool := Res.bind (Res.noex (m_read_sum x_text)) fun y102 => Res.bind (Res.noex (m_law_same y102 x_row_here)) fun y114 => if (!y114) = true then .ok false else Res.bind (mulSR ("7" : Str) (5000 : Int)) fun t120 => Res.bind (Res.noex (m_law_told t120)) fun y121 => if (!(decide (y121 = ((none : (Option (List Int))), ((), (0 : Int)).2)))) = true then .ok false else Res.bind (Res.noex (m_law_spoilt x_bag_here x_text)) fun y136 => Res.bind (Res.noex (m_law_read y136.1)) fun y143 => Res.bind (Res.noex (m_law_told y136.1)) fun y150 => if (y143).isNone = true then if (y150.1).isNone = true then Res.bind (Res.noex (m_law_whole y150.2)) fun y163 => if y163 = true then .ok (decide (y150.2 = (0 : Int))) else .ok false else .ok false else m_law_s3 y143 y150
@[irreducible] def m_law (x_script : (List Int)) : Res Unit Bool := Res.bind (Res.noex (m_law_bag x_script)) fun y1 => Res.bind (Res.noex (m_law_wide y1)) fun y9 => Res.bind ((if (!(decide (y9.1 = ([] : List Int)))) = true then Res.bind (compG (β := Str) (fun z42 (s48 : Unit) => Res.bind (strIR z42) fun t62 => .ok (some t62, ())) y9.1 ()) fun y63 => Res.bind (joinSR ("+" : Str) y63.1) fun t73 => .ok (.next t73) else .ok (.next ("-" : Str)) : Res Unit (Fl Bool (Str)))) fun r187 => (match r187 with | .next s30 => Res.bind (Res.noex (m_shown_sum y9.1)) fun y88 => Res.bind (orR (!true) (orR (!(decide (y88 = s30))) (.ok (!(decide (y9.1 = y9.1)))))) fun b93 => if b93 = true then m_law_s1  else m_law_s2 y9.2 y9.1 s30 y88 | .ret y188 => .ok y188)
def sp_law (T : Cs) (K : PySem.W.Frag) : Sp := fun vs H Q E => ∃ (A : Hp) (R : List Hp) (v_script : V) (x_script : (List Int)), vs = [v_script] ∧ St H (A :: R) ∧ Scr K A v_script x_script ∧ (m_law x_script).wp (fun y => ∀ (A' H' : Hp) , Same A A' → St H' (A' :: R) → Q (.bl y) H') (fun _ _ => False)
def rd_law_s1 (T : Cs) (K : PySem.W.Frag) (E : XK) : TS := (tRet (tC (.bl false)))
def rd_law_s3 (T : Cs) (K : PySem.W.Frag) (E : XK) : TS := (tRet (tCall (sp_law_same T K) [] E0 (tCons (tOp (rIxT K) (tVar 7) (tC (.int 0))) (tCons (tVar 3) tNil))))
def rd_law_s2 (T : Cs) (K : PySem.W.Frag) (E : XK) : TS := (tSeq (tIfS (tNot (tB (tCall (sp_law_same T K) [] E0 (tCons (tCall (sp_read_sum T K) [] E0 (tCons (tVar 5) tNil)) (tCons (tVar 2) tNil))))) (tRet (tC (.bl false))) tNext) (tSeq (tIfS (tTest (tOp (rNeD K) (tCall (sp_law_told T K) [] E0 (tCons (tOp rMulStr (tC (.str "7")) (tC (.int 5000))) tNil)) (tTup (tCons (tC .non) (tCons (tC (.int 0)) tNil))))) (tRet (tC (.bl false))) tNext) (tSeq (tAsg (tCall (sp_law_spoilt T K) [] E0 (tCons (tVar 1) (tCons (tVar 5) tNil))) (gName 6)) (tSeq (tAsg (tCall (sp_law_read T K) [] E0 (tCons (tVar 6) tNil)) (gName 3)) (tSeq (tAsg (tCall (sp_law_told T K) [] E0 (tCons (tVar 6) tNil)) (gName 7)) (tSeq (tIfS (tTest (tOp rIsN (tVar 3) (tC .non))) (tRet (tAndV (tOp rIsN (tOp (rIxT K) (tVar 7) (tC (.int 0))) (tC .non)) (tAndV (tCall (sp_law_whole T K) [] E0 (tCons (tOp (rIxT K) (tVar 7) (tC (.int 1))) tNil)) (tOp rEq (tOp (rIxT K) (tVar 7) (tC (.int 1))) (tC (.int 0)))))) tNext) (rd_law_s3 T K E)))))))
def rd_law (T : Cs) (K : PySem.W.Frag) (E : XK) : TS := (tSeq (tAsg (tCall (sp_law_bag T K) [] E0 (tCons (tVar 0) tNil)) (gName 1)) (tSeq (tAsg (tCall (sp_law_wide T K) [] E0 (tCons (tVar 1) tNil)) (gName 2)) (tSeq (tAsg (tC (.str "-")) (gName 3)) (Evl.tCut (tIfS (tTest (tOp (rNeD K) (tVar 2) (tLst tNil))) (tAsg (tM1 (rJoinStr K) (tC (.str "+")) (tLc (iList K (tVar 2)) (gName 8) tYes (tCB rStrInt (tCons (tVar 8) tNil)) [8])) (gName 3)) tNext) (tSeq (tAsg (tCB (Evl.rListS K) (tCons (tVar 2) tNil)) (gName 4)) (tSeq (tAsg (tCall (sp_shown_sum T K) [] E0 (tCons (tVar 4) tNil)) (gName 5)) (tSeq (tIfS (tOr (tNot (tB (tCB (rIsi K) (tCons (tVar 5) (tCons (tC (.ty "str")) tNil))))) (tOr (tTest (tOp rNe (tVar 5) (tVar 3))) (tTest (tOp (rNeD K) (tVar 4) (tVar 2))))) (rd_law_s1 T K E) tNext) (rd_law_s2 T K E))))))))
theorem wk_law_s1 {T : Cs} {K : PySem.W.Frag} {A AS HS : Hp} {R : List Hp} {Q : VK} {E : XK} {o0 : Option V} {o1 : Option V} {o2 : Option V} {o3 : Option V} {o4 : Option V} {o5 : Option V} {o6 : Option V} {o7 : Option V} {o8 : Option V}  (e0 : Same A AS) (S : St HS (AS :: R))  (h : (m_law_s1 ).wp (fun y => ∀ (A' H' : Hp) , Same A A' → St H' (A' :: R) → Q (.bl y) H') (fun _ _ => False)) : rd_law_s1 T K E { nx := fun _ H' => Q .non H', rt := Q } [o0, o1, o2, o3, o4, o5, o6, o7, o8] HS := by
  unfold m_law_s1 at h
  unfold rd_law_s1
  refine s_ret ?_
  refine c_c (?_)
  exact h (AS) (HS) e0 S 
theorem wk_law_s3 {T : Cs} {K : PySem.W.Frag} {A AS HS : Hp} {R : List Hp} {Q : VK} {E : XK} {x_due : (Option (List Int))} {v_due : V} {x_told_here : ((Option (List Int)) × Int)} {v_told_here : V} {o0 : Option V} {o1 : Option V} {o2 : Option V} {o4 : Option V} {o5 : Option V} {o6 : Option V} {o8 : Option V}  (e0 : Same A AS) (S : St HS (AS :: R)) (h_due : Is AS v_due x_due) (h_told_here : Is AS v_told_here x_told_here) (h : (m_law_s3 x_due x_told_here).wp (fun y => ∀ (A' H' : Hp) , Same A A' → St H' (A' :: R) → Q (.bl y) H') (fun _ _ => False)) : rd_law_s3 T K E { nx := fun _ H' => Q .non H', rt := Q } [o0, o1, o2, some v_due, o4, o5, o6, some v_told_here, o8] HS := by
  unfold m_law_s3 at h
  unfold rd_law_s3
  refine s_ret ?_
  refine c_call (c_cons (c_op (c_var rfl (c_c (c_ixT0 S h_told_here fun w176 h177 => ?_)))))
  refine un_opt h177 h fun t178 h179 h => ?_
  refine c_cons (c_var rfl (?_))
  refine un_opt h_due h fun t180 h181 h => ?_
  refine c_nil (⟨AS, (R), w176, t178, v_due, t180, rfl, S, h179, h181, ?_⟩)
  refine Res.wp_mono (Res.wp_noex (Res.wp_bind h)) (fun y182 h A183 H184 e185 S186 => ?_) (fun _ _ h => h.elim)
  have e0 := e0.trans e185
  have h_due := up h_due e185
  have h_told_here := up h_told_here e185
  exact h (A183) (H184) e0 S186 
theorem wk_law_s2 {T : Cs} {K : PySem.W.Frag} {A AS HS : Hp} {R : List Hp} {Q : VK} {E : XK} {x_bag_here : Bag} {m_bag_here : Hp} {v_bag_here : V} {x_row_here : (List Int)} {v_row_here : V} {x_due : Str} {x_text : Str} {o0 : Option V} {o4 : Option V} {o6 : Option V} {o7 : Option V} {o8 : Option V}  (e0 : Same A AS) (S : St HS (AS :: m_bag_here :: R)) (h_bag_here : Ob.isAt T AS m_bag_here v_bag_here x_bag_here) (h_row_here : Is AS v_row_here x_row_here) (h : (m_law_s2 x_bag_here x_row_here x_due x_text).wp (fun y => ∀ (A' H' : Hp) , Same A A' → St H' (A' :: R) → Q (.bl y) H') (fun _ _ => False)) : rd_law_s2 T K E { nx := fun _ H' => Q .non H', rt := Q } [o0, some v_bag_here, some v_row_here, some (.str x_due), o4, some (.str x_text), o6, o7, o8] HS := by
  unfold m_law_s2 at h
  unfold rd_law_s2
  refine q_when ?_
  refine c_not (b := true) (c_tb (c_call (c_cons (c_call (c_cons (c_var rfl (c_nil (⟨AS, (m_bag_here :: R), x_text, rfl, S, ?_⟩))))))))
  refine Res.wp_mono (Res.wp_noex (Res.wp_bind h)) (fun y102 h A103 H104 p107 ws108 e105 S106 h109 => ?_) (fun _ _ h => h.elim)
  have e0 := e0.trans e105
  have h_bag_here := upO h_bag_here e105
  have h_row_here := up h_row_here e105
  have h111 := frz_is h109 S106
  have S112 := S106.frz
  have e110 := same_join_l (A := A103) (B := (one p107 (.lst ws108)))
  generalize hjA113 : join A103 (one p107 (.lst ws108)) = A113 at h111 S112 e110
  clear hjA113
  have e0 := e0.trans e110
  have h_bag_here := upO h_bag_here e110
  have h_row_here := up h_row_here e110
  refine c_cons (c_var rfl (c_nil (⟨A113, (m_bag_here :: R), (.ref p107), y102, v_row_here, x_row_here, rfl, S112, h111, h_row_here, ?_⟩)))
  refine Res.wp_mono (Res.wp_noex (Res.wp_bind h)) (fun y114 h A115 H116 e117 S118 => ?_) (fun _ _ h => h.elim)
  have e0 := e0.trans e117
  have h_bag_here := upO h_bag_here e117
  have h_row_here := up h_row_here e117
  refine c_bl (?_)
  refine c_if h (fun hc h => ?_) (fun hc h => ?_)
  ·
    refine s_ret ?_
    refine c_c (?_)
    have S119 : St H116 (A115 :: R) := S118.drop 0 (Nat.le_of_ble_eq_true rfl)
    exact h (A115) (H116) e0 S119 
  ·
    refine q_when ?_
    refine c_tst (c_op (c_call (c_cons (c_op (c_c (c_c (c_mulS h fun t120 h => ?_)))))))
    refine c_nil (⟨A115, (m_bag_here :: R), t120, rfl, S118, ?_⟩)
    refine Res.wp_mono (Res.wp_noex (Res.wp_bind h)) (fun y121 h A122 H123 w126 e124 S125 h127 => ?_) (fun _ _ h => h.elim)
    have e0 := e0.trans e124
    have h_bag_here := upO h_bag_here e124
    have h_row_here := up h_row_here e124
    refine c_ttup (c_cons (c_c (c_cons (c_c (c_nil (c_tup (α := Unit) (β := Int) (x := ()) (y := (0 : Int)) S125 rfl rfl fun p128 A129 H130 e131 S132 h133 => ?_))))))
    have e0 := e0.trans e131
    have h_bag_here := upO h_bag_here e131
    have h_row_here := up h_row_here e131
    have h127 := up h127 e131
    have h134 := none_pair (α := (List Int)) h133
    refine c_neD (α := ((Option (List Int)) × Int)) (x := y121) (y := ((none : (Option (List Int))), ((), (0 : Int)).2)) (dp_of S132 h127) (dp_of S132 h134) (Nat.le_of_ble_eq_true rfl) (c_bl (?_))
    refine c_if h (fun hc h => ?_) (fun hc h => ?_)
    ·
      refine s_ret ?_
      refine c_c (?_)
      have S135 : St H130 (A129 :: R) := S132.drop 0 (Nat.le_of_ble_eq_true rfl)
      exact h (A129) (H130) e0 S135 
    ·
      refine q_asg ?_
      refine c_call (c_cons (c_var rfl (c_cons (c_var rfl (c_nil (⟨A129, (R), m_bag_here, v_bag_here, x_bag_here, x_text, rfl, S132, h_bag_here, ?_⟩))))))
      refine Res.wp_mono (Res.wp_noex (Res.wp_bind h)) (fun y136 h A137 H138 m142 e139 S140 h141 => ?_) (fun _ _ h => h.elim)
      have e0 := e0.trans e139
      have h_row_here := up h_row_here e139
      refine q_asg ?_
      refine c_call (c_cons (c_var rfl (c_nil (⟨A137, (m142 :: R), y136.1, rfl, S140, ?_⟩))))
      refine Res.wp_mono (Res.wp_noex (Res.wp_bind h)) (fun y143 h A144 H145 w148 e146 S147 h149 => ?_) (fun _ _ h => h.elim)
      have e0 := e0.trans e146
      have h141 := upO h141 e146
      have h_row_here := up h_row_here e146
      refine q_asg ?_
      refine c_call (c_cons (c_var rfl (c_nil (⟨A144, (m142 :: R), y136.1, rfl, S147, ?_⟩))))
      refine Res.wp_mono (Res.wp_noex (Res.wp_bind h)) (fun y150 h A151 H152 w155 e153 S154 h156 => ?_) (fun _ _ h => h.elim)
      have e0 := e0.trans e153
      have h141 := upO h141 e153
      have h_row_here := up h_row_here e153
      have h149 := up h149 e153
      refine q_when ?_
      refine c_tst (c_op (c_var rfl (c_c (c_isN h149 (c_bl (?_))))))
      refine c_if h (fun hc h => ?_) (fun hc h => ?_)
      ·
        refine s_ret ?_
        refine c_andV (c_op (c_op (c_var rfl (c_c (c_ixT0 S154 h156 fun w158 h159 => ?_)))))
        refine c_c (c_isN h159 (c_bl (?_)))
        refine c_if h (fun hc h => ?_) (fun hc h => ?_)
        ·
          refine c_andV (c_call (c_cons (c_op (c_var rfl (c_c (c_ixT1 S154 h156 fun w161 h162 => ?_))))))
          obtain rfl : w161 = (.int y150.2) := h162
          refine c_nil (⟨A151, (m142 :: R), y150.2, rfl, S154, ?_⟩)
          refine Res.wp_mono (Res.wp_noex (Res.wp_bind h)) (fun y163 h A164 H165 e166 S167 => ?_) (fun _ _ h => h.elim)
          have e0 := e0.trans e166
          have h141 := upO h141 e166
          have h_row_here := up h_row_here e166
          have h149 := up h149 e166
          have h156 := up h156 e166
          refine c_bl (?_)
          refine c_if h (fun hc h => ?_) (fun hc h => ?_)
          ·
            refine c_op (c_op (c_var rfl (c_c (c_ixT1 S167 h156 fun w169 h170 => ?_))))
            obtain rfl : w169 = (.int y150.2) := h170
            refine c_c (c_eqI (?_))
            have S171 : St H165 (A164 :: R) := S167.drop 0 (Nat.le_of_ble_eq_true rfl)
            exact h (A164) (H165) e0 S171 
          ·
            have S172 : St H165 (A164 :: R) := S167.drop 0 (Nat.le_of_ble_eq_true rfl)
            exact h (A164) (H165) e0 S172 
        ·
          have S173 : St H152 (A151 :: R) := S154.drop 0 (Nat.le_of_ble_eq_true rfl)
          exact h (A151) (H152) e0 S173 
      ·
        have S174 : St H152 (A151 :: R) := S154.drop 0 (Nat.le_of_ble_eq_true rfl)
        exact wk_law_s3 (T := T) (K := K) (E := E)  e0 S174 h149 h156 h
theorem wk_law {T : Cs} {K : PySem.W.Frag} {vs : List V} {H : Hp} {Q : VK} {E : XK}  (h : sp_law T K vs H Q E) : rd_law T K E { nx := fun _ H' => Q .non H', rt := Q } (L2.start ["_law_script", "_law_bag_here", "_law_row_here", "_law_due", "_law_handed", "_law_text", "_law_spoilt_here", "_law_told_here", "_law_x"] vs) H := by
  obtain ⟨A, R, v_script, x_script, rfl, S, h_script, h⟩ := h
  unfold m_law at h
  unfold rd_law
  have e0 : Same A A := Same.refl _
  refine q_asg ?_
  refine c_call (c_cons (c_var rfl (c_nil (⟨A, (R), v_script, x_script, rfl, S, h_script, ?_⟩))))
  refine Res.wp_mono (Res.wp_noex (Res.wp_bind h)) (fun y1 h A2 H3 v6 m7 e4 S5 h8 => ?_) (fun _ _ h => h.elim)
  have e0 := e0.trans e4
  have h_script := upS h_script e4
  refine q_asg ?_
  refine c_call (c_cons (c_var rfl (c_nil (⟨A2, (R), m7, v6, y1, rfl, S5, h8, ?_⟩))))
  refine Res.wp_mono (Res.wp_noex (Res.wp_bind h)) (fun y9 h A10 H11 p14 ws15 m18 e12 S13 h16 h17 => ?_) (fun _ _ h => h.elim)
  have e0 := e0.trans e12
  have h_script := upS h_script e12
  have h20 := frz_is h16 S13
  have S21 := S13.frz
  have e19 := same_join_l (A := A10) (B := (one p14 (.lst ws15)))
  generalize hjA22 : join A10 (one p14 (.lst ws15)) = A22 at h20 S21 e19
  clear hjA22
  have e0 := e0.trans e19
  have h_script := upS h_script e19
  have h17 := upO h17 e19
  refine q_asg ?_
  refine c_c (?_)
  refine q_cut (A := A22) (fun (A_ : Hp) (σ_ : L2.St) (R_ : List Hp) (s : Str) => σ_ = [some v_script, some v6, some (.ref p14), some (.str s), none, none, none, none, none] ∧ m18 :: R = R_) h (fun C24 N25 hN26 h => ?_) (fun A27 H28 σ34 R29 s30 e31 S32 hR33 h => ?_)
  ·
    have eK35 : Same A22 A22 := Same.refl _
    refine s_when ?_
    refine c_tst (c_op (c_var rfl (c_tlst (c_nil (c_lst (α := Int) (vs := []) (xs := []) (Nat.le_of_ble_eq_true rfl) trivial (ow S21 fun p36 ws37 H38 S39 h40 => ?_))))))
    refine c_neD (α := (List Int)) (x := y9.1) (y := ([] : List Int)) (dp_of S39 h20) (dp_la S39 ⟨_, _, rfl, (S39.mem _ (List.mem_of_getElem? (i := 1) rfl)) _ _ one_same, h40⟩) (Nat.le_of_ble_eq_true rfl) (c_bl (?_))
    refine c_if h (fun hc h => ?_) (fun hc h => ?_)
    ·
      refine s_asg ?_
      refine c_tm1 (c_c (c_and2 ⟨_, rfl⟩ (?_)))
      refine c_lcE ?_
      refine c_var rfl (?_)
      refine c_lcGL (A := A22) (R := (one p36 (.lst ws37)) :: m18 :: R) (tt := tYes) (te := (tCB rStrInt (tCons (tVar 8) tNil))) (vs := [8]) (j := 8) (fun (A_ : Hp) (R_ : List Hp) (s : Unit) => (one p36 (.lst ws37)) :: m18 :: R = R_) S39 (fun Q' q => q) h20 rfl h (fun _ => rfl) (fun z42 w43 A45 H46 R47 s48 n49 C50 K1_51 K0_52 hz53 e54 S55 hR56 hK57 hK58 h => ?_) (fun p64 A65 H66 R67 ws68 y63 h e69 S70 hR71 h72 => ?_)
      ·
        obtain ⟨hz53, h59⟩ := hz53
        have eC61 : Same A45 A45 := Same.refl _
        obtain rfl := hR56
        have e0 := e0.trans e54
        have eK35 := eK35.trans e54
        have h_script := upS h_script e54
        have h17 := upO h17 e54
        have h20 := up h20 e54
        obtain rfl : w43 = (.int z42) := h59
        refine c_yes ?_
        refine c_cb (c_cons (c_var rfl (c_nil (c_strI h fun t62 h => ?_))))
        exact hK57 _ _ _ t62 _ () eC61 S55 rfl rfl h
      ·
        obtain rfl := hR71
        have e0 := e0.trans e69
        have eK35 := eK35.trans e69
        have h_script := upS h_script e69
        have h17 := upO h17 e69
        have h20 := up h20 e69
        refine c_joinS ⟨_, _, rfl, (S70.mem _ (List.mem_of_getElem? (i := 1) rfl)) _ _ one_same, h72⟩ h fun t73 h => ?_
        have S74 : St H66 (A65 :: m18 :: (one p64 (.lst ws68)) :: (one p36 (.lst ws37)) :: R) := S70.pick 2 (Nat.le_of_ble_eq_true rfl)
        have S75 : St H66 (A65 :: m18 :: (one p36 (.lst ws37)) :: R) := S74.drop 1 (Nat.le_of_ble_eq_true rfl)
        have S76 : St H66 (A65 :: m18 :: R) := S75.drop 1 (Nat.le_of_ble_eq_true rfl)
        exact hN26 _ _ _ _ t73 eK35 S76 ⟨rfl, rfl⟩ h
    ·
      have S77 : St H38 (A22 :: m18 :: (one p36 (.lst ws37)) :: R) := S39.pick 1 (Nat.le_of_ble_eq_true rfl)
      have S78 : St H38 (A22 :: m18 :: R) := S77.drop 1 (Nat.le_of_ble_eq_true rfl)
      exact hN26 _ _ _ _ ("-" : Str) eK35 S78 ⟨rfl, rfl⟩ h
  ·
    obtain ⟨rfl, rfl⟩ := hR33
    have e0 := e0.trans e31
    have h_script := upS h_script e31
    have h17 := upO h17 e31
    have h20 := up h20 e31
    refine q_asg ?_
    refine c_cb (c_cons (c_var rfl (c_nil (c_list (la_of S32 h20) (ow S32 fun p79 ws80 H81 S82 h83 => ?_)))))
    have h85 := frz_is h83 S82
    have S86 := S82.frz
    have e84 := same_join_l (A := A27) (B := (one p79 (.lst ws80)))
    generalize hjA87 : join A27 (one p79 (.lst ws80)) = A87 at h85 S86 e84
    clear hjA87
    have e0 := e0.trans e84
    have h_script := upS h_script e84
    have h17 := upO h17 e84
    have h20 := up h20 e84
    refine q_asg ?_
    refine c_call (c_cons (c_var rfl (c_nil (⟨A87, (m18 :: R), (.ref p79), y9.1, rfl, S86, h85, ?_⟩))))
    refine Res.wp_mono (Res.wp_noex (Res.wp_bind h)) (fun y88 h A89 H90 e91 S92 => ?_) (fun _ _ h => h.elim)
    have e0 := e0.trans e91
    have h_script := upS h_script e91
    have h17 := upO h17 e91
    have h20 := up h20 e91
    have h85 := up h85 e91
    refine q_when ?_
    refine q_test (A := A89) (R := m18 :: R) h (fun Qb95 hk94 h => ?_) (fun b93 A96 H97 e98 S99 h => ?_)
    ·
      have eT100 : Same A89 A89 := Same.refl _
      refine c_or ?_
      refine c_not (b := true) (c_tb (c_cb (c_cons (c_var rfl (c_cons (c_c (c_nil (isi_str (c_bl (?_))))))))))
      refine c_orR h (fun hc h => ?_) (fun hc h => ?_)
      ·
        exact hk94 _ _ _ eT100 S92 h
      ·
        refine c_or ?_
        refine c_tst (c_op (c_var rfl (c_var rfl (c_neS (c_bl (?_))))))
        refine c_orR h (fun hc h => ?_) (fun hc h => ?_)
        ·
          exact hk94 _ _ _ eT100 S92 h
        ·
          refine c_tst (c_op (c_var rfl (c_var rfl (c_neD (α := (List Int)) (x := y9.1) (y := y9.1) (dp_of S92 h85) (dp_of S92 h20) (Nat.le_of_ble_eq_true rfl) (c_bl (?_))))))
          exact hk94 _ _ _ eT100 S92 h
    ·
      have e0 := e0.trans e98
      have h_script := upS h_script e98
      have h17 := upO h17 e98
      have h20 := up h20 e98
      have h85 := up h85 e98
      refine c_if h (fun hc h => ?_) (fun hc h => ?_)
      ·
        have S101 : St H97 (A96 :: R) := S99.drop 0 (Nat.le_of_ble_eq_true rfl)
        exact wk_law_s1 (T := T) (K := K) (E := E)  e0 S101  h
      ·
        exact wk_law_s2 (T := T) (K := K) (E := E)  e0 S99 h17 h20 h
abbrev s_law : Stmt := topS 23
theorem sc_law : FnScope ["_law_script", "_law_bag_here", "_law_row_here", "_law_due", "_law_handed", "_law_text", "_law_spoilt_here", "_law_told_here", "_law_x"] ["_law_script"] (defScope s_law) := ⟨rfl, rfl, rfl, by decide +kernel, rfl, by decide +kernel, by decide +kernel⟩
theorem ok_law {P : Program} {w : World} {K : PySem.W.Frag} {mg : Str → Option Value} {base : Heap} {T : Cs} {f : Addr} {fd : FuncData} {f_law_bag : Addr} {fd_law_bag : FuncData} {f_law_wide : Addr} {fd_law_wide : FuncData} {f_shown_sum : Addr} {fd_shown_sum : FuncData} {f_read_sum : Addr} {fd_read_sum : FuncData} {f_law_same : Addr} {fd_law_same : FuncData} {f_law_told : Addr} {fd_law_told : FuncData} {f_law_spoilt : Addr} {fd_law_spoilt : FuncData} {f_law_read : Addr} {fd_law_read : FuncData} {f_law_whole : Addr} {fd_law_whole : FuncData} (F : Fun K "law" "law" s_law f fd) (bi : Bi mg) (G_law_bag : Glob P w K mg base CX0 1 "_law_bag" ["_law_script"] (sp_law_bag T K) f_law_bag fd_law_bag) (G_law_wide : Glob P w K mg base CX0 2 "_law_wide" ["_law_bag_here"] (sp_law_wide T K) f_law_wide fd_law_wide) (G_shown_sum : Glob P w K mg base CX0 1 "shown_sum" ["row"] (sp_shown_sum T K) f_shown_sum fd_shown_sum) (G_read_sum : Glob P w K mg base (L2.CX P w) 5 "read_sum" ["line"] (sp_read_sum T K) f_read_sum fd_read_sum) (G_law_same : Glob P w K mg base CX0 3 "_law_same" ["_law_found", "_law_due"] (sp_law_same T K) f_law_same fd_law_same) (G_law_told : Glob P w K mg base CX0 6 "_law_told" ["_law_text"] (sp_law_told T K) f_law_told fd_law_told) (G_law_spoilt : Glob P w K mg base CX0 2 "_law_spoilt" ["_law_bag_here", "_law_text"] (sp_law_spoilt T K) f_law_spoilt fd_law_spoilt) (G_law_read : Glob P w K mg base CX0 2 "_law_read" ["_law_text"] (sp_law_read T K) f_law_read fd_law_read) (G_law_whole : Glob P w K mg base CX0 1 "_law_whole" ["_law_found"] (sp_law_whole T K) f_law_whole fd_law_whole)   : FnOk P w K mg base CX0 7 f fd ["_law_script"] (sp_law T K) := by
  refine F.ok sc_law (fun vs H Q E h => ?_) (fun cdv A outer s H vs Q E hr h => ⟨rd_law T K E, ?_, wk_law  h⟩)
  · obtain ⟨_, _, _, _, rfl, _⟩ := h
    rfl
  · exact (pss_cons (ps_set (i := 1) sc_law.nd rfl (Or.inl rfl) (pe_call G_law_bag.ok (hr.mono (Nat.le_of_ble_eq_true rfl)) (by rfl) G_law_bag.g G_law_bag.kp G_law_bag.b .nil pass0 (pa_cons (pv 0) pa_nil)))
      (pss_cons (ps_set (i := 2) sc_law.nd rfl (Or.inl rfl) (pe_call G_law_wide.ok (hr.mono (Nat.le_of_ble_eq_true rfl)) (by rfl) G_law_wide.g G_law_wide.kp G_law_wide.b .nil pass0 (pa_cons (pv 1) pa_nil)))
      (pss_cons (ps_set (i := 3) sc_law.nd rfl (Or.inl rfl) pe_str)
      (Evl.pss_cut (ps_if (pt_cmpR (op_neD hr.units) (pv 2) (pe_lst pa_nil) (nomark _)) (pss_one (ps_set (i := 3) sc_law.nd rfl (Or.inl rfl) (pe_join pe_str (pe_lc (own := [("_law_x", 8)]) (g := (gName 8)) (tt := tYes) (te := (tCB rStrInt (tCons (tVar 8) tNil))) rfl sc_law.nd (pi_list (pv 2)) (blkOk_by (own := [("_law_x", 8)]) (N := ["_law_script", "_law_bag_here", "_law_row_here", "_law_due", "_law_handed", "_law_text", "_law_spoilt_here", "_law_told_here", "_law_x"]) (sc := defScope s_law) (by decide +kernel)) (fun _ _ _ _ _ => pg_name (i := 8) sc_law.nd rfl (Or.inl rfl)) (fun _ _ _ _ _ => pts_nil) (fun _ _ _ _ _ => (pe_callTy call_str_int (by rfl) bi.str boot_str (pa_cons (pv 8) pa_nil))))))) pss_nil)
      (pss_cons (ps_set (i := 4) sc_law.nd rfl (Or.inl rfl) (pe_callTy call_list_of (by rfl) bi.list boot_list (pa_cons (pv 2) pa_nil)))
      (pss_cons (ps_set (i := 5) sc_law.nd rfl (Or.inl rfl) (pe_call G_shown_sum.ok (hr.mono (Nat.le_of_ble_eq_true rfl)) (by rfl) G_shown_sum.g G_shown_sum.kp G_shown_sum.b .nil pass0 (pa_cons (pv 4) pa_nil)))
      (pss_cons (ps_if (PW.pt (pw_or (pt_not (pt_val (pe_callB call_isi (by rfl) bi.isinstance boot_isinstance (pa_cons (pv 5) (pa_cons (pe_bltn (v := .ty "str") (by rfl) bi.str boot_str rfl) pa_nil))))) (pw_or (pt_cmpR op_ne (pv 5) (pv 3) (nomark _)) (pw_or1 (pt_cmpR (op_neD hr.units) (pv 4) (pv 2) (nomark _)))))) (pss_one (ps_ret pe_bl)) pss_nil)
      (pss_cons (ps_if (pt_not (pt_val (pe_call G_law_same.ok (hr.mono (Nat.le_of_ble_eq_true rfl)) (by rfl) G_law_same.g G_law_same.kp G_law_same.b .nil pass0 (pa_cons (pe_call G_read_sum.ok (hr.mono (Nat.le_of_ble_eq_true rfl)) (by rfl) G_read_sum.g G_read_sum.kp G_read_sum.b .nil passL (pa_cons (pv 5) pa_nil)) (pa_cons (pv 2) pa_nil))))) (pss_one (ps_ret pe_bl)) pss_nil)
      (pss_cons (ps_if (pt_cmpR (op_neD hr.units) (pe_call G_law_told.ok (hr.mono (Nat.le_of_ble_eq_true rfl)) (by rfl) G_law_told.g G_law_told.kp G_law_told.b .nil pass0 (pa_cons (pe_op op_mul_str pe_str pe_int) pa_nil)) (pe_tup (pa_cons pe_non (pa_cons pe_int pa_nil))) (nomark _)) (pss_one (ps_ret pe_bl)) pss_nil)
      (pss_cons (ps_set (i := 6) sc_law.nd rfl (Or.inl rfl) (pe_call G_law_spoilt.ok (hr.mono (Nat.le_of_ble_eq_true rfl)) (by rfl) G_law_spoilt.g G_law_spoilt.kp G_law_spoilt.b .nil pass0 (pa_cons (pv 1) (pa_cons (pv 5) pa_nil))))
      (pss_cons (ps_set (i := 3) sc_law.nd rfl (Or.inl rfl) (pe_call G_law_read.ok (hr.mono (Nat.le_of_ble_eq_true rfl)) (by rfl) G_law_read.g G_law_read.kp G_law_read.b .nil pass0 (pa_cons (pv 6) pa_nil)))
      (pss_cons (ps_set (i := 7) sc_law.nd rfl (Or.inl rfl) (pe_call G_law_told.ok (hr.mono (Nat.le_of_ble_eq_true rfl)) (by rfl) G_law_told.g G_law_told.kp G_law_told.b .nil pass0 (pa_cons (pv 6) pa_nil)))
      (pss_cons (ps_if (pt_cmpR op_isN1 (pv 3) pe_non (nomark _)) (pss_one (ps_ret (pe_and (pe_cmpR op_isN1 (pe_ix ix_tup (pv 7) pe_int (fun _ _ => rfl)) pe_non (nomark _)) (pe_and (pe_call G_law_whole.ok (hr.mono (Nat.le_of_ble_eq_true rfl)) (by rfl) G_law_whole.g G_law_whole.kp G_law_whole.b .nil pass0 (pa_cons (pe_ix ix_tup (pv 7) pe_int (fun _ _ => rfl)) pa_nil)) (pe_one (pe_cmpR op_eq (pe_ix ix_tup (pv 7) pe_int (fun _ _ => rfl)) pe_int (nomark _))))))) pss_nil)
      (pss_one (ps_ret (pe_call G_law_same.ok (hr.mono (Nat.le_of_ble_eq_true rfl)) (by rfl) G_law_same.g G_law_same.kp G_law_same.b .nil pass0 (pa_cons (pe_ix ix_tup (pv 7) pe_int (fun _ _ => rfl)) (pa_cons (pv 3) pa_nil))))))))))))))))))
end SB

namespace SB
open PySem PySem.Spec PyProof.Rows L2 Res
theorem sm_iff_next : ∀ {l : List Int}, Sm l ↔ ∀ i x y, l[i]? = some x → l[i + 1]? = some y → x < y
  | [] => by
    constructor
    · intro _ i x y h
      cases h
    · intro _
      exact .nil
  | a :: l => by
    constructor
    · intro h i x y h1 h2
      cases h with
      | cons h3 h4 =>
        cases i with
        | zero =>
          cases h1
          exact h3 y (List.mem_of_getElem? h2)
        | succ i => exact sm_iff_next.mp h4 i x y h1 h2
    · intro h
      have ih : Sm l := sm_iff_next.mpr fun i x y h1 h2 => h (i + 1) x y h1 h2
      refine .cons (fun y hy => ?_) ih
      cases l with
      | nil => cases hy
      | cons b l =>
        have hab : a < b := h 0 a b rfl rfl
        cases hy with
        | head => exact hab
        | tail _ hy =>
          cases ih with
          | cons h3 _ => exact Int.lt_trans hab (h3 y hy)
theorem is_sum_eq {l : List Int} (h : l.length ≤ 16777216) : m_is_sum l = .ok (decide (Sm l)) := by
  unfold m_is_sum
  rw [rg_eq (by omega)]
  refine okk_is (okk_bind (P := fun f => match f with | .next _ => Sm l | .ret y => y = decide (Sm l)) ?_ fun f hf => ?_)
  · refine okk_mono (okk_for (Qr := fun y => y = decide (Sm l)) (fun (p : List Int) (_ : Unit) => ∀ (i : Nat) (x y : Int), i < p.length → l[i]? = some x → l[i + 1]? = some y → x < y) (rangeL 1 l.length) [] () (by intro i x y hi; exact absurd hi (Nat.not_lt_zero _)) ?_) fun f hf => ?_
    · intro p z r s hp hI
      have hz : z = 1 + (p.length : Int) := by
        have e : (rangeL 1 (l.length : Int))[p.length]? = some z := by
          rw [List.nil_append] at hp
          rw [hp, List.getElem?_append_right (Nat.le_refl _), Nat.sub_self]
          rfl
        unfold rangeL at e
        rw [List.getElem?_map] at e
        cases q : (List.range ((l.length : Int) - 1).toNat)[p.length]? with
        | none =>
          rw [q] at e
          cases e
        | some k =>
          rw [q] at e
          obtain ⟨hk, hk'⟩ := List.getElem?_eq_some_iff.mp q
          rw [List.getElem_range] at hk'
          have e' : (1 : Int) + (k : Int) = z := Option.some.inj e
          omega
      have hzm : z ∈ rangeL 1 (l.length : Int) := by
        rw [List.nil_append] at hp
        rw [hp]
        simp
      have hzr := mem_range.mp hzm
      refine okk_bind (P := fun t => l[p.length]? = some t) (okk_ix (by omega) (by omega) fun x hx => ?_) fun t1 h1 => ?_
      · have e : (z - 1).toNat = p.length := by omega
        rw [e] at hx
        exact hx
      refine okk_bind (P := fun t => l[p.length + 1]? = some t) (okk_ix (by omega) (by omega) fun x hx => ?_) fun t2 h2 => ?_
      · have e : z.toNat = p.length + 1 := by omega
        rw [e] at hx
        exact hx
      refine okk_if (fun hc => okk_ok ?_) (fun hc => okk_ok ?_)
      · have hle : t2 ≤ t1 := of_decide_eq_true hc
        show false = decide (Sm l)
        symm
        refine decide_eq_false fun hs => ?_
        have := sm_iff_next.mp hs _ _ _ h1 h2
        omega
      · have hle : ¬ t2 ≤ t1 := of_decide_eq_false hc
        intro i x y hi hx hy
        rw [List.length_append, List.length_singleton] at hi
        by_cases hi' : i < p.length
        · exact hI i x y hi' hx hy
        · have e : i = p.length := by omega
          subst e
          rw [h1] at hx
          rw [h2] at hy
          cases hx
          cases hy
          omega
    · cases f with
      | ret y => exact hf
      | next _ =>
        have hf : ∀ (i : Nat) (x y : Int), i < ([] ++ rangeL 1 (l.length : Int)).length → l[i]? = some x → l[i + 1]? = some y → x < y := hf
        rw [List.nil_append, range_len] at hf
        exact sm_iff_next.mpr fun i x y hx hy => hf i x y (by have := (List.getElem?_eq_some_iff.mp hy).1; omega) hx hy
  · cases f with
    | next _ =>
      have hf : Sm l := hf
      exact okk_ok (decide_eq_true hf).symm
    | ret y => exact okk_ok hf
theorem law_join_eq {a b : List Int} (h : a.length + b.length ≤ 16777216) : m_law_join a b = .ok (joinF a b) := by
  unfold m_law_join
  show Res.bind (catR (_ : List Int) (_ : List Int)) _ = _
  rw [map_id_fun, map_id_fun, cat_eq (Nat.le_trans (Nat.add_le_add (List.length_filter_le _ _) (List.length_filter_le _ _)) h)]
  rfl
theorem law_row_eq (l : List Int) : m_law_row l = .ok true := by
  unfold m_law_row
  refine okk_is (okk_bind (P := fun f => ∃ s, f = .next s) (okk_each (fun _ => True) trivial (fun x s _ _ => ?_) fun s _ => ⟨s, rfl⟩) fun f hf => ?_)
  · unfold m_law_whole
    exact okk_ok ⟨(), rfl, trivial⟩
  · obtain ⟨s, rfl⟩ := hf
    exact okk_ok rfl
theorem law_same_eq (a b : List Int) : m_law_same a b = .ok (decide (a = b)) := by
  unfold m_law_same
  rw [law_row_eq]
  rfl
theorem law_bag_ok (ns : List Int) : Okk (m_law_bag ns) (fun b => 0 ≤ b.i) := by
  unfold m_law_bag
  refine okk_bind (P := fun f => ∃ s, f = .next s) (okk_each (fun _ => True) trivial (fun x s _ _ => ?_) fun s _ => ⟨s, rfl⟩) fun f hf => ?_
  · rw [mul_eq (.inr ⟨by decide, by decide⟩)]
    show Okk (Res.bind (modR _ _) _) _
    rw [mod_eq (by decide)]
    exact okk_ok ⟨_, rfl, trivial⟩
  · obtain ⟨s, rfl⟩ := hf
    exact okk_ok (Int.le_refl 0)
theorem pull_okk {ω : Type} {b : Bag} {many : Int} (hi : 0 ≤ b.i) (h : 0 < many) (h' : many < 1073741824) : Okk (Res.noex (m_law_pull b many) : Res ω _) (fun y => 0 ≤ y.1 ∧ y.1 < many ∧ 0 ≤ y.2.i) := by
  obtain ⟨r, b', e, h1, h2, h3⟩ := pull_ok hi h h'
  exact okk_noex ⟨_, e, h1, h2, h3⟩
end SB

namespace SB
open PySem PySem.Spec PyProof.Rows L2 Res
/-! ## refusals -/
theorem ex_L {ω ω' α β : Type} {m : Res ω' α} {g : ω' → ω} {f : α → Res ω β} {e : Exn} {w : ω'} (h : m = .ex e w) : Res.bind (Res.lift g m) f = .ex e (g w) := by
  rw [h]
  rfl
theorem ok_L {ω ω' α β : Type} {m : Res ω' α} {g : ω' → ω} {f : α → Res ω β} {a : α} {r : Res ω β} (h : m = .ok a) (k : f a = r) : Res.bind (Res.lift g m) f = r := by
  rw [h]
  exact k
theorem ok_N {ω ω' α β : Type} {m : Res ω' α} {f : α → Res ω β} {a : α} {r : Res ω β} (h : m = .ok a) (k : f a = r) : Res.bind (Res.noex m) f = r := by
  rw [h]
  exact k
theorem ok_S {ω α β : Type} {m : Res ω α} {f : α → Res ω β} {a : α} {r : Res ω β} (h : m = .ok a) (k : f a = r) : Res.bind m f = r := by
  rw [h]
  exact k
theorem ex_S {ω α β : Type} {m : Res ω α} {f : α → Res ω β} {e : Exn} {w : ω} (h : m = .ex e w) : Res.bind m f = .ex e w := by
  rw [h]
  rfl
theorem ite_y {ω α : Type} {c : Bool} {m n r : Res ω α} (h : c = true) (k : m = r) : (if c = true then m else n) = r := by
  rw [h]
  exact k
theorem ite_n {ω α : Type} {c : Bool} {m n r : Res ω α} (h : c = false) (k : n = r) : (if c = true then m else n) = r := by
  rw [h]
  exact k
theorem okk_try {ωb ω σT γ : Type} {mb : Res ωb σT} {mh : Exn → ωb → Res ω σT} {f : σT → Res ω γ} {s : σT} {P : γ → Prop} (h : mb = .ok s) (k : Okk (f s) P) : Okk (Res.bind (tryM mb mh) f) P := by
  rw [h]
  exact k
theorem okk_tryX {ωb ω σT γ : Type} {mb : Res ωb σT} {mh : Exn → ωb → Res ω σT} {f : σT → Res ω γ} {e : Exn} {w : ωb} {P : γ → Prop} (h : mb = .ex e w) (k : Okk (Res.bind (mh e w) f) P) : Okk (Res.bind (tryM mb mh) f) P := by
  rw [h]
  exact k
theorem for_ex {ω α β : Type} {body : α → Unit → Res ω (Fl β Unit)} {bad : α → Prop} {e : Exn} {w : ω} (h1 : ∀ x, bad x → body x () = .ex e w) (h2 : ∀ x, ¬ bad x → body x () = .ok (.next ())) : ∀ {xs : List α}, (∃ x ∈ xs, bad x) → forM body xs () = .ex e w
  | [], h => by
    obtain ⟨x, hx, _⟩ := h
    cases hx
  | x :: xs, h => by
    unfold forM
    by_cases hx : bad x
    · rw [h1 x hx]
      rfl
    · rw [h2 x hx]
      obtain ⟨y, hy, hb⟩ := h
      cases hy with
      | head => exact absurd hb hx
      | tail _ hy => exact for_ex h1 h2 ⟨y, hy, hb⟩
end SB

namespace SB
open PySem PySem.Spec PyProof.Rows L2 Res
theorem pw_get {α : Type} {Q : α → α → Prop} : ∀ {l : List α} {i j : Nat} {x y : α}, l.Pairwise Q → l[i]? = some x → l[j]? = some y → i < j → Q x y
  | [], _, _, _, _, _, h, _, _ => by cases h
  | z :: l, 0, j + 1, x, y, hp, hx, hy, _ => by
    rw [List.pairwise_cons] at hp
    rw [← Option.some.inj (show some z = some x from hx)]
    exact hp.1 y (List.mem_of_getElem? (show l[j]? = some y from hy))
  | z :: l, i + 1, j + 1, x, y, hp, hx, hy, hij => pw_get (List.pairwise_cons.mp hp).2 (show l[i]? = some x from hx) (show l[j]? = some y from hy) (by omega)
end SB

namespace SB
open PySem PySem.Spec PyProof.Rows L2 Res
theorem rising_ok {l : List Int} (hl : l.length ≤ 100000) : m_law_rising l = .ok (decide (Sm l)) := by
  unfold m_law_rising
  by_cases c : Sm l
  · rw [decide_eq_true c]
    refine okk_is (okk_bind (P := fun g => g = Fl.next ()) (okk_st (rg_eq (by omega)) (okk_each (fun _ => True) trivial (fun z _ hz _ => ?_) fun _ _ => rfl)) fun g hg => by
      rw [hg]
      exact okk_ok rfl)
    have hb := mem_range.mp hz
    have g1 := List.getElem?_eq_getElem (l := l) (i := (z - 1).toNat) (by omega)
    have g2 := List.getElem?_eq_getElem (l := l) (i := z.toNat) (by omega)
    have := pw_get c g1 g2 (by omega)
    refine okk_st (ix_eq (by rw [atI_of (by omega) (by omega)]; exact g1)) (okk_st (ix_eq (by rw [atI_of (by omega) (by omega)]; exact g2)) (okk_no (decide_eq_false (by omega)) (okk_ok ⟨_, rfl, trivial⟩)))
  · rw [decide_eq_false c]
    have hex : ∃ i : Nat, i + 1 < l.length ∧ ∃ x y, l[i]? = some x ∧ l[i + 1]? = some y ∧ y ≤ x := by
      by_cases w : ∃ i : Nat, i + 1 < l.length ∧ ∃ x y, l[i]? = some x ∧ l[i + 1]? = some y ∧ y ≤ x
      · exact w
      · refine absurd ?_ c
        have : ∀ l : List Int, (¬ ∃ i : Nat, i + 1 < l.length ∧ ∃ x y, l[i]? = some x ∧ l[i + 1]? = some y ∧ y ≤ x) → Sm l := by
          intro l
          induction l with
          | nil => exact fun _ => .nil
          | cons x l ih =>
            intro h
            have h1 := ih fun ⟨i, hi, u, v, e1, e2, e3⟩ => h ⟨i + 1, by rw [List.length_cons]; omega, u, v, e1, e2, e3⟩
            refine List.pairwise_cons.mpr ⟨fun y hy => ?_, h1⟩
            cases l with
            | nil => cases hy
            | cons z l =>
              have hxz : x < z := by
                by_cases w : x < z
                · exact w
                · exact absurd ⟨0, by rw [List.length_cons, List.length_cons]; omega, x, z, rfl, rfl, by omega⟩ h
              cases hy with
              | head => exact hxz
              | tail _ hy =>
                have := (List.pairwise_cons.mp h1).1 y hy
                omega
        exact this l w
    obtain ⟨i, hi, x, y, e1, e2, e3⟩ := hex
    have key : ∀ (xs : List Int), ((i : Int) + 1) ∈ xs → (∀ z ∈ xs, 1 ≤ z ∧ z < (l.length : Int)) → Okk (forM (ω := Unit) (β := Bool) (fun z2 (s7 : Unit) => Res.bind (ixR l (z2 - (1 : Int))) fun t26 => Res.bind (ixR l z2) fun t27 => if (decide (t27 ≤ t26)) = true then .ok (.ret (false)) else .ok (.next ())) xs ()) (fun g => g = Fl.ret false) := by
      intro xs
      induction xs with
      | nil => exact fun h => (nomatch h)
      | cons z xs ih =>
        intro hm hb
        have hz := hb z List.mem_cons_self
        obtain ⟨u, g1⟩ : ∃ u, l[(z - 1).toNat]? = some u := ⟨_, List.getElem?_eq_getElem (by omega)⟩
        obtain ⟨v, g2⟩ : ∃ v, l[z.toNat]? = some v := ⟨_, List.getElem?_eq_getElem (by omega)⟩
        have eb : (Res.bind (ixR l (z - (1 : Int))) fun t26 => Res.bind (ixR l z) fun t27 => if (decide (t27 ≤ t26)) = true then (.ok (.ret (false)) : Res Unit (Fl Bool Unit)) else .ok (.next ())) = if decide (v ≤ u) = true then .ok (.ret false) else .ok (.next ()) := by
          rw [ix_eq (x := u) (by rw [atI_of (by omega) (by omega)]; exact g1)]
          show (Res.bind (ixR l z) _) = _
          rw [ix_eq (x := v) (by rw [atI_of (by omega) (by omega)]; exact g2)]
          rfl
        unfold forM
        rw [eb]
        by_cases w : v ≤ u
        · rw [decide_eq_true w]
          exact okk_ok rfl
        · rw [decide_eq_false w]
          cases hm with
          | head =>
            exfalso
            rw [show ((i : Int) + 1 - 1).toNat = i by omega, e1] at g1
            rw [show ((i : Int) + 1).toNat = i + 1 by omega, e2] at g2
            rw [← Option.some.inj g1, ← Option.some.inj g2] at w
            exact w e3
          | tail _ hm => exact ih hm fun u hu => hb u (List.mem_cons_of_mem _ hu)
    refine okk_is (okk_bind (P := fun g => g = Fl.ret false) (okk_st (rg_eq (by omega)) (key _ (mem_range.mpr (by omega)) fun z hz => mem_range.mp hz)) fun g hg => by
      rw [hg]
      exact okk_ok rfl)
theorem ins_okk {ω : Type} {l : List Int} {i x : Int} (h0 : 0 ≤ i) (h1 : i ≤ 100000) (hl : l.length ≤ 100000) : Okk (insR l i x : Res ω (List Int)) (fun y => y.length = l.length + 1) := by
  unfold insR
  have h3 : (100000 : Nat) < sizeLine := by decide
  have h4 : (2 : Int) ^ 63 = 9223372036854775808 := by decide
  rw [if_pos ⟨by omega, h0, by omega⟩]
  refine okk_ok ?_
  rw [List.length_append, List.length_append, List.length_take, List.length_drop, List.length_singleton]
  omega
end SB

namespace SB
open PySem PySem.Spec PyProof.Rows L2 Res
/-! ## texts of sums -/
theorem tl_len (x : Str) : (TL.tl x).length = x.length := Array.length_toList
theorem str_tl {x y : Str} : x = y ↔ TL.tl x = TL.tl y := ⟨fun h => by rw [h], fun h => TL.ext_tl h⟩
theorem tl_plus : TL.tl ("+" : Str) = [43] := by decide +kernel
theorem tl_dash : TL.tl ("-" : Str) = [45] := by decide +kernel
theorem tl_zero : TL.tl ("0" : Str) = [48] := by decide +kernel
theorem tl_none : TL.tl ("" : Str) = [] := by decide +kernel
theorem tl_figs : TL.tl ("0123456789" : Str) = [48, 49, 50, 51, 52, 53, 54, 55, 56, 57] := by decide +kernel
theorem fig_iff (c : Nat) : c ∈ (Str.cps ("0123456789" : Str)).toList ↔ 48 ≤ c ∧ c ≤ 57 := by
  show c ∈ TL.tl ("0123456789" : Str) ↔ _
  rw [tl_figs]
  simp only [List.mem_cons, List.not_mem_nil, or_false]
  omega
theorem spl_len {S : List Nat} : ∀ (l : List Nat) (k : Nat) (acc : List Nat), ∀ p ∈ TL.spl S k acc l, p.length ≤ acc.length + l.length
  | [], k, acc, p, h => by
    rw [TL.spl_nil] at h
    rw [List.mem_singleton.mp h]
    exact Nat.le_add_right _ _
  | c :: r, 0, acc, p, h => by
    cases hp : TL.pre S (c :: r) with
    | true =>
      rw [TL.spl_hit hp] at h
      rw [List.length_cons]
      cases h with
      | head => omega
      | tail _ h =>
        have := spl_len r (S.length - 1) [] p h
        rw [List.length_nil] at this
        omega
    | false =>
      rw [TL.spl_miss hp] at h
      have := spl_len r 0 (acc ++ [c]) p h
      rw [List.length_append, List.length_singleton] at this
      rw [List.length_cons]
      omega
  | c :: r, k + 1, acc, p, h => by
    have := spl_len r k acc p h
    rw [List.length_cons]
    omega
theorem split_tl {x y : Str} {c : Nat} (ey : TL.tl y = [c]) (hk : c < 256) : (Txt.split x y).map TL.tl = TL.spl [c] 0 [] (TL.tl x) := by
  have h := TL.split_spl x y (by rw [ey]; simp) (TL.kind_ok (by
    rw [← Array.all_toList]
    show (TL.tl y).all _ = true
    rw [ey]
    simpa using hk))
  rw [h, ey]
theorem split_part {x y p : Str} {c : Nat} (ey : TL.tl y = [c]) (hk : c < 256) (h : p ∈ Txt.split x y) : p.length ≤ x.length := by
  have hm : TL.tl p ∈ (Txt.split x y).map TL.tl := List.mem_map_of_mem h
  rw [split_tl ey hk] at hm
  have := spl_len _ _ _ _ hm
  rw [← tl_len, ← tl_len]
  simpa using this
theorem split_count {x y : Str} : (Txt.split x y).length ≤ x.length + 2 := split_le x y
/-! ## numbers -/
def numB (w : Str) : Bool := decide (TL.tl w ≠ []) && decide (w.length ≤ 9) && (TL.tl w).all (fun c => decide (48 ≤ c ∧ c ≤ 57)) && !(decide ((TL.tl w).head? = some 48) && decide (1 < w.length))
def numF (w : Str) : Int := ((NumText.digitsVal (TL.tl w) : Nat) : Int)
theorem int_eq {ω : Type} {w : Str} (h1 : TL.tl w ≠ []) (h2 : w.length ≤ 9) (h3 : ∀ c ∈ TL.tl w, 48 ≤ c ∧ c ≤ 57) : (intSR w : Res ω Int) = .ok (numF w) := by
  unfold intSR
  rw [if_pos (by omega), PySem.intText_digits (x := w) h3 h1 (by omega)]
  rfl
theorem len_eq {ω : Type} {w : Str} (h : w.length ≤ 1000000) : (lenSR w : Res ω Int) = .ok (w.length : Int) := by
  unfold lenSR
  rw [if_pos h]
theorem at0_eq {ω : Type} {w : Str} {c : Nat} {r : List Nat} (h : w.length ≤ 1000000) (e : TL.tl w = c :: r) : (ixSR w 0 : Res ω Chr) = .ok ⟨c⟩ := by
  unfold ixSR
  rw [if_pos h]
  have : atI w.cps.toList 0 = some c := by
    rw [atI_of (Int.le_refl 0) (by show (0 : Int) < ((TL.tl w).length : Int); rw [e, List.length_cons]; omega)]
    show (TL.tl w)[(0 : Int).toNat]? = _
    rw [e]
    rfl
  rw [this]
theorem chr_zero (c : Nat) : (decide (Chr.s ⟨c⟩ = ("0" : Str))) = decide (c = 48) := by
  refine decide_eq_decide.mpr ?_
  rw [str_tl, tl_zero]
  show [c] = [48] ↔ _
  simp
theorem chrs_all {w : Str} : (∀ z ∈ chrs w, 48 ≤ z.c ∧ z.c ≤ 57) ↔ ∀ c ∈ TL.tl w, 48 ≤ c ∧ c ≤ 57 := by
  unfold chrs
  constructor
  · exact fun h c hc => h ⟨c⟩ (List.mem_map_of_mem hc)
  · intro h z hz
    obtain ⟨c, hc, rfl⟩ := List.mem_map.mp hz
    exact h c hc
theorem num_true {w : Str} (h : numB w = true) : TL.tl w ≠ [] ∧ w.length ≤ 9 ∧ (∀ c ∈ TL.tl w, 48 ≤ c ∧ c ≤ 57) ∧ ¬ ((TL.tl w).head? = some 48 ∧ 1 < w.length) := by
  unfold numB at h
  simp only [Bool.and_eq_true, decide_eq_true_eq, List.all_eq_true, Bool.not_eq_true', Bool.and_eq_false_iff, decide_eq_false_iff_not] at h
  obtain ⟨⟨⟨h1, h2⟩, h3⟩, h4⟩ := h
  refine ⟨h1, h2, h3, fun ⟨a, b⟩ => ?_⟩
  rcases h4 with h4 | h4
  · exact h4 a
  · exact h4 b
theorem num_of {w : Str} (h1 : TL.tl w ≠ []) (h2 : w.length ≤ 9) (h3 : ∀ c ∈ TL.tl w, 48 ≤ c ∧ c ≤ 57) (h4 : ¬ ((TL.tl w).head? = some 48 ∧ 1 < w.length)) : numB w = true := by
  unfold numB
  simp only [Bool.and_eq_true, decide_eq_true_eq, List.all_eq_true, Bool.not_eq_true', Bool.and_eq_false_iff, decide_eq_false_iff_not]
  refine ⟨⟨⟨h1, h2⟩, h3⟩, ?_⟩
  by_cases a : (TL.tl w).head? = some 48
  · exact .inr fun b => h4 ⟨a, b⟩
  · exact .inl a
theorem number_loop {ω β : Type} {w : Str} {at_ : Int} {u : ω} : forM (β := β) (fun (z1 : Chr) (_ : Unit) => if (!(decide (z1.c ∈ (Str.cps ("0123456789" : Str)).toList))) = true then (.ex (.atRow at_) u : Res ω (Fl β Unit)) else .ok (.next ())) (chrs w) () = if (∀ c ∈ TL.tl w, 48 ≤ c ∧ c ≤ 57) then .ok (.next ()) else .ex (.atRow at_) u := by
  by_cases h : ∀ c ∈ TL.tl w, 48 ≤ c ∧ c ≤ 57
  · rw [if_pos h]
    have : ∀ l : List Chr, (∀ z ∈ l, 48 ≤ z.c ∧ z.c ≤ 57) → forM (β := β) (fun (z1 : Chr) (_ : Unit) => if (!(decide (z1.c ∈ (Str.cps ("0123456789" : Str)).toList))) = true then (.ex (.atRow at_) u : Res ω (Fl β Unit)) else .ok (.next ())) l () = .ok (.next ()) := by
      intro l
      induction l with
      | nil => exact fun _ => rfl
      | cons z l ih =>
        intro hl
        unfold forM
        rw [decide_eq_true ((fig_iff z.c).mpr (hl z List.mem_cons_self))]
        exact ih fun y hy => hl y (List.mem_cons_of_mem _ hy)
    exact this _ (chrs_all.mpr h)
  · rw [if_neg h]
    refine for_ex (bad := fun z : Chr => ¬ (48 ≤ z.c ∧ z.c ≤ 57)) (fun z hz => ?_) (fun z hz => ?_) ?_
    · rw [decide_eq_false fun q => hz ((fig_iff z.c).mp q)]
      rfl
    · have hz : 48 ≤ z.c ∧ z.c ≤ 57 := Classical.byContradiction hz
      rw [decide_eq_true ((fig_iff z.c).mpr hz)]
      rfl
    · refine Classical.byContradiction fun q => h (chrs_all.mp fun z hz => Classical.byContradiction fun y => q ⟨z, hz, y⟩)
theorem number_ok {w : Str} {at_ : Int} (h : numB w = true) : m_number_of w at_ = .ok (numF w) := by
  obtain ⟨h1, h2, h3, h4⟩ := num_true h
  unfold m_number_of
  rw [number_loop, if_pos h3]
  obtain ⟨c, r, e⟩ : ∃ c r, TL.tl w = c :: r := by
    cases q : TL.tl w with
    | nil => exact absurd q h1
    | cons c r => exact ⟨c, r, rfl⟩
  refine st_st rfl (st_st (a := false) ?_ (st_st (int_eq h1 h2 h3) rfl))
  rw [or_no (decide_eq_false fun q => h1 (by rw [q, tl_none]))]
  refine st_st (len_eq (by omega)) ?_
  rw [or_no (decide_eq_false (by omega))]
  refine st_st (at0_eq (by omega) e) ?_
  rw [chr_zero]
  by_cases c0 : c = 48
  · rw [and_yes (decide_eq_true c0)]
    refine st_st (len_eq (by omega)) ?_
    rw [decide_eq_false fun q => h4 ⟨by rw [e, c0]; rfl, by omega⟩]
  · rw [decide_eq_false c0]
    rfl
theorem number_no {w : Str} {at_ : Int} (h : numB w = false) (hl : w.length ≤ 100000) : m_number_of w at_ = .ex (.atRow at_) () := by
  unfold m_number_of
  rw [number_loop]
  by_cases h3 : ∀ c ∈ TL.tl w, 48 ≤ c ∧ c ≤ 57
  · rw [if_pos h3]
    refine ok_S rfl (ok_S (a := true) ?_ (ite_y rfl rfl))
    by_cases h1 : TL.tl w = []
    · rw [decide_eq_true (show w = ("" : Str) from str_tl.mpr (by rw [h1, tl_none]))]
      rfl
    · rw [or_no (decide_eq_false fun q => h1 (by rw [q, tl_none]))]
      refine st_st (len_eq (by omega)) ?_
      by_cases h2 : w.length ≤ 9
      · rw [or_no (decide_eq_false (by omega))]
        obtain ⟨c, r, e⟩ : ∃ c r, TL.tl w = c :: r := by
          cases q : TL.tl w with
          | nil => exact absurd q h1
          | cons c r => exact ⟨c, r, rfl⟩
        have h4 : (TL.tl w).head? = some 48 ∧ 1 < w.length := Classical.byContradiction fun q => by
          rw [num_of h1 h2 h3 q] at h
          cases h
        have c0 : c = 48 := by
          have := h4.1
          rw [e] at this
          exact Option.some.inj this
        refine st_st (at0_eq (by omega) e) ?_
        rw [chr_zero, and_yes (decide_eq_true c0)]
        refine st_st (len_eq (by omega)) ?_
        rw [decide_eq_true (by omega)]
      · rw [decide_eq_true (show (9 : Int) < (w.length : Int) by omega)]
        rfl
  · rw [if_neg h3]
    rfl
/-! ## sums -/
/-- the sum that a text writes -/
def readF (x : Str) : Option (List Int) := if x = ("-" : Str) then some [] else if ((Txt.split x ("+" : Str)).all numB && decide (Sm ((Txt.split x ("+" : Str)).map numF))) = true then some ((Txt.split x ("+" : Str)).map numF) else none
theorem split_eq {ω : Type} {x y : Str} (hy : y.length = 1) (h : x.length ≤ 1000000) : (splitSR x y : Res ω _) = .ok (Txt.split x y) := by
  unfold splitSR
  rw [if_pos ⟨by rw [hy]; rfl, h⟩]
theorem mapX_ok {ω α β : Type} {body : α → Res ω β} {g : α → β} : ∀ {l : List α}, (∀ x ∈ l, body x = .ok (g x)) → mapX body l = .ok (l.map g)
  | [], _ => rfl
  | x :: l, h => by
    unfold mapX
    rw [h x List.mem_cons_self]
    show Res.bind (mapX body l) _ = _
    rw [mapX_ok fun y hy => h y (List.mem_cons_of_mem _ hy)]
    rfl
theorem mapX_ex {ω α β : Type} {body : α → Res ω β} {g : α → β} {p : α → Prop} {e : Exn} {w : ω} : ∀ {l : List α}, (∀ x ∈ l, p x → body x = .ok (g x)) → (∀ x ∈ l, ¬ p x → body x = .ex e w) → (∃ x ∈ l, ¬ p x) → mapX body l = .ex e w
  | [], _, _, ⟨x, hx, _⟩ => (nomatch hx)
  | x :: l, h1, h2, h3 => by
    unfold mapX
    by_cases c : p x
    · rw [h1 x List.mem_cons_self c]
      show Res.bind (mapX body l) _ = _
      obtain ⟨y, hy, hn⟩ := h3
      cases hy with
      | head => exact absurd c hn
      | tail _ hy => rw [mapX_ex (fun z hz => h1 z (List.mem_cons_of_mem _ hz)) (fun z hz => h2 z (List.mem_cons_of_mem _ hz)) ⟨y, hy, hn⟩]; rfl
    · rw [h2 x List.mem_cons_self c]
      rfl
theorem plus_len : (("+" : Str)).length = 1 := by decide +kernel
theorem sum_of_ok {x : Str} {at_ : Int} (hl : x.length ≤ 100000) : m_sum_of x at_ = match readF x with | some r => .ok r | none => .ex (.atRow at_) () := by
  unfold m_sum_of readF
  by_cases c : x = ("-" : Str)
  · rw [if_pos c]
    exact ite_y (decide_eq_true c) rfl
  rw [if_neg c]
  have hc := split_count (x := x) (y := ("+" : Str))
  refine ite_n (decide_eq_false c) (ok_S (split_eq plus_len (by omega)) ?_)
  have hp : ∀ p ∈ Txt.split x ("+" : Str), p.length ≤ 100000 := fun p hp => Nat.le_trans (split_part tl_plus (by decide) hp) hl
  by_cases a : (Txt.split x ("+" : Str)).all numB = true
  · have e : mapX (ω := Unit) (β := Int) (fun (z16 : Str) => Res.bind (Res.lift (fun w => ()) (m_number_of z16 at_)) fun y28 => .ok y28) (Txt.split x ("+" : Str)) = .ok ((Txt.split x ("+" : Str)).map numF) := mapX_ok fun w hw => ok_L (number_ok (List.all_eq_true.mp a w hw)) rfl
    refine ok_S e (ok_N (is_sum_eq (by rw [List.length_map]; omega)) ?_)
    by_cases s : Sm ((Txt.split x ("+" : Str)).map numF)
    · rw [a, decide_eq_true s]
      rfl
    · rw [a, decide_eq_false s]
      rfl
  · have a' : (Txt.split x ("+" : Str)).all numB = false := by
      cases q : (Txt.split x ("+" : Str)).all numB with
      | true => exact absurd q a
      | false => rfl
    have hex : ∃ w ∈ Txt.split x ("+" : Str), ¬ numB w = true := by
      refine Classical.byContradiction fun q => a (List.all_eq_true.mpr fun w hw => Classical.byContradiction fun y => q ⟨w, hw, y⟩)
    have e : mapX (ω := Unit) (β := Int) (fun (z16 : Str) => Res.bind (Res.lift (fun w => ()) (m_number_of z16 at_)) fun y28 => .ok y28) (Txt.split x ("+" : Str)) = .ex (.atRow at_) () := mapX_ex (g := numF) (p := fun w => numB w = true) (fun w hw h => ok_L (number_ok h) rfl) (fun w hw h => ex_L (number_no (by cases q : numB w with | true => exact absurd q h | false => rfl) (hp w hw))) hex
    refine ex_S e |>.trans ?_
    rw [a']
    rfl
/-! ## sums written -/
def shownF (row : List Int) : Str := if row = [] then ("-" : Str) else Txt.join ("+" : Str) (row.map fun x => Str.ofString (toString x))
def txt (x : Int) : Str := Str.ofString (toString x)
theorem txt_tl {x : Int} (h : 0 ≤ x) : TL.tl (txt x) = TL.numL x.toNat := by
  have e : x = ((x.toNat : Nat) : Int) := by omega
  unfold txt
  rw [e, TL.tl_num]
  rfl
theorem txt_len {x : Int} (h0 : 0 ≤ x) (h1 : x < 10 ^ 9) : (txt x).length ≤ 9 := by
  rw [← tl_len, txt_tl h0]
  exact TL.numL_len (by decide) (by
    have : (10 : Int) ^ 9 = 1000000000 := by decide
    have h2 : (10 : Nat) ^ 9 = 1000000000 := by decide
    omega)
theorem numL_head : ∀ n : Nat, n ≠ 0 → (TL.numL n).head? ≠ some 48 := by
  intro n
  induction n using Nat.strongRecOn with
  | _ n ih =>
    intro hn
    by_cases h : n < 10
    · rw [TL.numL_lt h]
      show some (48 + n) ≠ some 48
      intro q
      have := Option.some.inj q
      omega
    · rw [TL.numL_step (by omega)]
      have h1 := ih (n / 10) (by omega) (by omega)
      have h2 := TL.numL_ne (n / 10)
      cases e : TL.numL (n / 10) with
      | nil => exact absurd e h2
      | cons c r =>
        rw [e] at h1
        exact h1
theorem txt_num {x : Int} (h0 : 0 ≤ x) (h1 : x < 10 ^ 9) : numB (txt x) = true := by
  have ht := txt_tl h0
  refine num_of (by rw [ht]; exact TL.numL_ne _) (txt_len h0 h1) (by rw [ht]; exact TL.numL_digits _) fun ⟨a, b⟩ => ?_
  rw [ht] at a
  by_cases z : x.toNat = 0
  · rw [← tl_len, ht, z] at b
    exact absurd b (by decide +kernel)
  · exact numL_head _ z a
theorem txt_val {x : Int} (h0 : 0 ≤ x) : numF (txt x) = x := by
  unfold numF
  rw [txt_tl h0, TL.numL_val]
  omega
theorem txt_free {x : Int} (h0 : 0 ≤ x) {s : Nat} (h : s < 48 ∨ 57 < s) : s ∉ TL.tl (txt x) := by
  rw [txt_tl h0]
  exact TL.numL_free h
theorem strI_eq {ω : Type} {x : Int} (h0 : 0 ≤ x) (h1 : x < 10 ^ 9) : (strIR x : Res ω Str) = .ok (txt x) := by
  unfold strIR
  have : x.natAbs.log2 < 1920 := by
    have h2 : (10 : Int) ^ 9 = 1000000000 := by decide
    have : x.natAbs < 2 ^ 30 := by
      have : (2 : Nat) ^ 30 = 1073741824 := by decide
      omega
    by_cases z : x.natAbs = 0
    · rw [z]
      decide
    · exact Nat.lt_trans ((Nat.log2_lt z).mpr this) (by decide)
  rw [if_pos this]
  rfl
theorem join_eq_ {ω : Type} {ys : List Str} (h : ∀ y ∈ ys, y.length ≤ 9) (hl : ys.length ≤ 100000) : (joinSR ("+" : Str) ys : Res ω Str) = .ok (Txt.join ("+" : Str) ys) := by
  unfold joinSR
  rw [plus_len]
  have : (ys.map (·.length)).sum ≤ 9 * ys.length := by
    clear hl
    induction ys with
    | nil => exact Nat.le_refl _
    | cons y ys ih =>
      have h1 := ih fun z hz => h z (List.mem_cons_of_mem _ hz)
      have h2 := h y List.mem_cons_self
      rw [List.map_cons, List.sum_cons, List.length_cons]
      omega
  rw [if_pos (by omega)]
theorem shown_ok {row : List Int} (h : ∀ x ∈ row, 0 ≤ x ∧ x < 10 ^ 9) (hl : row.length ≤ 100000) : m_shown_sum row = .ok (shownF row) := by
  unfold m_shown_sum shownF
  by_cases c : row = []
  · rw [if_pos c]
    exact ite_y (decide_eq_true c) rfl
  rw [if_neg c]
  refine ite_n (decide_eq_false c) ?_
  have e := comp_eq (ω := Unit) (body := fun z8 (s14 : Unit) => Res.bind (strIR z8) fun t28 => .ok (some t28, ())) (g := fun z => some (txt z)) row fun x hx => st_st (strI_eq (h x hx).1 (h x hx).2) rfl
  have e2 : row.filterMap (fun z => some (txt z)) = row.map txt := congrFun (List.filterMap_eq_map (f := txt)) row
  rw [e2] at e
  refine st_st e (st_st (join_eq_ (fun y hy => ?_) (by rw [List.length_map]; exact hl)) rfl)
  obtain ⟨x, hx, rfl⟩ := List.mem_map.mp hy
  exact txt_len (h x hx).1 (h x hx).2
theorem join_not {row : List Int} (h : ∀ x ∈ row, 0 ≤ x) (hne : row ≠ []) : Txt.split (Txt.join ("+" : Str) (row.map txt)) ("+" : Str) = row.map txt := by
  refine TL.split_join (s := 43) (S := []) tl_plus (by decide +kernel) (fun e => hne (List.map_eq_nil_iff.mp e)) fun p hp => ?_
  obtain ⟨x, hx, rfl⟩ := List.mem_map.mp hp
  exact txt_free (h x hx) (.inl (by decide))
theorem read_shown {row : List Int} (hs : Sm row) (h : ∀ x ∈ row, 0 ≤ x ∧ x < 10 ^ 9) : readF (shownF row) = some row := by
  unfold readF shownF
  by_cases c : row = []
  · rw [if_pos c, if_pos rfl, c]
  · rw [if_neg c]
    have e := join_not (fun x hx => (h x hx).1) c
    show (if Txt.join ("+" : Str) (row.map txt) = ("-" : Str) then some [] else if ((Txt.split (Txt.join ("+" : Str) (row.map txt)) ("+" : Str)).all numB && decide (Sm ((Txt.split (Txt.join ("+" : Str) (row.map txt)) ("+" : Str)).map numF))) = true then some ((Txt.split (Txt.join ("+" : Str) (row.map txt)) ("+" : Str)).map numF) else none) = some row
    rw [e]
    have e2 : (row.map txt).map numF = row := by
      rw [List.map_map]
      have : ∀ l : List Int, (∀ x ∈ l, 0 ≤ x) → l.map (numF ∘ txt) = l := by
        intro l
        induction l with
        | nil => exact fun _ => rfl
        | cons x l ih =>
          intro hl
          rw [List.map_cons, ih fun y hy => hl y (List.mem_cons_of_mem _ hy)]
          exact congrArg (· :: l) (txt_val (hl x List.mem_cons_self))
      exact this row fun x hx => (h x hx).1
    have e3 : (row.map txt).all numB = true := List.all_eq_true.mpr fun w hw => by
      obtain ⟨x, hx, rfl⟩ := List.mem_map.mp hw
      exact txt_num (h x hx).1 (h x hx).2
    rw [if_neg, e2, e3, decide_eq_true hs]
    · rfl
    · intro q
      rw [q] at e
      have e4 : Txt.split ("-" : Str) ("+" : Str) = [("-" : Str)] := by decide +kernel
      rw [e4] at e
      have hn : numB ("-" : Str) = true := by
        rw [← e] at e3
        exact List.all_eq_true.mp e3 _ List.mem_cons_self
      exact absurd hn (by decide +kernel)
end SB

-- chunk CSums
-- chunk CRef
-- chunk CPw
-- chunk CRise
-- chunk CText
namespace SB
open PySem PySem.Spec PyProof.Rows L2 Res
theorem law_read_ok {x : Str} (hl : x.length ≤ 90000) : m_law_read x = .ok (readF x) := by
  unfold m_law_read readF
  by_cases c : x = ("-" : Str)
  · rw [if_pos c]
    exact ite_y (decide_eq_true c) rfl
  rw [if_neg c]
  have hc := split_count (x := x) (y := ("+" : Str))
  refine ite_n (decide_eq_false c) (ok_S (split_eq plus_len (by omega)) ?_)
  have hp : ∀ p ∈ Txt.split x ("+" : Str), p.length ≤ 100000 := fun p hp => Nat.le_trans (split_part tl_plus (by decide) hp) (by omega)
  generalize Txt.split x ("+" : Str) = ps at hc hp ⊢
  -- one word
  have word : ∀ (w : Str) (s : List Int), w.length ≤ 100000 → s.length < 200000 → (Res.bind (orR (decide (w = ("" : Str))) (Res.bind (lenSR w) fun t60 => orR (decide ((9 : Int) < t60)) (Res.bind (Res.bind (strR w) fun l => .ok ((l.filter (fun z61 => (!(decide (z61.c ∈ (Str.cps ("0123456789" : Str)).toList))))).map (fun z61 => z61))) fun t91 => .ok (!decide (t91.length = 0))))) fun b52 => if b52 = true then .ok (.ret ((none : (Option (List Int))))) else Res.bind (Res.bind (ixSR w (0 : Int)) fun t117 => andR (decide ((Chr.s t117) = ("0" : Str))) (.ok (!(decide (w = ("0" : Str)))))) fun b109 => if b109 = true then .ok (.ret ((none : (Option (List Int))))) else Res.bind (intSR w) fun t120 => Res.bind (appR s t120) fun t121 => .ok (.next t121) : Res Unit (Fl (Option (List Int)) (List Int))) = .ok (if numB w = true then .next (s ++ [numF w]) else .ret none) := fun w s hw hs => by
    have chk : ∀ {ω : Type}, (Res.bind (Res.bind (strR w) fun l => .ok ((l.filter (fun z61 => (!(decide (z61.c ∈ (Str.cps ("0123456789" : Str)).toList))))).map (fun z61 => z61))) fun t91 => .ok (!decide (t91.length = 0)) : Res ω Bool) = .ok (!decide (∀ c ∈ TL.tl w, 48 ≤ c ∧ c ≤ 57)) := fun {ω} => by
      have e1 : (strR w : Res ω _) = .ok (chrs w) := by
        unfold strR
        rw [if_pos (by omega)]
      refine st_st (st_st e1 rfl) ?_
      congr 2
      refine decide_eq_decide.mpr ?_
      rw [List.length_eq_zero_iff, List.map_eq_nil_iff, List.filter_eq_nil_iff, ← chrs_all]
      constructor
      · intro h z hz
        refine Classical.byContradiction fun q => h z hz ?_
        rw [decide_eq_false fun y => q ((fig_iff z.c).mp y)]
        rfl
      · intro h z hz
        rw [decide_eq_true ((fig_iff z.c).mpr (h z hz))]
        exact fun y => (nomatch y)
    by_cases h1 : TL.tl w = []
    · have hn : ¬ numB w = true := fun q => (num_true q).1 h1
      rw [if_neg hn]
      refine ok_S (a := true) ?_ (ite_y rfl rfl)
      rw [decide_eq_true (show w = ("" : Str) from str_tl.mpr (by rw [h1, tl_none]))]
      rfl
    obtain ⟨c, r, e⟩ : ∃ c r, TL.tl w = c :: r := by
      cases q : TL.tl w with
      | nil => exact absurd q h1
      | cons c r => exact ⟨c, r, rfl⟩
    have n1 : decide (w = ("" : Str)) = false := decide_eq_false fun q => h1 (by rw [q, tl_none])
    by_cases h2 : w.length ≤ 9
    · by_cases h3 : ∀ c ∈ TL.tl w, 48 ≤ c ∧ c ≤ 57
      · refine ok_S (a := false) ?_ (ite_n rfl ?_)
        · rw [or_no n1]
          refine st_st (len_eq (by omega)) ?_
          rw [or_no (decide_eq_false (by omega)), chk, decide_eq_true h3]
          rfl
        · have e2 : (Res.bind (ixSR w (0 : Int)) fun t117 => andR (decide ((Chr.s t117) = ("0" : Str))) (.ok (!(decide (w = ("0" : Str))))) : Res Unit Bool) = .ok (!numB w) := by
            refine st_st (at0_eq (by omega) e) ?_
            rw [chr_zero]
            by_cases c0 : c = 48
            · rw [and_yes (decide_eq_true c0)]
              congr 1
              have hl := tl_len w
              rw [e, List.length_cons] at hl
              by_cases z : w = ("0" : Str)
              · rw [decide_eq_true z, num_of h1 h2 h3 fun q => ?_]
                have : r = [] := by
                  have := str_tl.mp z
                  rw [e, tl_zero] at this
                  injection this
                rw [this, List.length_nil] at hl
                omega
              · rw [decide_eq_false z]
                cases q : numB w with
                | false => rfl
                | true =>
                  exfalso
                  refine (num_true q).2.2.2 ⟨by rw [e, c0]; rfl, ?_⟩
                  cases r with
                  | nil => exact absurd (str_tl.mpr (by rw [e, tl_zero, c0])) z
                  | cons y r =>
                    rw [List.length_cons] at hl
                    omega
            · rw [decide_eq_false c0, num_of h1 h2 h3 fun q => ?_]
              · rfl
              · have := q.1
                rw [e] at this
                exact c0 (Option.some.inj this)
          refine ok_S e2 ?_
          cases q : numB w with
          | false => exact ite_y rfl rfl
          | true => exact ite_n rfl (ok_S (int_eq h1 h2 h3) (ok_S (app_eq (by omega)) rfl))
      · have hn : ¬ numB w = true := fun q => h3 (num_true q).2.2.1
        rw [if_neg hn]
        refine ok_S (a := true) ?_ (ite_y rfl rfl)
        rw [or_no n1]
        refine st_st (len_eq (by omega)) ?_
        rw [or_no (decide_eq_false (by omega)), chk, decide_eq_false h3]
        rfl
    · have hn : ¬ numB w = true := fun q => h2 (num_true q).2.1
      rw [if_neg hn]
      refine ok_S (a := true) ?_ (ite_y rfl rfl)
      rw [or_no n1]
      refine st_st (len_eq (by omega)) ?_
      rw [decide_eq_true (show (9 : Int) < (w.length : Int) by omega)]
      rfl
  have loop : ∀ (l : List Str) (s : List Int), (∀ w ∈ l, w.length ≤ 100000) → s.length + l.length ≤ 150000 → forM (ω := Unit) (β := (Option (List Int))) (fun z27 (s32 : (List Int)) => Res.bind (orR (decide (z27 = ("" : Str))) (Res.bind (lenSR z27) fun t60 => orR (decide ((9 : Int) < t60)) (Res.bind (Res.bind (strR z27) fun l => .ok ((l.filter (fun z61 => (!(decide (z61.c ∈ (Str.cps ("0123456789" : Str)).toList))))).map (fun z61 => z61))) fun t91 => .ok (!decide (t91.length = 0))))) fun b52 => if b52 = true then .ok (.ret ((none : (Option (List Int))))) else Res.bind (Res.bind (ixSR z27 (0 : Int)) fun t117 => andR (decide ((Chr.s t117) = ("0" : Str))) (.ok (!(decide (z27 = ("0" : Str)))))) fun b109 => if b109 = true then .ok (.ret ((none : (Option (List Int))))) else Res.bind (intSR z27) fun t120 => Res.bind (appR s32 t120) fun t121 => .ok (.next t121)) l s = .ok (if l.all numB = true then .next (s ++ l.map numF) else .ret none) := by
    intro l
    induction l with
    | nil =>
      intro s _ _
      rw [List.map_nil, List.append_nil]
      rfl
    | cons w l ih =>
      intro s hw hs
      rw [List.length_cons] at hs
      unfold forM
      rw [word w s (hw w List.mem_cons_self) (by omega)]
      by_cases q : numB w = true
      · rw [if_pos q]
        show forM _ l (s ++ [numF w]) = _
        rw [ih (s ++ [numF w]) (fun y hy => hw y (List.mem_cons_of_mem _ hy)) (by rw [List.length_append, List.length_singleton]; omega), List.all_cons, q, Bool.true_and, List.map_cons, List.append_assoc]
        rfl
      · rw [if_neg q, List.all_cons]
        have : numB w = false := by
          cases y : numB w with
          | true => exact absurd y q
          | false => rfl
        rw [this, Bool.false_and]
        rfl
  refine ok_S (loop ps [] hp (by rw [List.length_nil]; omega)) ?_
  by_cases a : ps.all numB = true
  · rw [if_pos a, a, List.nil_append, Bool.true_and]
    show m_law_read_s1 (ps.map numF) = _
    unfold m_law_read_s1
    refine ok_N (rising_ok (by rw [List.length_map]; omega)) ?_
    by_cases s : Sm (ps.map numF)
    · rw [decide_eq_true s]
      rfl
    · rw [decide_eq_false s]
      rfl
  · have a' : ps.all numB = false := by
      cases q : ps.all numB with
      | true => exact absurd q a
      | false => rfl
    rw [if_neg a, a', Bool.false_and]
    rfl
theorem read_sum_ok {x : Str} (hl : x.length ≤ 100000) : m_read_sum x = match readF x with | some r => .ok r | none => .ex (.atRow 0) () := by
  unfold m_read_sum
  have h := sum_of_ok (at_ := 0) hl
  cases e : readF x with
  | some r =>
    rw [e] at h
    exact ok_L h rfl
  | none =>
    rw [e] at h
    exact ex_L h
theorem told_ok {x : Str} (hl : x.length ≤ 100000) : m_law_told x = .ok (match readF x with | some r => (some r, -1) | none => (none, 0)) := by
  unfold m_law_told
  have h := read_sum_ok hl
  cases e : readF x with
  | some r =>
    rw [e] at h
    exact okk_is (okk_try (s := (some r, -1)) (ok_L h rfl) (okk_ok rfl))
  | none =>
    rw [e] at h
    exact okk_is (okk_tryX (e := .atRow 0) (w := ()) (ex_L h) (okk_st (a := (none, 0)) rfl (okk_ok rfl)))
theorem wide_ok {b : Bag} (hi : 0 ≤ b.i) : Okk (m_law_wide b) (fun y => Sm y.1 ∧ (∀ x ∈ y.1, 0 ≤ x ∧ x < 10 ^ 9) ∧ y.1.length ≤ 10 ∧ 0 ≤ y.2.i) := by
  unfold m_law_wide
  refine okk_bind (pull_okk hi (by decide) (by decide)) fun y hy => ?_
  refine okk_bind (P := fun f => ∃ s : List Int × Bag, f = .next s ∧ Sm s.1 ∧ (∀ x ∈ s.1, 0 ≤ x ∧ x < 10 ^ 9) ∧ s.1.length ≤ 10 ∧ 0 ≤ s.2.i) (okk_st (rg_eq (by omega)) (okk_loop (fun p (s : List Int × Bag) => Sm s.1 ∧ (∀ x ∈ s.1, 0 ≤ x ∧ x < 10 ^ 9) ∧ s.1.length ≤ p.length ∧ 0 ≤ s.2.i) ⟨.nil, fun _ h => (nomatch h), Nat.le_refl _, hy.2.2⟩ (fun p x r s hp hs => ?_) fun s hs => ⟨s, rfl, hs.1, hs.2.1, ?_, hs.2.2.2⟩)) fun f hf => ?_
  · have hp10 : p.length < 10 := by
      have e := congrArg List.length hp
      rw [range_len, List.length_append, List.length_cons] at e
      omega
    refine okk_bind (pull_okk hs.2.2.2 (by decide) (by decide)) fun z hz => okk_bind (P := fun t => 0 < t ∧ t ≤ 10 ^ 9) (okk_mem hz.1 hz.2.1 (by decide)) fun t ht => okk_bind (pull_okk hz.2.2 ht.1 (by
      have : (10 : Int) ^ 9 = 1000000000 := by decide
      omega)) fun u hu => ?_
    have l := hs.2.2.1
    refine okk_stN (law_join_eq (by rw [List.length_singleton]; omega)) (okk_ok ⟨_, rfl, sm_join hs.1 (List.pairwise_singleton _ _), fun x hx => ?_, ?_, hu.2.2⟩)
    · rcases mem_join.mp hx with ⟨h, _⟩ | ⟨h, _⟩
      · exact hs.2.1 x h
      · rw [List.mem_singleton.mp h]
        have := hu.1
        have := hu.2.1
        omega
    · have := join_len s.1 [u.1]
      rw [List.length_singleton] at this
      rw [List.length_append, List.length_singleton]
      show (joinF s.1 [u.1]).length ≤ p.length + 1
      omega
  · have := hs.2.2.1
    rw [range_len] at this
    omega
  · obtain ⟨s, rfl, hs⟩ := hf
    exact okk_ok hs
theorem cut_len (x : Str) (lo hi : Option Int) : (cutS x lo hi).length ≤ x.length := by
  show (((x.cps.toList.drop _).take _).toArray).size ≤ x.cps.size
  rw [List.size_toArray, List.length_take, List.length_drop, Array.length_toList]
  omega
theorem cut_eq {ω : Type} {x : Str} {lo hi : Option Int} (h : x.length ≤ 1000000) : (cutSR x lo hi : Res ω Str) = .ok (cutS x lo hi) := by
  unfold cutSR
  rw [if_pos h]
theorem add_len (x y : Str) : (x ++ y).length = x.length + y.length := by
  rw [← tl_len, TL.tl_append, List.length_append, tl_len, tl_len]
theorem add_eq {ω : Type} {x y : Str} (h : x.length + y.length ≤ 1000000) : (addSR x y : Res ω Str) = .ok (x ++ y) := by
  unfold addSR
  rw [if_pos h]
theorem spoilt_ok {b : Bag} {x : Str} (hi : 0 ≤ b.i) (hl : x.length ≤ 1000) : Okk (m_law_spoilt b x) (fun y => y.1.length ≤ 5000) := by
  unfold m_law_spoilt
  refine okk_bind (pull_okk hi (by decide) (by decide)) fun w hw => okk_if (fun _ => ?_) fun _ => ?_
  · refine okk_bind (pull_okk hw.2.2 (by decide) (by decide)) fun y hy => okk_bind (P := fun t => t.length ≤ 5000) (okk_mem hy.1 hy.2.1 (by decide +kernel)) fun t ht => okk_ok ht
  · refine okk_st (len_eq (by omega)) (okk_bind (pull_okk hw.2.2 (by omega) (by omega)) fun y hy => okk_bind (pull_okk hy.2.2 (by decide) (by decide)) fun z hz => ?_)
    have hs : Okk (ixSR ("0123456789+- ,ax_." : Str) z.1 : Res Bag Chr) (fun _ => True) := by
      unfold ixSR
      rw [if_pos (by decide +kernel)]
      have hlen : ((("0123456789+- ,ax_." : Str).cps.toList.length : Nat) : Int) = 18 := by decide +kernel
      rw [atI_of hz.1 (by rw [hlen]; exact hz.2.1), List.getElem?_eq_getElem (by have := hz.1; have := hz.2.1; omega)]
      exact ⟨_, rfl, trivial⟩
    refine okk_bind hs fun c _ => ?_
    have c1 := fun lo hi => cut_len x lo hi
    have cl : (Chr.s c).length = 1 := rfl
    refine okk_if (fun _ => ?_) fun _ => okk_if (fun _ => ?_) fun _ => ?_
    · have h1 := c1 none (some y.1)
      have h2 := c1 (some (y.1 + 1)) none
      refine okk_st (cut_eq (by omega)) (okk_st (cut_eq (by omega)) (okk_st (add_eq (by omega)) (okk_ok ?_)))
      dsimp only
      rw [add_len]
      omega
    · have h1 := c1 none (some y.1)
      have h2 := c1 (some (y.1 + 1)) none
      refine okk_st (cut_eq (by omega)) (okk_st (add_eq (by omega)) (okk_st (cut_eq (by omega)) (okk_st (add_eq (by rw [add_len]; omega)) (okk_ok ?_))))
      dsimp only
      rw [add_len, add_len]
      omega
    · have h1 := c1 none (some y.1)
      have h2 := c1 (some y.1) none
      refine okk_st (cut_eq (by omega)) (okk_st (add_eq (by omega)) (okk_st (cut_eq (by omega)) (okk_st (add_eq (by rw [add_len]; omega)) (okk_ok ?_))))
      dsimp only
      rw [add_len, add_len]
      omega
theorem sevens : TL.tl (PySem.Txt.mul ("7" : Str) 5000) = List.replicate 5000 55 := by
  unfold PySem.Txt.mul
  rw [if_neg (by decide), if_neg (by decide +kernel)]
  show ((List.replicate (5000 : Int).toNat ("7" : Str).cps).foldl (· ++ ·) #[]).toList = _
  have : ∀ (n : Nat) (acc : Array Nat), ((List.replicate n ("7" : Str).cps).foldl (· ++ ·) acc).toList = acc.toList ++ List.replicate n 55 := by
    intro n
    induction n with
    | zero =>
      intro acc
      rw [List.replicate_zero, List.replicate_zero, List.append_nil]
      rfl
    | succ n ih =>
      intro acc
      have e : ("7" : Str).cps.toList = [55] := by decide +kernel
      rw [List.replicate_succ, List.foldl_cons, ih, Array.toList_append, e, List.append_assoc, List.replicate_succ]
      rfl
  have h := this 5000 #[]
  rw [List.nil_append] at h
  exact h
theorem sevens_no : readF (PySem.Txt.mul ("7" : Str) 5000) = none := by
  have hs := sevens
  generalize PySem.Txt.mul ("7" : Str) 5000 = x at hs ⊢
  have hl : x.length = 5000 := by rw [← tl_len, hs, List.length_replicate]
  have hp : (Txt.split x ("+" : Str)).map TL.tl = [TL.tl x] := by
    rw [split_tl tl_plus (by decide), TL.spl_last1 (S := []), List.nil_append]
    rw [hs]
    intro h
    exact absurd (List.eq_of_mem_replicate h) (by decide)
  have e : Txt.split x ("+" : Str) = [x] := TL.map_tl_inj hp
  unfold readF
  rw [if_neg, e]
  · have : numB x = false := by
      cases q : numB x with
      | false => rfl
      | true =>
        have := (num_true q).2.1
        omega
    rw [List.all_cons, this]
    rfl
  · intro q
    rw [q] at hl
    exact absurd hl (by decide +kernel)
theorem join_len_ {ys : List Str} (h : ∀ y ∈ ys, y.length ≤ 9) (hl : ys.length ≤ 10) : (Txt.join ("+" : Str) ys).length ≤ 1000 := by
  rw [TL.join_eq]
  have h1 := StrLaws.join_length_le ("+" : Str) ys
  rw [plus_len] at h1
  have : (ys.map (·.length)).sum ≤ 9 * ys.length := by
    clear hl h1
    induction ys with
    | nil => exact Nat.le_refl _
    | cons y ys ih =>
      have h1 := ih fun z hz => h z (List.mem_cons_of_mem _ hz)
      have h2 := h y List.mem_cons_self
      rw [List.map_cons, List.sum_cons, List.length_cons]
      omega
  omega
theorem law_true (ns : List Int) : m_law ns = .ok true := by
  unfold m_law
  refine okk_is (okk_bind (okk_noex (law_bag_ok ns)) fun b hb => okk_bind (okk_noex (wide_ok hb)) fun w hw => ?_)
  obtain ⟨row, b1⟩ := w
  obtain ⟨h1, h2, h3, h4⟩ := hw
  have h1 : Sm row := h1
  have h2 : ∀ x ∈ row, 0 ≤ x ∧ x < 10 ^ 9 := h2
  have h3 : row.length ≤ 10 := h3
  have h4 : 0 ≤ b1.i := h4
  dsimp only
  have hr : ∀ y ∈ row.map txt, y.length ≤ 9 := fun y hy => by
    obtain ⟨x, hx, rfl⟩ := List.mem_map.mp hy
    exact txt_len (h2 x hx).1 (h2 x hx).2
  have hsl : (shownF row).length ≤ 1000 := by
    unfold shownF
    by_cases c : row = []
    · rw [if_pos c]
      decide +kernel
    · rw [if_neg c]
      exact join_len_ hr (by rw [List.length_map]; exact h3)
  refine okk_bind (P := fun f => f = Fl.next (shownF row)) (okk_if (fun hc => ?_) fun hc => ?_) fun f hf => ?_
  · have c : row ≠ [] := by simpa using hc
    have e := comp_eq (ω := Unit) (body := fun z8 (s14 : Unit) => Res.bind (strIR z8) fun t28 => .ok (some t28, ())) (g := fun z => some (txt z)) row fun x hx => st_st (strI_eq (h2 x hx).1 (h2 x hx).2) rfl
    have e2 : row.filterMap (fun z => some (txt z)) = row.map txt := congrFun (List.filterMap_eq_map (f := txt)) row
    rw [e2] at e
    refine okk_st e (okk_st (join_eq_ hr (by rw [List.length_map]; omega)) (okk_ok ?_))
    unfold shownF
    rw [if_neg c]
    rfl
  · have c : row = [] := by simpa using hc
    refine okk_ok ?_
    unfold shownF
    rw [if_pos c]
  subst hf
  refine okk_stN (shown_ok h2 (by omega)) (okk_st (a := false) ?_ (okk_no rfl ?_))
  · rw [decide_eq_true rfl, decide_eq_true rfl]
    rfl
  unfold m_law_s2
  have e1 := read_sum_ok (x := shownF row) (by omega)
  rw [read_shown h1 h2] at e1
  refine okk_stN e1 (okk_stN (law_same_eq _ _) (okk_no (by rw [decide_eq_true rfl]; rfl) ?_))
  have e2 : ∀ {ω : Type}, (mulSR ("7" : Str) 5000 : Res ω Str) = .ok (PySem.Txt.mul ("7" : Str) 5000) := fun {ω} => by
    unfold mulSR
    rw [if_pos ⟨by decide +kernel, by decide, by decide⟩]
  have hl7 : (PySem.Txt.mul ("7" : Str) 5000).length = 5000 := by rw [← tl_len, sevens, List.length_replicate]
  have e3 := told_ok (x := PySem.Txt.mul ("7" : Str) 5000) (by omega)
  rw [sevens_no] at e3
  refine okk_st e2 (okk_stN e3 (okk_no (by rw [decide_eq_true rfl]; rfl) (okk_bind (okk_noex (spoilt_ok h4 hsl)) fun y hy => ?_)))
  have hy : y.1.length ≤ 5000 := hy
  refine okk_stN (law_read_ok (by omega)) (okk_stN (told_ok (by omega)) ?_)
  cases e : readF y.1 with
  | none => exact okk_yes rfl (okk_yes rfl (okk_stN (by unfold m_law_whole; rfl) (okk_yes rfl (okk_ok rfl))))
  | some r =>
    refine okk_no rfl ?_
    unfold m_law_s3
    exact okk_st (get_eq rfl) (okk_st (get_eq rfl) (okk_stN (law_same_eq _ _) (okk_ok (decide_eq_true rfl))))
end SB

namespace SB
open PySem PySem.Spec PyProof.Rows L2 Res
theorem kit_ref {K : PySem.W.Frag} {C D : Addr} {b : Bool} (hdct : PySem.W.hasDictIn K D = true) (ht : PySem.W.typeIn K (.ref D) = some (.type "type")) (h4 : PySem.W.subIn K (.ref C) (.ref D) = some b) (hn : (b || !(C == D)) = true) : PySem.W.kitOne K (.ref C) (.ref D) = some b := by
  obtain ⟨cd, hc, _⟩ := PySem.W.any_some hdct
  have e2 : ((PySem.W.clsIn K D).isSome && PySem.W.typeIn K (.ref D) == some (.type "type")) = true := by rw [hc, ht] <;> rfl
  unfold PySem.W.kitOne
  by_cases c : ((Value.ref C) == (Value.ref D)) = true
  · rw [if_pos c]
    have : C = D := Value.ref.inj (beq_iff_eq.mp c)
    subst this
    rw [beq_self_eq_true] at hn
    cases b with
    | true => rfl
    | false => cases hn
  · rw [if_neg c]
    unfold PySem.W.kitCls
    show (if ((PySem.W.clsIn K D).isSome && PySem.W.typeIn K (.ref D) == some (.type "type")) = true then PySem.W.subIn K (.ref C) (.ref D) else none) = some b
    rw [if_pos e2]
    exact h4
theorem all_mk {l : PySem.W.OpenLaw} {w : World} {K : PySem.W.Frag} {h : Heap} {mg : Str → Option Value} {fa f_law_bag f_law_pull f_law_join f_law_wide f_shown_sum f_number_of f_is_sum f_sum_of f_read_sum f_law_whole f_law_row f_law_same f_law_told f_law_spoilt f_law_rising f_law_read f_law f_BadRow_init C_BadRow : Addr} (X : K.In h) (G : h.Ns mainGlobals mg) (hfa : mg "law" = some (.ref fa))
    {fd_law_bag : FuncData} {fd_law_pull : FuncData} {fd_law_join : FuncData} {fd_law_wide : FuncData} {fd_shown_sum : FuncData} {fd_number_of : FuncData} {fd_is_sum : FuncData} {fd_sum_of : FuncData} {fd_read_sum : FuncData} {fd_law_whole : FuncData} {fd_law_row : FuncData} {fd_law_same : FuncData} {fd_law_told : FuncData} {fd_law_spoilt : FuncData} {fd_law_rising : FuncData} {fd_law_read : FuncData} {fd_law : FuncData} {fd_BadRow_init : FuncData}
    (a_law_bag : PySem.W.nsIn K mainGlobals "_law_bag" = some (some (.ref f_law_bag)))
    (a_law_pull : PySem.W.nsIn K mainGlobals "_law_pull" = some (some (.ref f_law_pull)))
    (a_law_join : PySem.W.nsIn K mainGlobals "_law_join" = some (some (.ref f_law_join)))
    (a_law_wide : PySem.W.nsIn K mainGlobals "_law_wide" = some (some (.ref f_law_wide)))
    (a_shown_sum : PySem.W.nsIn K mainGlobals "shown_sum" = some (some (.ref f_shown_sum)))
    (a_number_of : PySem.W.nsIn K mainGlobals "number_of" = some (some (.ref f_number_of)))
    (a_is_sum : PySem.W.nsIn K mainGlobals "is_sum" = some (some (.ref f_is_sum)))
    (a_sum_of : PySem.W.nsIn K mainGlobals "sum_of" = some (some (.ref f_sum_of)))
    (a_read_sum : PySem.W.nsIn K mainGlobals "read_sum" = some (some (.ref f_read_sum)))
    (a_law_whole : PySem.W.nsIn K mainGlobals "_law_whole" = some (some (.ref f_law_whole)))
    (a_law_row : PySem.W.nsIn K mainGlobals "_law_row" = some (some (.ref f_law_row)))
    (a_law_same : PySem.W.nsIn K mainGlobals "_law_same" = some (some (.ref f_law_same)))
    (a_law_told : PySem.W.nsIn K mainGlobals "_law_told" = some (some (.ref f_law_told)))
    (a_law_spoilt : PySem.W.nsIn K mainGlobals "_law_spoilt" = some (some (.ref f_law_spoilt)))
    (a_law_rising : PySem.W.nsIn K mainGlobals "_law_rising" = some (some (.ref f_law_rising)))
    (a_law_read : PySem.W.nsIn K mainGlobals "_law_read" = some (some (.ref f_law_read)))
    (a_law : PySem.W.nsIn K mainGlobals "law" = some (some (.ref f_law)))
    (ca_BadRow : PySem.W.nsIn K mainGlobals "BadRow" = some (some (.ref C_BadRow)))
    (xl_BadRow : ∃ nm q N bs bm sn sub ab col dd k0 k1 k2 k3 k5, K.lookup C_BadRow = some (excClassObj nm q C_BadRow N bs bm true sn sub ab col dd k0 k1 k2 k3 k5 "ValueError.__new__") ∧ PySem.HandSPX.refsVE bm = true)
    (xs_BadRow : PySem.W.findIn K (.ref C_BadRow) "__setattr__" = some (some (.builtin "object.__setattr__")))
    (xe_BadRow : PySem.W.subIn K (.ref C_BadRow) (.type "BaseException") = some true)
    (xt_BadRow : PySem.W.typeIn K (.ref C_BadRow) = some (.type "type"))
    (xk_BadRow : PySem.W.keepIn K (.ref C_BadRow) = true)
    (xn_BadRow : PySem.W.findIn K (.ref C_BadRow) "at" = some none)
    (xa_BadRow : PySem.W.findIn K (.ref C_BadRow) "__getattribute__" = some (some (.builtin "BaseException.__getattribute__")))
    (xg_BadRow : PySem.W.findIn K (.ref C_BadRow) "__getattr__" = some none)
    (xh_BadRow : PySem.W.hasDictIn K C_BadRow = true)
    (xi_BadRow : PySem.W.findIn K (.ref C_BadRow) "__init__" = some (some (.ref f_BadRow_init)))
    (xy_BadRow : PySem.W.typeIn K (.ref f_BadRow_init) = some (.type "function"))
    (ee_BadRow : PySem.W.subIn K (.ref C_BadRow) (.type "BaseException") = some true)
    (eh_BadRow : PySem.W.hasDictIn K C_BadRow = true)
    (et_BadRow : PySem.W.typeIn K (.ref C_BadRow) = some (.type "type"))
    (em_BadRow_BadRow : PySem.W.subIn K (.ref C_BadRow) (.ref C_BadRow) = some true)
    (z_len : PySem.W.nsIn K mainGlobals "len" = some none)
    (z_range : PySem.W.nsIn K mainGlobals "range" = some none)
    (z_sorted : PySem.W.nsIn K mainGlobals "sorted" = some none)
    (z_list : PySem.W.nsIn K mainGlobals "list" = some none)
    (z_isinstance : PySem.W.nsIn K mainGlobals "isinstance" = some none)
    (z_int : PySem.W.nsIn K mainGlobals "int" = some none)
    (z_bool : PySem.W.nsIn K mainGlobals "bool" = some none)
    (z_enumerate : PySem.W.nsIn K mainGlobals "enumerate" = some none)
    (z_str : PySem.W.nsIn K mainGlobals "str" = some none)
    (z_FIGURES : ∃ t, mg "FIGURES" = some (.str "0123456789" t))
    (F_law_bag : Fun K "_law_bag" "_law_bag" s_law_bag f_law_bag fd_law_bag)
    (F_law_pull : Fun K "_law_pull" "_law_pull" s_law_pull f_law_pull fd_law_pull)
    (F_law_join : Fun K "_law_join" "_law_join" s_law_join f_law_join fd_law_join)
    (F_law_wide : Fun K "_law_wide" "_law_wide" s_law_wide f_law_wide fd_law_wide)
    (F_shown_sum : Fun K "shown_sum" "shown_sum" s_shown_sum f_shown_sum fd_shown_sum)
    (F_number_of : Fun K "number_of" "number_of" s_number_of f_number_of fd_number_of)
    (F_is_sum : Fun K "is_sum" "is_sum" s_is_sum f_is_sum fd_is_sum)
    (F_sum_of : Fun K "sum_of" "sum_of" s_sum_of f_sum_of fd_sum_of)
    (F_read_sum : Fun K "read_sum" "read_sum" s_read_sum f_read_sum fd_read_sum)
    (F_law_whole : Fun K "_law_whole" "_law_whole" s_law_whole f_law_whole fd_law_whole)
    (F_law_row : Fun K "_law_row" "_law_row" s_law_row f_law_row fd_law_row)
    (F_law_same : Fun K "_law_same" "_law_same" s_law_same f_law_same fd_law_same)
    (F_law_told : Fun K "_law_told" "_law_told" s_law_told f_law_told fd_law_told)
    (F_law_spoilt : Fun K "_law_spoilt" "_law_spoilt" s_law_spoilt f_law_spoilt fd_law_spoilt)
    (F_law_rising : Fun K "_law_rising" "_law_rising" s_law_rising f_law_rising fd_law_rising)
    (F_law_read : Fun K "_law_read" "_law_read" s_law_read f_law_read fd_law_read)
    (F_law : Fun K "law" "law" s_law f_law fd_law)
    (F_BadRow_init : Fun K "__init__" "BadRow.__init__" s_BadRow_init f_BadRow_init fd_BadRow_init)
    (B_law : ∀ (s : Shared) (v : Value), BindsTo s fd_law ⟨[v], []⟩ [("_law_script", v)]) :
    ∃ fd : FuncData, (∀ (s : Shared) (v : Value), BindsTo s fd ⟨[v], []⟩ [("_law_script", v)]) ∧ ∀ base : Heap, K.In base → base.Ns mainGlobals mg → FnOk l.prog w K mg base CX0 7 fa fd ["_law_script"] (sp_law ⟨fun _ => 0, 0, 0, 0, 0, 0, 0, 0, 0⟩ K) := by
  have e := hfa.symm.trans (PySem.W.mg_of X G a_law)
  cases e
  have bi : Bi mg := ⟨PySem.W.mg_none_of X G z_len, PySem.W.mg_none_of X G z_range, PySem.W.mg_none_of X G z_sorted, PySem.W.mg_none_of X G z_list, PySem.W.mg_none_of X G z_isinstance, PySem.W.mg_none_of X G z_int, PySem.W.mg_none_of X G z_bool, PySem.W.mg_none_of X G z_enumerate, PySem.W.mg_none_of X G z_str, (by obtain ⟨t, e⟩ := z_FIGURES; exact ⟨_, e, t, rfl⟩)⟩
  let T : Cs := ⟨fun k => match k with  | _ => 0, 0, 0, C_BadRow, 0, 0, 0, 0, 0⟩
  have XG_BadRow : mg "BadRow" = some (.ref T.row) := PySem.W.mg_of X G ca_BadRow
  have XO_BadRow : XoC K T.row "at" := ⟨⟨xl_BadRow, xs_BadRow, xe_BadRow, xt_BadRow, xk_BadRow⟩, xn_BadRow, ⟨xa_BadRow, xg_BadRow, xe_BadRow, xh_BadRow⟩⟩
  have em : Em K T := ⟨PySem.W.exm_ref ee_BadRow eh_BadRow et_BadRow em_BadRow_BadRow⟩
  have k_law_bag := F_law_bag.kp
  have b_law_bag := F_law_bag.binds (ps := ["_law_script"]) fun _ _ _ _ _ _ us hl => match us, hl with | [_], _ => rfl
  have k_law_pull := F_law_pull.kp
  have b_law_pull := F_law_pull.binds (ps := ["_law_bag_here", "_law_many"]) fun _ _ _ _ _ _ us hl => match us, hl with | [_, _], _ => rfl
  have k_law_join := F_law_join.kp
  have b_law_join := F_law_join.binds (ps := ["_law_one", "_law_other"]) fun _ _ _ _ _ _ us hl => match us, hl with | [_, _], _ => rfl
  have k_law_wide := F_law_wide.kp
  have b_law_wide := F_law_wide.binds (ps := ["_law_bag_here"]) fun _ _ _ _ _ _ us hl => match us, hl with | [_], _ => rfl
  have k_shown_sum := F_shown_sum.kp
  have b_shown_sum := F_shown_sum.binds (ps := ["row"]) fun _ _ _ _ _ _ us hl => match us, hl with | [_], _ => rfl
  have k_number_of := F_number_of.kp
  have b_number_of := F_number_of.binds (ps := ["text", "at"]) fun _ _ _ _ _ _ us hl => match us, hl with | [_, _], _ => rfl
  have k_is_sum := F_is_sum.kp
  have b_is_sum := F_is_sum.binds (ps := ["row"]) fun _ _ _ _ _ _ us hl => match us, hl with | [_], _ => rfl
  have k_sum_of := F_sum_of.kp
  have b_sum_of := F_sum_of.binds (ps := ["text", "at"]) fun _ _ _ _ _ _ us hl => match us, hl with | [_, _], _ => rfl
  have k_read_sum := F_read_sum.kp
  have b_read_sum := F_read_sum.binds (ps := ["line"]) fun _ _ _ _ _ _ us hl => match us, hl with | [_], _ => rfl
  have k_law_whole := F_law_whole.kp
  have b_law_whole := F_law_whole.binds (ps := ["_law_found"]) fun _ _ _ _ _ _ us hl => match us, hl with | [_], _ => rfl
  have k_law_row := F_law_row.kp
  have b_law_row := F_law_row.binds (ps := ["_law_found"]) fun _ _ _ _ _ _ us hl => match us, hl with | [_], _ => rfl
  have k_law_same := F_law_same.kp
  have b_law_same := F_law_same.binds (ps := ["_law_found", "_law_due"]) fun _ _ _ _ _ _ us hl => match us, hl with | [_, _], _ => rfl
  have k_law_told := F_law_told.kp
  have b_law_told := F_law_told.binds (ps := ["_law_text"]) fun _ _ _ _ _ _ us hl => match us, hl with | [_], _ => rfl
  have k_law_spoilt := F_law_spoilt.kp
  have b_law_spoilt := F_law_spoilt.binds (ps := ["_law_bag_here", "_law_text"]) fun _ _ _ _ _ _ us hl => match us, hl with | [_, _], _ => rfl
  have k_law_rising := F_law_rising.kp
  have b_law_rising := F_law_rising.binds (ps := ["_law_row_here"]) fun _ _ _ _ _ _ us hl => match us, hl with | [_], _ => rfl
  have k_law_read := F_law_read.kp
  have b_law_read := F_law_read.binds (ps := ["_law_text"]) fun _ _ _ _ _ _ us hl => match us, hl with | [_], _ => rfl
  have k_law := F_law.kp
  have k_BadRow_init := F_BadRow_init.kp
  have b_BadRow_init := F_BadRow_init.binds (ps := ["self", "at"]) fun _ _ _ _ _ _ us hl => match us, hl with | [_, _], _ => rfl
  refine ⟨fd_law, B_law, fun base _ _ => ?_⟩
  have XI_BadRow : XiC l.prog w K mg base T.row "at" f_BadRow_init _ := ⟨xi_BadRow, xy_BadRow, ok_BadRow_init F_BadRow_init, b_BadRow_init⟩
  have G_law_bag : Glob l.prog w K mg base CX0 1 "_law_bag" ["_law_script"] (sp_law_bag T K) f_law_bag _ := ⟨ok_law_bag (T := T) F_law_bag bi, PySem.W.mg_of X G a_law_bag, k_law_bag, b_law_bag⟩
  have G_law_pull : Glob l.prog w K mg base CX0 1 "_law_pull" ["_law_bag_here", "_law_many"] (sp_law_pull T K) f_law_pull _ := ⟨ok_law_pull (T := T) F_law_pull bi, PySem.W.mg_of X G a_law_pull, k_law_pull, b_law_pull⟩
  have G_law_join : Glob l.prog w K mg base CX0 1 "_law_join" ["_law_one", "_law_other"] (sp_law_join T K) f_law_join _ := ⟨ok_law_join (T := T) F_law_join bi, PySem.W.mg_of X G a_law_join, k_law_join, b_law_join⟩
  have G_law_wide : Glob l.prog w K mg base CX0 2 "_law_wide" ["_law_bag_here"] (sp_law_wide T K) f_law_wide _ := ⟨ok_law_wide (T := T) F_law_wide bi G_law_pull G_law_join, PySem.W.mg_of X G a_law_wide, k_law_wide, b_law_wide⟩
  have G_shown_sum : Glob l.prog w K mg base CX0 1 "shown_sum" ["row"] (sp_shown_sum T K) f_shown_sum _ := ⟨ok_shown_sum (T := T) F_shown_sum bi, PySem.W.mg_of X G a_shown_sum, k_shown_sum, b_shown_sum⟩
  have G_number_of : Glob l.prog w K mg base (L2.CX l.prog w) 3 "number_of" ["text", "at"] (sp_number_of T K) f_number_of _ := ⟨ok_number_of (T := T) F_number_of bi XO_BadRow XG_BadRow XI_BadRow, PySem.W.mg_of X G a_number_of, k_number_of, b_number_of⟩
  have G_is_sum : Glob l.prog w K mg base CX0 1 "is_sum" ["row"] (sp_is_sum T K) f_is_sum _ := ⟨ok_is_sum (T := T) F_is_sum bi, PySem.W.mg_of X G a_is_sum, k_is_sum, b_is_sum⟩
  have G_sum_of : Glob l.prog w K mg base (L2.CX l.prog w) 4 "sum_of" ["text", "at"] (sp_sum_of T K) f_sum_of _ := ⟨ok_sum_of (T := T) F_sum_of bi G_number_of G_is_sum XO_BadRow XG_BadRow XI_BadRow, PySem.W.mg_of X G a_sum_of, k_sum_of, b_sum_of⟩
  have G_read_sum : Glob l.prog w K mg base (L2.CX l.prog w) 5 "read_sum" ["line"] (sp_read_sum T K) f_read_sum _ := ⟨ok_read_sum (T := T) F_read_sum bi G_sum_of, PySem.W.mg_of X G a_read_sum, k_read_sum, b_read_sum⟩
  have G_law_whole : Glob l.prog w K mg base CX0 1 "_law_whole" ["_law_found"] (sp_law_whole T K) f_law_whole _ := ⟨ok_law_whole (T := T) F_law_whole bi, PySem.W.mg_of X G a_law_whole, k_law_whole, b_law_whole⟩
  have G_law_row : Glob l.prog w K mg base CX0 2 "_law_row" ["_law_found"] (sp_law_row T K) f_law_row _ := ⟨ok_law_row (T := T) F_law_row bi G_law_whole, PySem.W.mg_of X G a_law_row, k_law_row, b_law_row⟩
  have G_law_same : Glob l.prog w K mg base CX0 3 "_law_same" ["_law_found", "_law_due"] (sp_law_same T K) f_law_same _ := ⟨ok_law_same (T := T) F_law_same bi G_law_row, PySem.W.mg_of X G a_law_same, k_law_same, b_law_same⟩
  have G_law_told : Glob l.prog w K mg base CX0 6 "_law_told" ["_law_text"] (sp_law_told T K) f_law_told _ := ⟨ok_law_told (T := T) F_law_told bi G_read_sum XO_BadRow em XG_BadRow, PySem.W.mg_of X G a_law_told, k_law_told, b_law_told⟩
  have G_law_spoilt : Glob l.prog w K mg base CX0 2 "_law_spoilt" ["_law_bag_here", "_law_text"] (sp_law_spoilt T K) f_law_spoilt _ := ⟨ok_law_spoilt (T := T) F_law_spoilt bi G_law_pull, PySem.W.mg_of X G a_law_spoilt, k_law_spoilt, b_law_spoilt⟩
  have G_law_rising : Glob l.prog w K mg base CX0 1 "_law_rising" ["_law_row_here"] (sp_law_rising T K) f_law_rising _ := ⟨ok_law_rising (T := T) F_law_rising bi, PySem.W.mg_of X G a_law_rising, k_law_rising, b_law_rising⟩
  have G_law_read : Glob l.prog w K mg base CX0 2 "_law_read" ["_law_text"] (sp_law_read T K) f_law_read _ := ⟨ok_law_read (T := T) F_law_read bi G_law_rising, PySem.W.mg_of X G a_law_read, k_law_read, b_law_read⟩
  exact ok_law (T := T) F_law bi G_law_bag G_law_wide G_shown_sum G_read_sum G_law_same G_law_told G_law_spoilt G_law_read G_law_whole
theorem factsL {l : PySem.W.OpenLaw} {w : World} {K : Fr} {h : Heap} {mg : Str → Option Value} {fa : Addr} (KX : K.In h) (G : h.Ns mainGlobals mg) (hfa : mg ("law" : Str) = some (.ref fa)) (c : SaysB fnL exL K) :
    ∃ fd : FuncData, (∀ (s : Shared) (v : Value), BindsTo s fd ⟨[v], []⟩ [("_law_script", v)]) ∧ ∀ base : Heap, K.In base → base.Ns mainGlobals mg → FnOk l.prog w K mg base CX0 7 fa fd ["_law_script"] (sp_law ⟨fun _ => 0, 0, 0, 0, 0, 0, 0, 0, 0⟩ K) := by
  have ex := c.exs
  have ex0 := ex_bool ex 0 (b := (exL0 K).all id) rfl
  have ex1 := ex_bool ex 1 (b := (exL1 K).all id) rfl
  have ex2 := ex_bool ex 2 (b := (exL2 K).all id) rfl
  obtain ⟨fd_law_bag, G_law_bag⟩ := c.def_ 0 (d := fD_law_bag) rfl
  obtain ⟨fd_law_pull, G_law_pull⟩ := c.def_ 1 (d := fD_law_pull) rfl
  obtain ⟨fd_law_join, G_law_join⟩ := c.def_ 2 (d := fD_law_join) rfl
  obtain ⟨fd_law_wide, G_law_wide⟩ := c.def_ 3 (d := fD_law_wide) rfl
  obtain ⟨fd_shown_sum, G_shown_sum⟩ := c.def_ 4 (d := fD_shown_sum) rfl
  obtain ⟨fd_number_of, G_number_of⟩ := c.def_ 5 (d := fD_number_of) rfl
  obtain ⟨fd_is_sum, G_is_sum⟩ := c.def_ 6 (d := fD_is_sum) rfl
  obtain ⟨fd_sum_of, G_sum_of⟩ := c.def_ 7 (d := fD_sum_of) rfl
  obtain ⟨fd_read_sum, G_read_sum⟩ := c.def_ 8 (d := fD_read_sum) rfl
  obtain ⟨fd_law_whole, G_law_whole⟩ := c.def_ 9 (d := fD_law_whole) rfl
  obtain ⟨fd_law_row, G_law_row⟩ := c.def_ 10 (d := fD_law_row) rfl
  obtain ⟨fd_law_same, G_law_same⟩ := c.def_ 11 (d := fD_law_same) rfl
  obtain ⟨fd_law_told, G_law_told⟩ := c.def_ 12 (d := fD_law_told) rfl
  obtain ⟨fd_law_spoilt, G_law_spoilt⟩ := c.def_ 13 (d := fD_law_spoilt) rfl
  obtain ⟨fd_law_rising, G_law_rising⟩ := c.def_ 14 (d := fD_law_rising) rfl
  obtain ⟨fd_law_read, G_law_read⟩ := c.def_ 15 (d := fD_law_read) rfl
  obtain ⟨fd_law, G_law⟩ := c.def_ 16 (d := fD_law) rfl
  obtain ⟨fd_BadRow_init, G_BadRow_init⟩ := c.def_ 17 (d := fD_BadRow_init) rfl
  have B_law := FunD.bindsA (ps := ["_law_script"]) G_law fun _ _ _ _ _ _ us hl => match us, hl with | [_], _ => rfl
  exact all_mk (l := l) (w := w) (f_law_bag := (He.fAd K ("_law_bag", none))) (f_law_pull := (He.fAd K ("_law_pull", none))) (f_law_join := (He.fAd K ("_law_join", none))) (f_law_wide := (He.fAd K ("_law_wide", none))) (f_shown_sum := (He.fAd K ("shown_sum", none))) (f_number_of := (He.fAd K ("number_of", none))) (f_is_sum := (He.fAd K ("is_sum", none))) (f_sum_of := (He.fAd K ("sum_of", none))) (f_read_sum := (He.fAd K ("read_sum", none))) (f_law_whole := (He.fAd K ("_law_whole", none))) (f_law_row := (He.fAd K ("_law_row", none))) (f_law_same := (He.fAd K ("_law_same", none))) (f_law_told := (He.fAd K ("_law_told", none))) (f_law_spoilt := (He.fAd K ("_law_spoilt", none))) (f_law_rising := (He.fAd K ("_law_rising", none))) (f_law_read := (He.fAd K ("_law_read", none))) (f_law := (He.fAd K ("law", none))) (f_BadRow_init := (He.fAd K ("BadRow", some "__init__"))) (C_BadRow := (He.ga K "BadRow")) KX G hfa
    (ex_fact ex0 0 rfl)
    (ex_fact ex0 1 rfl)
    (ex_fact ex0 2 rfl)
    (ex_fact ex0 3 rfl)
    (ex_fact ex0 4 rfl)
    (ex_fact ex0 5 rfl)
    (ex_fact ex0 6 rfl)
    (ex_fact ex0 7 rfl)
    (ex_fact ex0 8 rfl)
    (ex_fact ex0 9 rfl)
    (ex_fact ex0 10 rfl)
    (ex_fact ex0 11 rfl)
    (ex_fact ex0 12 rfl)
    (ex_fact ex0 13 rfl)
    (ex_fact ex0 14 rfl)
    (ex_fact ex0 15 rfl)
    (ex_fact ex0 16 rfl)
    (ex_fact ex0 17 rfl)
    (xclB_ok (ex_bool ex0 18 rfl))
    (ex_fact ex0 19 rfl)
    (ex_fact ex1 0 rfl)
    (ex_fact ex1 1 rfl)
    (ex_fact ex1 2 rfl)
    (ex_fact ex1 3 rfl)
    (ex_fact ex1 4 rfl)
    (ex_fact ex1 5 rfl)
    (ex_fact ex1 6 rfl)
    (ex_fact ex1 7 rfl)
    (ex_fact ex1 8 rfl)
    (ex_fact ex1 9 rfl)
    (ex_fact ex1 10 rfl)
    (ex_fact ex1 11 rfl)
    (ex_fact ex1 12 rfl)
    (ex_fact ex1 13 rfl)
    (ex_fact ex1 14 rfl)
    (ex_fact ex1 15 rfl)
    (ex_fact ex1 16 rfl)
    (ex_fact ex1 17 rfl)
    (ex_fact ex1 18 rfl)
    (ex_fact ex1 19 rfl)
    (ex_fact ex2 0 rfl)
    (ex_fact ex2 1 rfl)
    (He.str_ok KX G (ex_bool ex2 2 rfl))
    (fun_of G_law_bag)
    (fun_of G_law_pull)
    (fun_of G_law_join)
    (fun_of G_law_wide)
    (fun_of G_shown_sum)
    (fun_of G_number_of)
    (fun_of G_is_sum)
    (fun_of G_sum_of)
    (fun_of G_read_sum)
    (fun_of G_law_whole)
    (fun_of G_law_row)
    (fun_of G_law_same)
    (fun_of G_law_told)
    (fun_of G_law_spoilt)
    (fun_of G_law_rising)
    (fun_of G_law_read)
    (fun_of G_law)
    (fun_of G_BadRow_init)
    (fun s v => B_law s [v] rfl)
end SB
open PySem PySem.W PyProof.Rows
set_option maxRecDepth 100000 in
set_option maxHeartbeats 0 in
theorem PySem.Challenge.cw_slimbody_k58_sums_written_and_read_holds : PySem.Challenge.rw_slimbody_k58_sums_written_and_read.Holds := by
  w_on; o_law
  refine HandSHeadRun.head_any (r := SB.rowL) (q := view SB.rowL.prog [23]) (H := SB.hkL) (ob := SB.obL) (M := 20000) (loose := SB.looseL) (d := HandSHeadRun.topDef SB.rowL.prog 23) (kwd := []) SB.obL_eq
    (by kernel_rfl) (fun s => by kernel_rfl) SB.runL (by kernel_rfl) (by kernel_rfl) (by kernel_rfl) (by rfl) (by first | assumption | decide +kernel) (by decide +kernel) ⟨rfl, rfl, rfl, rfl, rfl, by decide +kernel⟩ ?hw ?hc
  case hw => w_witness2
  case hc =>
    refine L2.walk_ofE (l := PySem.Challenge.rw_slimbody_k58_sums_written_and_read) (n := 63) (k := 7) (x := "_law_script") (CX := L2.CX0) rfl (by decide) (by kernel_rfl) ⟨rfl, by decide, by decide⟩ ?F (fun _ _ _ _ z => z)
    intro w mg fa h Y G hmg0
    obtain ⟨K, KX, c⟩ := Y
    have hmg : mg ("law" : PySem.Str) = some (.ref fa) := by
      have e : (HandSHeadRun.topDef SB.rowL.prog 23).name = ("law" : PySem.Str) := by kernel_rfl
      rw [← e]
      exact hmg0
    obtain ⟨fd, hb, hF⟩ := SB.factsL (l := PySem.Challenge.rw_slimbody_k58_sums_written_and_read) (w := w) KX G hmg c
    exact ⟨K, fd, SB.sp_law ⟨fun _ => 0, 0, 0, 0, 0, 0, 0, 0, 0⟩ K, KX, hb, fun H a ns hl _ hS => ⟨H, [], .ref a, ns, rfl, ⟨L2.Same.refl _, (fun _ h => nomatch h), trivial⟩, ⟨a, rfl, hS, hl⟩, by rw [SB.law_true ns]; exact fun _ _ _ _ => rfl⟩, hF⟩

