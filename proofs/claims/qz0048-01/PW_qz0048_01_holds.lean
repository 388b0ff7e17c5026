import PyProof.Rows.All
import Wide.All
import OpenK.AllK
import Wide.FinOn
import KE.KLcTest
import KE.BitLaws
import KE.KUnrMore
import KE.BytesK
import KE.LcTurns
import KE.KDictSum
import KE.KLam
import KE.KDictAnyGet
import Lean
import PySem.Challenge.RW_qz0048_01
set_option Elab.async false
set_option linter.all false
section
open PySem PySem.W PyProof.Rows
namespace Mine
def qw : Str := Str.ofString "a"
theorem qw_eq : qw = qw := rfl
end Mine
name_quick tw8246149913319957499 for Mine.qw by Mine.qw_eq
name_quick tw8075568018651887793 for Mine.qw by Mine.qw_eq
name_quick tw16751136340355185061 for Mine.qw by Mine.qw_eq
name_quick tw14979626087600564940 for Mine.qw by Mine.qw_eq
name_quick tw17695540273326950464 for Mine.qw by Mine.qw_eq
name_quick tw4874464608102201008 for Mine.qw by Mine.qw_eq
name_quick tw8807729213609662161 for Mine.qw by Mine.qw_eq
name_quick tw17196752437215537804 for Mine.qw by Mine.qw_eq
name_quick tw17654797139025312980 for Mine.qw by Mine.qw_eq
name_quick tw387338674003428930 for Mine.qw by Mine.qw_eq
name_quick tw7433093208181500128 for Mine.qw by Mine.qw_eq
name_quick tw9691624938235723451 for Mine.qw by Mine.qw_eq
name_quick tw1537898542681612871 for Mine.qw by Mine.qw_eq
name_quick tw4748654258956052638 for Mine.qw by Mine.qw_eq
name_quick tw8119918657739134586 for Mine.qw by Mine.qw_eq
name_quick tw2334299552400917057 for Mine.qw by Mine.qw_eq
name_quick tw16643379632663270332 for Mine.qw by Mine.qw_eq
name_quick tw4075660801711882420 for Mine.qw by Mine.qw_eq
name_quick tw8719427161674164953 for Mine.qw by Mine.qw_eq
name_quick tw17730428716208468724 for Mine.qw by Mine.qw_eq
name_quick tw282004115355043989 for Mine.qw by Mine.qw_eq
name_quick tw2364824441312284604 for Mine.qw by Mine.qw_eq
name_quick tw16548257151911338427 for Mine.qw by Mine.qw_eq
name_quick tw5396446701170858492 for Mine.qw by Mine.qw_eq
name_quick tw9011979029575296479 for Mine.qw by Mine.qw_eq
name_quick tw3636048126100218174 for Mine.qw by Mine.qw_eq
name_quick tw7401281599722004195 for Mine.qw by Mine.qw_eq
name_quick tw7581352650102555174 for Mine.qw by Mine.qw_eq
name_quick tw6250672158363226905 for Mine.qw by Mine.qw_eq
name_quick tw8595292554425487202 for Mine.qw by Mine.qw_eq
name_quick tw15319007112934793488 for Mine.qw by Mine.qw_eq
name_quick tw6929956602132211858 for Mine.qw by Mine.qw_eq
name_quick tw3698559305507148144 for Mine.qw by Mine.qw_eq
name_quick tw8727135674562949291 for Mine.qw by Mine.qw_eq
name_quick tw43969757491396457 for Mine.qw by Mine.qw_eq
name_quick tw5189142188285759775 for Mine.qw by Mine.qw_eq
name_quick tw2719445374943340272 for Mine.qw by Mine.qw_eq
name_quick tw2460228577881660442 for Mine.qw by Mine.qw_eq
name_quick tw17111948838632640456 for Mine.qw by Mine.qw_eq
name_quick tw932993149863042379 for Mine.qw by Mine.qw_eq
name_quick tw16350708796919097252 for Mine.qw by Mine.qw_eq
name_quick tw13145125596335152023 for Mine.qw by Mine.qw_eq
name_quick tw11788150170368784547 for Mine.qw by Mine.qw_eq
name_quick tw4011157648589011858 for Mine.qw by Mine.qw_eq
namespace Mine
set_option maxRecDepth 100000 in
set_option maxHeartbeats 8000000 in
open_top hd for PySem.Challenge.rw_qz0048_01
end Mine
end
section
open PySem PySem.W PyProof.Rows
local macro_rules | `(tactic| walk_at $s:str) => do let t := Lean.Syntax.mkStrLit ("m:" ++ s.getString); `(tactic| k_extra $t:str)
local macro_rules | `(tactic| cell_enter) => `(tactic| k_extra "m:cell_enter")
local macro_rules | `(tactic| tb_start) => `(tactic| k_extra "m:tb_start")
local macro_rules | `(tactic| ktr_rel) => `(tactic| k_extra "m:ktr_rel")
local macro_rules | `(tactic| k_room) => `(tactic| (k_extra "m:on"; ktr_room))
local macro_rules | `(tactic| k_units) => `(tactic| (k_extra "m:on"; ktr_units))
local macro_rules | `(tactic| ktr_room) => `(tactic| k_extra "m:ktr_room")
local macro_rules | `(tactic| ktr_units) => `(tactic| k_extra "m:ktr_units")
local macro_rules | `(tactic| k_ne) => `(tactic| k_extra "m:k_ne")
local macro_rules | `(tactic| k_mem) => `(tactic| k_extra "m:k_mm")
local macro_rules | `(tactic| k_lt $h) => `(tactic| (revert $h; k_extra "m:klt"; intro $h:ident))
section
theorem Mine.none_Srt : True := by
  k_with_none
  w_top off
  trivial
set_option maxRecDepth 100000
open PySem PySem.W PySem.Calls PyProof.Rows
namespace Mine
def gallopP : Bool → Keyed → Array Keyed → Nat → Nat → Nat → StateT SortSt Sem (Option Nat) := sortPriv% PySem.Builtin.gallop
def mergeLoP : Array Keyed → Array Keyed → StateT SortSt Sem (Array Keyed) := sortPriv% PySem.Builtin.mergeLo
def mergeHiP : Array Keyed → Array Keyed → StateT SortSt Sem (Array Keyed) := sortPriv% PySem.Builtin.mergeHi
/-- a key that is a text -/
def IsKey (p : Keyed) : Prop := ∃ x t, p.1 = .str x t
def AllG (P : Keyed → Prop) (xs : Array Keyed) : Prop := ∀ (i : Nat) (p : Keyed), xs[i]? = some p → P p
theorem AllG.push {P : Keyed → Prop} {xs : Array Keyed} (h : AllG P xs) {p : Keyed} (hp : P p) : AllG P (xs.push p) := fun i q hq => by
  rw [Array.getElem?_push] at hq
  split at hq
  · cases hq; exact hp
  · exact h i q hq
theorem AllG.app {P : Keyed → Prop} {xs ys : Array Keyed} (h : AllG P xs) (h2 : AllG P ys) : AllG P (xs ++ ys) := fun i q hq => by
  rw [Array.getElem?_append] at hq
  split at hq
  · exact h i q hq
  · exact h2 _ q hq
theorem AllG.ext {P : Keyed → Prop} {xs : Array Keyed} (h : AllG P xs) (i j : Nat) : AllG P (xs.extract i j) := fun k q hq => by
  rw [Array.getElem?_extract] at hq
  split at hq
  · exact h _ q hq
  · cases hq
theorem AllG.rev {P : Keyed → Prop} {xs : Array Keyed} (h : AllG P xs) : AllG P xs.reverse := fun i q hq => by
  have hm : q ∈ xs.reverse := Array.mem_of_getElem? hq
  rw [Array.mem_reverse] at hm
  obtain ⟨j, hj⟩ := Array.getElem?_of_mem hm
  exact h j q hj
theorem AllG.perm {P : Keyed → Prop} {xs ys : Array Keyed} (h : AllG P xs) (hp : ys.Perm xs) : AllG P ys := fun i q hq => by
  have hm : q ∈ ys := Array.mem_of_getElem? hq
  rw [hp.mem_iff] at hm
  obtain ⟨j, hj⟩ := Array.getElem?_of_mem hm
  exact h j q hj
theorem AllG.set {P : Keyed → Prop} {xs : Array Keyed} (h : AllG P xs) (i : Nat) {p : Keyed} (hp : P p) : AllG P (xs.setIfInBounds i p) := fun j q hq => by
  rw [Array.getElem?_setIfInBounds] at hq
  split at hq
  · split at hq
    · cases hq; exact hp
    · cases hq
  · exact h j q hq
theorem AllG.empty {P : Keyed → Prop} : AllG P #[] := fun i q hq => by simp at hq
theorem AllG.one {P : Keyed → Prop} {p : Keyed} (hp : P p) : AllG P #[p] := AllG.push AllG.empty hp
/-- a state like st but for the gallop's count -/
def Same (st st' : SortSt) : Prop := kindOf st' = kindOf st ∧ arrOf st' = arrOf st ∧ pendingOf st' = pendingOf st ∧ failedOf st' = failedOf st
theorem Same.refl {st : SortSt} : Same st st := ⟨rfl, rfl, rfl, rfl⟩
theorem Same.mg {st st' : SortSt} (h : Same st st') (g : Nat) : Same st (SortSt.mk' (kindOf st') (arrOf st') (pendingOf st') g (failedOf st')) := h
theorem Same.kind {st st' : SortSt} (h : Same st st') (hk : kindOf st = oneType') : kindOf st' = oneType' := h.1.trans hk
theorem get_some {xs : Array Keyed} {i : Nat} (h : i < xs.size) : ∃ p, xs[i]? = some p := ⟨xs[i], Array.getElem?_eq_getElem h⟩
section
variable {prog : Program} {w : World} {A : Around} {E : Value → Shared → Prop} {s : Shared} {st : SortSt} {P : Keyed → Prop}
theorem wpS_elemG {xs : Array Keyed} {i : Nat} {Q : Keyed → SortSt → Prop} (h : AllG P xs) (hi : i < xs.size) (hq : ∀ p, P p → Q p st) : wpS (model prog w) A E s (elem' xs i) Q st := by
  obtain ⟨p, hp⟩ := get_some hi
  rw [elem'_eq, hp]
  exact wpS_pure (hq p (h i p hp))
theorem wpS_ltG {p q : Keyed} {Q : Option Bool → SortSt → Prop} (hk : kindOf st = oneType') (hp : IsKey p) (hq : IsKey q) (h : ∀ b, Q (some b) st) : wpS (model prog w) A E s (lt' p q) Q st := by
  obtain ⟨x, t, hp⟩ := hp
  obtain ⟨y, u, hq⟩ := hq
  rw [lt'_eq]
  refine wpS_bind (wpS_get ?_)
  rw [hk, keyLt'_oneType, hp, hq]
  refine wpS_bind (wpS_lift (wpAny_attempt (oneLt_str ⟨rfl, ?_⟩)))
  exact wpS_pure (h _)
theorem wpS_beyond {left : Bool} {key : Keyed} {arr : Array Keyed} {j : Nat} {Q : Option Bool → SortSt → Prop} (hP : ∀ p, P p → IsKey p) (hk : kindOf st = oneType') (hkey : IsKey key) (hall : AllG P arr) (hj : j < arr.size) (h : ∀ b, Q (some b) st) :
    wpS (model prog w) A E s (elem' arr j >>= fun x => if left = true then lt' x key else lt' key x >>= fun r => pure (Option.map (fun y => !y) r)) Q st := by
  refine wpS_bind (wpS_elemG hall hj fun p hp => ?_)
  cases left with
  | true => exact wpS_ltG hk (hP p hp) hkey h
  | false => exact wpS_bind (wpS_ltG hk hkey (hP p hp) fun b => wpS_pure (h _))
set_option maxHeartbeats 4000000 in
theorem wpS_gallopG {left : Bool} {key : Keyed} {arr : Array Keyed} {base n hint : Nat} {Q : Option Nat → SortSt → Prop} (hP : ∀ p, P p → IsKey p) (hk : kindOf st = oneType') (hkey : IsKey key) (hall : AllG P arr) (hb : base + n ≤ arr.size) (hh : hint < n)
    (h : ∀ k, k ≤ n → Q (some k) st) : wpS (model prog w) A E s (gallopP left key arr base n hint) Q st := by
  have tail : ∀ (lo hi : Nat) (f : Nat → Option (Option Nat) × Nat × Nat → StateT SortSt Sem (ForInStep (Option (Option Nat) × Nat × Nat))) (g : Option (Option Nat) × Nat × Nat → StateT SortSt Sem (Option Nat)),
      (∀ x lo hi (Q' : ForInStep (Option (Option Nat) × Nat × Nat) → SortSt → Prop), hi ≤ n → (lo ≥ hi → Q' (.done (none, lo, hi)) st) → (∀ lo' hi', hi' ≤ n → Q' (.yield (none, lo', hi')) st) → wpS (model prog w) A E s (f x (none, lo, hi)) Q' st) →
      (∀ lo hi, hi ≤ n → wpS (model prog w) A E s (g (none, lo, hi)) Q st) → hi ≤ n → wpS (model prog w) A E s (forIn [0:n] (none, lo, hi) f >>= g) Q st := by
    intro lo hi f g hf hg hle
    refine wpS_bind (wpS_mono (wpS_forRange (I := fun _ c st' => st' = st ∧ ∃ lo hi, c = (none, lo, hi) ∧ hi ≤ n) (Q := fun c st' => st' = st ∧ ∃ lo hi, c = (none, lo, hi) ∧ hi ≤ n) ?_ (fun _ _ hh => hh) ⟨rfl, lo, hi, rfl, hle⟩) ?_)
    · rintro x c st' _ _ ⟨rfl, lo, hi, rfl, h1⟩
      exact hf x lo hi _ h1 (fun _ => ⟨rfl, lo, hi, rfl, h1⟩) fun lo' hi' h2 => ⟨rfl, lo', hi', rfl, h2⟩
    · rintro c st' ⟨rfl, lo, hi, rfl, h1⟩
      exact hg lo hi h1
  have tailB : ∀ (lo hi x : Nat) (Q' : ForInStep (Option (Option Nat) × Nat × Nat) → SortSt → Prop), hi ≤ n → (lo ≥ hi → Q' (.done (none, lo, hi)) st) → (∀ lo' hi', hi' ≤ n → Q' (.yield (none, lo', hi')) st) →
      wpS (model prog w) A E s (if lo ≥ hi then pure (ForInStep.done (none, lo, hi)) else
        (elem' arr (base + (lo + (hi - lo) / 2)) >>= fun x => if left = true then lt' x key else lt' key x >>= fun r => pure (Option.map (fun y => !y) r)) >>= fun y => match y with
          | some more => if more = true then pure (ForInStep.yield (none, lo + (hi - lo) / 2 + 1, hi)) else pure (ForInStep.yield (none, lo, lo + (hi - lo) / 2))
          | _ => pure (ForInStep.done (some none, lo, hi))) Q' st := by
    intro lo hi x Q' h1 h2 h3
    split
    · rename_i hge
      exact wpS_pure (h2 hge)
    · rename_i hge
      refine wpS_bind (wpS_beyond hP hk hkey hall (by lia) fun b => ?_)
      cases b with
      | true => exact wpS_pure (h3 _ _ h1)
      | false => exact wpS_pure (h3 _ _ (by lia))
  have first : ∀ (f : Nat → Option (Option Nat) × Nat × Nat → StateT SortSt Sem (ForInStep (Option (Option Nat) × Nat × Nat))) (g : Option (Option Nat) × Nat × Nat → StateT SortSt Sem (Option Nat)),
      (∀ x l o (Q' : ForInStep (Option (Option Nat) × Nat × Nat) → SortSt → Prop), (∀ l o, Q' (.done (none, l, o)) st) → (∀ l o, Q' (.yield (none, l, o)) st) → wpS (model prog w) A E s (f x (none, l, o)) Q' st) →
      (∀ l o, wpS (model prog w) A E s (g (none, l, o)) Q st) → wpS (model prog w) A E s (forIn [0:n] (none, 0, 1) f >>= g) Q st := by
    intro f g hf hg
    refine wpS_bind (wpS_mono (wpS_forRange (I := fun _ c st' => st' = st ∧ ∃ l o, c = (none, l, o)) (Q := fun c st' => st' = st ∧ ∃ l o, c = (none, l, o)) ?_ (fun _ _ hh => hh) ⟨rfl, 0, 1, rfl⟩) ?_)
    · rintro x c st' _ _ ⟨rfl, l, o, rfl⟩
      exact hf x l o _ (fun l o => ⟨rfl, l, o, rfl⟩) fun l o => ⟨rfl, l, o, rfl⟩
    · rintro c st' ⟨rfl, l, o, rfl⟩
      exact hg l o
  refine wpS_bind (wpS_beyond hP hk hkey hall (by lia) fun b => ?_)
  cases b with
  | true =>
    refine first _ _ (fun x l o Q' h1 h2 => ?_) fun l o => ?_
    · dsimp only
      split
      · exact wpS_pure (h1 _ _)
      · refine wpS_bind (wpS_beyond hP hk hkey hall (by lia) fun b => ?_)
        cases b with
        | true => exact wpS_pure (h2 _ _)
        | false => exact wpS_pure (h1 _ _)
    · refine tail _ _ _ _ (fun x lo hi Q' k1 k2 k3 => ?_) (fun lo hi k1 => ?_) (by lia)
      · exact tailB lo hi x Q' k1 k2 k3
      · exact wpS_pure (h _ k1)
  | false =>
    refine first _ _ (fun x l o Q' h1 h2 => ?_) fun l o => ?_
    · dsimp only
      split
      · exact wpS_pure (h1 _ _)
      · refine wpS_bind (wpS_beyond hP hk hkey hall (by lia) fun b => ?_)
        cases b with
        | true => exact wpS_pure (h1 _ _)
        | false => exact wpS_pure (h2 _ _)
    · refine tail _ _ _ _ (fun x lo hi Q' k1 k2 k3 => ?_) (fun lo hi k1 => ?_) (by lia)
      · exact tailB lo hi x Q' k1 k2 k3
      · exact wpS_pure (h _ k1)
end
end Mine
end
section
set_option maxRecDepth 100000
open PySem PySem.W PySem.Calls PyProof.Rows
namespace Mine
/-- between a merge's steps -/
def LoI (P : Keyed → Prop) (a b : Array Keyed) (m : Nat) (out : Array Keyed) (ia ib : Nat) : Prop := ia + 1 < a.size ∧ ib < b.size ∧ out.size = ia + ib ∧ AllG P out ∧ m ≤ ia + ib
def GoodR (P : Keyed → Prop) (n : Nat) (r : Array Keyed) : Prop := r.size = n ∧ AllG P r
section
variable {P : Keyed → Prop} {a b out : Array Keyed} {ia ib : Nat}
theorem good_done (ha : AllG P a) (hb : AllG P b) (ho : AllG P out) (h1 : out.size = ia + ib) (h2 : ia ≤ a.size) (h3 : ib ≤ b.size) : GoodR P (a.size + b.size) (out ++ a.extract ia a.size ++ b.extract ib b.size) :=
  ⟨by simp only [Array.size_append, Array.size_extract, Nat.min_self]; lia, (ho.app (ha.ext _ _)).app (hb.ext _ _)⟩
theorem good_last (ha : AllG P a) (hb : AllG P b) (ho : AllG P out) (h1 : out.size = ia + ib) (h2 : ia ≤ a.size) (h3 : ib ≤ b.size) : GoodR P (a.size + b.size) (out ++ b.extract ib b.size ++ a.extract ia a.size) :=
  ⟨by simp only [Array.size_append, Array.size_extract, Nat.min_self]; lia, (ho.app (hb.ext _ _)).app (ha.ext _ _)⟩
end
section
variable {M : Model} {A : Around} {E : Value → Shared → Prop} {s : Shared} {σ : Type}
theorem wpS_ite {α : Type} {c : Prop} [Decidable c] {t e : StateT σ Sem α} {Q : α → σ → Prop} {st : σ} (h1 : c → wpS M A E s t Q st) (h2 : ¬ c → wpS M A E s e Q st) : wpS M A E s (if c then t else e) Q st := by
  split
  · exact h1 (by assumption)
  · exact h2 (by assumption)
end
section
variable {prog : Program} {w : World} {A : Around} {E : Value → Shared → Prop} {s : Shared} {st : SortSt} {P : Keyed → Prop}
theorem ms {n k m : Nat} (h : k ≤ m - n) (q : k > 0) : min (n + k) m - n = k := by
  rw [Nat.min_eq_left (by lia), Nat.add_sub_cancel_left]
theorem pr5 {α β γ δ ε : Type} {P : α × β × γ × δ × ε → Prop} (h : ∀ a b c d e, P (a, b, c, d, e)) (x : α × β × γ × δ × ε) : P x := h x.1 x.2.1 x.2.2.1 x.2.2.2.1 x.2.2.2.2
theorem pr6 {α β γ δ ε ζ : Type} {P : α × β × γ × δ × ε × ζ → Prop} (h : ∀ a b c d e f, P (a, b, c, d, e, f)) (x : α × β × γ × δ × ε × ζ) : P x := h x.1 x.2.1 x.2.2.1 x.2.2.2.1 x.2.2.2.2.1 x.2.2.2.2.2
theorem pr7 {α β γ δ ε ζ η : Type} {P : α × β × γ × δ × ε × ζ × η → Prop} (h : ∀ a b c d e f g, P (a, b, c, d, e, f, g)) (x : α × β × γ × δ × ε × ζ × η) : P x := h x.1 x.2.1 x.2.2.1 x.2.2.2.1 x.2.2.2.2.1 x.2.2.2.2.2.1 x.2.2.2.2.2.2
theorem joinN {G : Nat → Prop} {R : Prop} (key : ∀ n, G n) (main : (∀ n, G n) → R) : R := main key
theorem joinA {G : Array Keyed → Nat → Prop} {R : Prop} (F : Array Keyed → Nat → Prop) (key : ∀ o i, F o i → G o i) (main : (∀ o i, F o i → G o i) → R) : R := main key
theorem rows_Srt2_1 : True := by
  k_with_none
  k_with "m:on" => skip
  k_with "m:om" => ((try dsimp only); first | ((try clear hs3); (try clear hs2); (try clear hs'); (try clear hs1); (try clear hs); lia) | lia)
  k_with "m:os" => first | (rw [hs2]; k_extra "m:om") | (rw [hs']; k_extra "m:om") | (rw [hs1]; k_extra "m:om") | lia
  trivial

set_option maxHeartbeats 8000000 in
theorem wpS_mergeLoG {a b : Array Keyed} {Q : Array Keyed → SortSt → Prop} (hP : ∀ p, P p → IsKey p) (hk : kindOf st = oneType') (ha : AllG P a) (hb : AllG P b) (h1 : 1 ≤ a.size) (h2 : 1 ≤ b.size)
    (h : ∀ r st', Same st st' → GoodR P (a.size + b.size) r → Q r st') : wpS (model prog w) A E s (mergeLoP a b) Q st := by
  refine wpS_bind (wpS_lift (wpAny_rule ⟨rfl, ?_⟩))
  refine wpS_bind (wpS_elemG hb (by k_extra "m:om") fun p hp => ?_)
  have ho : AllG P #[p] := AllG.one hp
  have hs : (#[p] : Array Keyed).size = 0 + 1 := rfl
  refine wpS_ite (fun e1 => wpS_pure (h _ _ Same.refl (good_done ha hb ho hs (by k_extra "m:om") (by k_extra "m:om")))) fun e1 => ?_
  refine wpS_ite (fun e2 => wpS_pure (h _ _ Same.refl (good_last ha hb ho hs (by k_extra "m:om") (by k_extra "m:om")))) fun e2 => ?_
  rw [beq_iff_eq] at e1 e2
  refine wpS_bind (wpS_get ?_)
  refine wpS_bind (wpS_mono (wpS_forRange
    (I := fun x c st' => Same st st' ∧ c.1 = none ∧ LoI P a b x c.2.1 c.2.2.1 c.2.2.2.1)
    (Q := fun c st' => Same st st' ∧ ((c.1 = none ∧ LoI P a b (a.size + b.size) c.2.1 c.2.2.1 c.2.2.2.1) ∨ ∃ r, c.1 = some r ∧ GoodR P (a.size + b.size) r)) ?step ?fin ⟨Same.refl, rfl, by k_extra "m:om", by k_extra "m:om", hs, ho, by k_extra "m:om"⟩) ?post)
  case fin =>
    rintro c st' ⟨h1, h2, h3⟩
    rw [Nat.max_eq_right (by k_extra "m:om")] at h3
    exact ⟨h1, .inl ⟨h2, h3⟩⟩
  case post =>
    rintro ⟨r, out, ia, ib, mg⟩ st' ⟨hS, ⟨hr, i1, i2, i3, i4, i5⟩ | ⟨r', hr, hg⟩⟩
    · dsimp only at i1 i2 i3 i5
      lia
    · dsimp only at hr
      subst hr
      exact wpS_pure (h _ _ hS hg)
  case step =>
    intro x
    refine pr5 fun r out ia ib mg => ?_
    intro st1 _ hx hh
    have hS := hh.1; have hr := hh.2.1; have hI := hh.2.2; clear hh
    dsimp only at hr hI
    subst hr
    have hk1 := hS.kind hk
    refine wpS_bind (wpS_mono (wpS_forRange
      (I := fun _ c st' => st' = st1 ∧ c.1 = none ∧ LoI P a b x c.2.1 c.2.2.1 c.2.2.2.1)
      (Q := fun c st' => st' = st1 ∧ ((c.1 = none ∧ LoI P a b x c.2.1 c.2.2.1 c.2.2.2.1) ∨ ∃ r, c.1 = some r ∧ GoodR P (a.size + b.size) r)) ?istep ?ifin ⟨rfl, rfl, hI⟩) ?ipost)
    case ifin =>
      rintro c st' ⟨h1, h2, h3⟩
      exact ⟨h1, .inl ⟨h2, h3⟩⟩
    case istep =>
      intro y
      refine pr6 fun r out ia ib ac bc => ?_
      intro st2 _ _ hh
      have hst := hh.1; have hr := hh.2.1; have i1 := hh.2.2.1; have i2 := hh.2.2.2.1; have i3 := hh.2.2.2.2.1; have i4 := hh.2.2.2.2.2.1; have i5 := hh.2.2.2.2.2.2; clear hh
      dsimp only at hr i1 i2 i3 i4 i5
      subst hst hr
      refine wpS_bind (wpS_elemG hb i2 fun p hp => ?_)
      refine wpS_bind (wpS_elemG (i := ia) ha (by k_extra "m:om") fun q hq => ?_)
      refine wpS_bind (wpS_ltG hk1 (hP p hp) (hP q hq) fun bw => ?_)
      refine wpS_ite (c := bw = true) (fun _ => ?_) (fun _ => ?_)
      · refine wpS_bind (wpS_elemG hb i2 fun p hp => ?_)
        have ho' := i4.push hp
        have hs' : (out.push p).size = ia + (ib + 1) := by rw [Array.size_push]; k_extra "m:os"
        refine wpS_ite (fun _ => wpS_pure ⟨rfl, .inr ⟨_, rfl, good_done ha hb ho' hs' (by k_extra "m:om") (by k_extra "m:om")⟩⟩) fun e => ?_
        rw [beq_iff_eq] at e
        have hI' : LoI P a b x (out.push p) ia (ib + 1) := ⟨i1, by dsimp only at e; lia, hs', ho', by k_extra "m:om"⟩
        exact wpS_ite (fun _ => wpS_pure ⟨rfl, .inl ⟨rfl, hI'⟩⟩) fun _ => wpS_pure ⟨rfl, rfl, hI'⟩
      · refine wpS_bind (wpS_elemG (i := ia) ha (by k_extra "m:om") fun p hp => ?_)
        have ho' := i4.push hp
        have hs' : (out.push p).size = (ia + 1) + ib := by rw [Array.size_push]; k_extra "m:os"
        refine wpS_ite (fun _ => wpS_pure ⟨rfl, .inr ⟨_, rfl, good_last ha hb ho' hs' (by k_extra "m:om") (by k_extra "m:om")⟩⟩) fun e => ?_
        rw [beq_iff_eq] at e
        have hI' : LoI P a b x (out.push p) (ia + 1) ib := ⟨by dsimp only at e; lia, i2, hs', ho', by k_extra "m:om"⟩
        exact wpS_ite (fun _ => wpS_pure ⟨rfl, .inl ⟨rfl, hI'⟩⟩) fun _ => wpS_pure ⟨rfl, rfl, hI'⟩
    case ipost =>
      refine pr6 fun r out ia ib ac bc => ?_
      intro st2 hh
      have hst := hh.1; replace hh := hh.2
      subst hst
      rcases hh with ⟨hr, hI⟩ | ⟨r', hr, hg⟩
      · dsimp only at hr hI
        subst hr
        refine wpS_bind (wpS_lift (wpAny_rule ⟨rfl, ?_⟩))
        refine wpS_bind (wpS_mono (wpS_forRange
          (I := fun z c st' => Same st st' ∧ c.1 = none ∧ LoI P a b (x + z) c.2.1 c.2.2.1 c.2.2.2.1)
          (Q := fun c st' => Same st st' ∧ ((c.1 = none ∧ LoI P a b (x + 1) c.2.1 c.2.2.1 c.2.2.2.1) ∨ ∃ r, c.1 = some r ∧ GoodR P (a.size + b.size) r)) ?gstep ?gfin ⟨hS, rfl, hI⟩) ?gpost)
        case gfin =>
          rintro c st' ⟨h1, h2, h3⟩
          obtain ⟨j1, j2, j3, j4, j5⟩ := h3
          exact ⟨h1, .inl ⟨h2, j1, j2, j3, j4, by k_extra "m:om"⟩⟩
        case gpost =>
          rintro ⟨r, out, ia, ib, mg, ac, bc⟩ st3 ⟨hS3, ⟨hr, hI⟩ | ⟨r', hr, hg⟩⟩
          · dsimp only at hr hI
            subst hr
            refine wpS_bind (wpS_modify ?_)
            exact wpS_pure ⟨hS3.mg _, rfl, hI⟩
          · dsimp only at hr
            subst hr
            exact wpS_pure ⟨hS3, .inr ⟨_, rfl, hg⟩⟩
        case gstep =>
          intro z
          refine pr7 fun r out ia ib mg ac bc => ?_
          intro st3 _ hz hh
          have hS3 := hh.1; have hr := hh.2.1; have i1 := hh.2.2.1; have i2 := hh.2.2.2.1; have i3 := hh.2.2.2.2.1; have i4 := hh.2.2.2.2.2.1; have i5 := hh.2.2.2.2.2.2; clear hh
          dsimp only at hr i1 i2 i3 i4 i5
          subst hr
          refine' joinN ?key (fun key => ?main)
          case main =>
            refine wpS_ite (c := mg > 1) (fun _ => ?_) (fun _ => ?_)
            rotate_left
            · dsimp only
              generalize mg = n0
              exact key n0
            · dsimp only
              exact key (mg - 1)
          case key =>
            intro mg
            refine wpS_bind (wpS_modify ?_)
            have hS4 := hS3.mg mg
            refine wpS_bind (wpS_elemG hb i2 fun p hp => ?_)
            refine wpS_bind (wpS_gallopG (n := a.size - ia) (base := ia) hP (hS4.kind hk) (hP p hp) ha (by k_extra "m:om") (by k_extra "m:om") fun k hk' => ?_)
            refine' joinA (fun o i => AllG P o ∧ o.size = i + ib ∧ i + 1 < a.size ∧ x + z ≤ i + ib) ?key2 (fun key => ?main2)
            case main2 =>
              refine wpS_ite (c := k > 0) (fun hk0 => ?_) (fun hk0 => ?_)
              rotate_left
              · have ff : AllG P out ∧ out.size = ia + ib ∧ ia + 1 < a.size ∧ x + z ≤ ia + ib := ⟨i4, i3, i1, i5⟩
                (try dsimp only)
                revert ff
                generalize out = o0
                generalize ia = i0
                exact key o0 i0
              · have ho1 := i4.app (ha.ext ia (ia + k))
                have hs1 : (out ++ a.extract ia (ia + k)).size = (ia + k) + ib := by rw [Array.size_append, Array.size_extract, ms (by assumption) (by assumption)]; lia
                refine wpS_ite (fun _ => wpS_pure ⟨hS4, .inr ⟨_, rfl, good_last ha hb ho1 hs1 (by k_extra "m:om") (by k_extra "m:om")⟩⟩) fun e => ?_
                refine wpS_ite (fun _ => wpS_pure ⟨hS4, .inr ⟨_, rfl, good_done ha hb ho1 hs1 (by k_extra "m:om") (by k_extra "m:om")⟩⟩) fun e' => ?_
                rw [beq_iff_eq] at e e'
                (try dsimp only at e e')
                exact key _ _ ⟨ho1, hs1, by k_extra "m:om", by k_extra "m:om"⟩
            case key2 =>
              clear i1 i3 i4 i5
              intro o i hh; have ho := hh.1; have hs := hh.2.1; have i1 := hh.2.2.1; have i5 := hh.2.2.2; clear hh
              refine wpS_bind (wpS_elemG hb i2 fun p hp => ?_)
              have ho' := ho.push hp
              have hs' : (o.push p).size = i + (ib + 1) := by rw [Array.size_push, hs]; rfl
              refine wpS_ite (fun _ => wpS_pure ⟨hS4, .inr ⟨_, rfl, good_done ha hb ho' hs' (by k_extra "m:om") (by k_extra "m:om")⟩⟩) fun e => ?_
              rw [beq_iff_eq] at e
              (try dsimp only at e)
              refine wpS_bind (wpS_elemG (i := i) ha (by k_extra "m:om") fun q hq => ?_)
              refine wpS_bind (wpS_gallopG (n := b.size - (ib + 1)) (base := ib + 1) hP (hS4.kind hk) (hP q hq) hb (by k_extra "m:om") (by k_extra "m:om") fun k2 hk2 => ?_)
              have j2 : ib + 1 < b.size := by k_extra "m:om"
              have j5 : x + z ≤ i + (ib + 1) := by k_extra "m:om"
              refine' joinA (fun o j => AllG P o ∧ o.size = i + j ∧ j < b.size ∧ x + z ≤ i + j) ?key3 (fun key => ?main3)
              case main3 =>
                refine wpS_ite (c := k2 > 0) (fun hk0 => ?_) (fun hk0 => ?_)
                rotate_left
                · have ff : AllG P (o.push p) ∧ (o.push p).size = i + (ib + 1) ∧ ib + 1 < b.size ∧ x + z ≤ i + (ib + 1) := ⟨ho', hs', j2, j5⟩
                  (try dsimp only)
                  revert ff
                  generalize o.push p = o0
                  generalize ib + 1 = j0
                  exact key o0 j0
                · have ho2 := ho'.app (hb.ext (ib + 1) (ib + 1 + k2))
                  have hs2 : (o.push p ++ b.extract (ib + 1) (ib + 1 + k2)).size = i + (ib + 1 + k2) := by rw [Array.size_append, Array.size_extract, hs', ms (by assumption) (by assumption)]; exact Nat.add_assoc _ _ _
                  refine wpS_ite (fun _ => wpS_pure ⟨hS4, .inr ⟨_, rfl, good_done ha hb ho2 hs2 (by k_extra "m:om") (by k_extra "m:om")⟩⟩) fun e2 => ?_
                  rw [beq_iff_eq] at e2
                  (try dsimp only at e2)
                  exact key _ _ ⟨ho2, hs2, by k_extra "m:om", by k_extra "m:om"⟩
              case key3 =>
                clear ho ho' hs hs' i5 j5 e hk'
                intro o j hh; have ho := hh.1; have hs := hh.2.1; have j2 := hh.2.2.1; have i5 := hh.2.2.2; clear hh
                refine wpS_bind (wpS_elemG (i := i) ha (by k_extra "m:om") fun q hq => ?_)
                have ho3 := ho.push hq
                have hs3 : (o.push q).size = i + 1 + j := by rw [Array.size_push, hs]; lia
                refine wpS_ite (fun _ => wpS_pure ⟨hS4, .inr ⟨_, rfl, good_last ha hb ho3 hs3 (by k_extra "m:om") (by k_extra "m:om")⟩⟩) fun e3 => ?_
                rw [beq_iff_eq] at e3
                (try dsimp only at e3)
                have hI : LoI P a b (x + (z + 1)) (o.push q) (i + 1) j := ⟨by k_extra "m:om", j2, hs3, ho3, by k_extra "m:om"⟩
                exact wpS_ite (fun _ => wpS_pure ⟨hS4, .inl ⟨rfl, by k_extra "m:om", j2, hs3, ho3, by k_extra "m:om"⟩⟩) fun _ => wpS_pure ⟨hS4, rfl, hI⟩
      · dsimp only at hr
        subst hr
        exact wpS_pure ⟨hS, .inr ⟨_, rfl, hg⟩⟩
end
end Mine
end
section
set_option maxRecDepth 100000
open PySem PySem.W PySem.Calls PyProof.Rows
namespace Mine
def HiI (P : Keyed → Prop) (a b : Array Keyed) (m : Nat) (na nb : Nat) (out : Array Keyed) : Prop := 1 ≤ na ∧ na ≤ a.size ∧ 2 ≤ nb ∧ nb ≤ b.size ∧ out.size + na + nb = a.size + b.size ∧ AllG P out ∧ m + na + nb ≤ a.size + b.size
section
variable {P : Keyed → Prop} {a b out : Array Keyed} {na nb : Nat}
theorem good_doneH (ha : AllG P a) (hb : AllG P b) (ho : AllG P out) (h1 : out.size + na + nb = a.size + b.size) (h2 : na ≤ a.size) (h3 : nb ≤ b.size) : GoodR P (a.size + b.size) (a.extract 0 na ++ b.extract 0 nb ++ out.reverse) :=
  ⟨by simp only [Array.size_append, Array.size_extract, Array.size_reverse]; lia, ((ha.ext _ _).app (hb.ext _ _)).app ho.rev⟩
theorem good_first (ha : AllG P a) (hb : AllG P b) (ho : AllG P out) (h1 : out.size + na + nb = a.size + b.size) (h2 : na ≤ a.size) (h3 : nb ≤ b.size) : GoodR P (a.size + b.size) (b.extract 0 nb ++ a.extract 0 na ++ out.reverse) :=
  ⟨by simp only [Array.size_append, Array.size_extract, Array.size_reverse]; lia, ((hb.ext _ _).app (ha.ext _ _)).app ho.rev⟩
end
section
variable {prog : Program} {w : World} {A : Around} {E : Value → Shared → Prop} {s : Shared} {st : SortSt} {P : Keyed → Prop}
theorem joinB {G : Array Keyed → Nat → Nat → Prop} {R : Prop} (F : Array Keyed → Nat → Prop) (key : ∀ o i c, F o i → G o i c) (main : (∀ o i c, F o i → G o i c) → R) : R := main key
theorem sb1 {o n j t : Nat} (h : o + n + j = t) (q : 1 ≤ n) : o + 1 + (n - 1) + j = t := by lia
theorem sb2 {o n b t : Nat} (h : o + n + b = t) (q : 2 ≤ b) : o + 1 + n + (b - 1) = t := by lia
theorem sb3 {o n b k t : Nat} (h : o + n + b = t) (q : n - k > 0) : o + (n - k) + k + b = t := by lia
theorem sb4 {o n b k t : Nat} (h : o + n + b = t) (q : b - k > 0) : o + (b - k) + n + k = t := by lia
theorem sb5 {x n j t : Nat} (h : x + n + j ≤ t) (q : 1 ≤ n) : x + (n - 1) + j ≤ t := by lia
theorem sb6 {x z n j t : Nat} (h : x + z + n + j ≤ t) (q : 1 ≤ n) : x + (z + 1) + (n - 1) + j ≤ t := by lia
theorem sb7 {x z n j t : Nat} (h : x + z + n + j ≤ t) (q : 1 ≤ n) : x + 1 + (n - 1) + j ≤ t := by lia
theorem sb8 {x n b t : Nat} (h : x + n + b ≤ t) (q : 2 ≤ b) : x + n + (b - 1) ≤ t := by lia
theorem sb9 {n a : Nat} (h : n ≤ a) (q : 1 ≤ n) : n - 1 < a := by lia
theorem sb10 {n a : Nat} (h : n ≤ a) (q : 2 ≤ n) : n - 1 < a := by lia
theorem sb11 {n a : Nat} (h : n ≤ a) : 0 + (n - 1) ≤ a := by lia
theorem sb12 {n a : Nat} (h : n ≤ a) : n - 1 ≤ a := by lia
theorem sb13 {n : Nat} (h : 2 ≤ n) (q : ¬ n - 1 = 1) : 2 ≤ n - 1 := by lia
theorem sb14 {n : Nat} (h : 2 ≤ n) : 1 ≤ n - 1 := by lia
theorem sb15 {n : Nat} (h : 2 ≤ n) : n - 1 - 1 < n - 1 := by lia
theorem sb16 {n : Nat} (h : 1 ≤ n) (q : ¬ n = 1) : 2 ≤ n := by lia
theorem sb17 {n : Nat} (h : 1 ≤ n) (q : ¬ n - 1 = 0) : 1 ≤ n - 1 := by lia
theorem rows_Srt3_1 : True := by
  k_with_none
  k_with "m:on" => skip
  k_with "m:oz" => with_reducible (first | assumption | exact sb1 (by assumption) (by assumption) | exact sb2 (by assumption) (by assumption) | exact sb3 (by assumption) (by assumption) | exact sb4 (by assumption) (by assumption) | exact sb5 (by assumption) (by assumption) | exact sb6 (by assumption) (by assumption) | exact sb7 (by assumption) (by assumption) | exact sb8 (by assumption) (by assumption) | exact sb9 (by assumption) (by assumption) | exact sb10 (by assumption) (by assumption) | exact sb11 (by assumption) | exact sb12 (by assumption) | exact sb13 (by assumption) (by assumption) | exact sb14 (by assumption) | exact sb15 (by assumption) | exact sb16 (by assumption) (by assumption) | exact sb17 (by assumption) (by assumption) | k_dflt lia)
  k_with "m:om" => ((try dsimp only); first | ((try clear hs3); (try clear hs2); (try clear hs'); (try clear hs1); (try clear hs); k_extra "m:oz") | k_extra "m:oz")
  k_with "m:os" => first | (rw [hs2]; k_extra "m:om") | (rw [hs']; k_extra "m:om") | (rw [hs1]; k_extra "m:om") | k_extra "m:oz"
  trivial
set_option maxHeartbeats 8000000 in
theorem wpS_mergeHiG {a b : Array Keyed} {Q : Array Keyed → SortSt → Prop} (hP : ∀ p, P p → IsKey p) (hk : kindOf st = oneType') (ha : AllG P a) (hb : AllG P b) (h1 : 1 ≤ a.size) (h2 : 1 ≤ b.size)
    (h : ∀ r st', Same st st' → GoodR P (a.size + b.size) r → Q r st') : wpS (model prog w) A E s (mergeHiP a b) Q st := by
  refine wpS_bind (wpS_lift (wpAny_rule ⟨rfl, ?_⟩))
  refine wpS_bind (wpS_elemG (i := a.size - 1) ha (by k_extra "m:om") fun p hp => ?_)
  have ho : AllG P #[p] := AllG.one hp
  have hs : (#[p] : Array Keyed).size + (a.size - 1) + b.size = a.size + b.size := by show 1 + _ + _ = _; k_extra "m:oz"
  refine wpS_ite (fun e1 => wpS_pure (h _ _ Same.refl (good_doneH ha hb ho hs (by k_extra "m:om") (by k_extra "m:om")))) fun e1 => ?_
  refine wpS_ite (fun e2 => wpS_pure (h _ _ Same.refl (good_first ha hb ho hs (by k_extra "m:om") (by k_extra "m:om")))) fun e2 => ?_
  rw [beq_iff_eq] at e1 e2
  refine wpS_bind (wpS_get ?_)
  refine wpS_bind (wpS_mono (wpS_forRange
    (I := fun x c st' => Same st st' ∧ c.1 = none ∧ HiI P a b x c.2.1 c.2.2.1 c.2.2.2.1)
    (Q := fun c st' => Same st st' ∧ ((c.1 = none ∧ HiI P a b (a.size + b.size) c.2.1 c.2.2.1 c.2.2.2.1) ∨ ∃ r, c.1 = some r ∧ GoodR P (a.size + b.size) r)) ?step ?fin ⟨Same.refl, rfl, by k_extra "m:om", by k_extra "m:om", by k_extra "m:om", by k_extra "m:om", hs, ho, by k_extra "m:om"⟩) ?post)
  case fin =>
    rintro c st' ⟨h1, h2, h3⟩
    rw [Nat.max_eq_right (by k_extra "m:om")] at h3
    exact ⟨h1, .inl ⟨h2, h3⟩⟩
  case post =>
    rintro ⟨r, na, nb, out, mg⟩ st' ⟨hS, ⟨hr, i1, i2, i3, i4, i5, i6, i7⟩ | ⟨r', hr, hg⟩⟩
    · dsimp only at i1 i2 i3 i4 i5 i7
      k_extra "m:oz"
    · dsimp only at hr
      subst hr
      exact wpS_pure (h _ _ hS hg)
  case step =>
    intro x
    refine pr5 fun r na nb out mg => ?_
    intro st1 _ hx hh
    have hS := hh.1; have hr := hh.2.1; have hI := hh.2.2; clear hh
    dsimp only at hr hI
    subst hr
    have hk1 := hS.kind hk
    refine wpS_bind (wpS_mono (wpS_forRange
      (I := fun _ c st' => st' = st1 ∧ c.1 = none ∧ HiI P a b x c.2.1 c.2.2.1 c.2.2.2.1)
      (Q := fun c st' => st' = st1 ∧ ((c.1 = none ∧ HiI P a b x c.2.1 c.2.2.1 c.2.2.2.1) ∨ ∃ r, c.1 = some r ∧ GoodR P (a.size + b.size) r)) ?istep ?ifin ⟨rfl, rfl, hI⟩) ?ipost)
    case ifin =>
      rintro c st' ⟨h1, h2, h3⟩
      exact ⟨h1, .inl ⟨h2, h3⟩⟩
    case istep =>
      intro y
      refine pr6 fun r na nb out ac bc => ?_
      intro st2 _ _ hh
      have hst := hh.1; have hr := hh.2.1; have i1 := hh.2.2.1; have i2 := hh.2.2.2.1; have i3 := hh.2.2.2.2.1; have i4 := hh.2.2.2.2.2.1; have i5 := hh.2.2.2.2.2.2.1; have i6 := hh.2.2.2.2.2.2.2.1; have i7 := hh.2.2.2.2.2.2.2.2; clear hh
      subst hst
      dsimp only at hr i1 i2 i3 i4 i5 i6 i7
      subst hr
      refine wpS_bind (wpS_elemG (i := nb - 1) hb (by k_extra "m:om") fun p hp => ?_)
      refine wpS_bind (wpS_elemG (i := na - 1) ha (by k_extra "m:om") fun q hq => ?_)
      refine wpS_bind (wpS_ltG hk1 (hP p hp) (hP q hq) fun bw => ?_)
      refine wpS_ite (c := bw = true) (fun _ => ?_) (fun _ => ?_)
      · refine wpS_bind (wpS_elemG (i := na - 1) ha (by k_extra "m:om") fun p hp => ?_)
        have ho' := i6.push hp
        have hs' : (out.push p).size + (na - 1) + nb = a.size + b.size := by rw [Array.size_push]; k_extra "m:oz"
        refine wpS_ite (fun _ => wpS_pure ⟨rfl, .inr ⟨_, rfl, good_doneH ha hb ho' hs' (by k_extra "m:om") (by k_extra "m:om")⟩⟩) fun e => ?_
        rw [beq_iff_eq] at e
        have hI' : HiI P a b x (na - 1) nb (out.push p) := ⟨by dsimp only at e; k_extra "m:oz", by k_extra "m:om", i3, i4, hs', ho', by k_extra "m:om"⟩
        exact wpS_ite (fun _ => wpS_pure ⟨rfl, .inl ⟨rfl, hI'⟩⟩) fun _ => wpS_pure ⟨rfl, rfl, hI'⟩
      · refine wpS_bind (wpS_elemG (i := nb - 1) hb (by k_extra "m:om") fun p hp => ?_)
        have ho' := i6.push hp
        have hs' : (out.push p).size + na + (nb - 1) = a.size + b.size := by rw [Array.size_push]; k_extra "m:oz"
        refine wpS_ite (fun _ => wpS_pure ⟨rfl, .inr ⟨_, rfl, good_first ha hb ho' hs' (by k_extra "m:om") (by k_extra "m:om")⟩⟩) fun e => ?_
        rw [beq_iff_eq] at e
        have hI' : HiI P a b x na (nb - 1) (out.push p) := ⟨i1, i2, by dsimp only at e; k_extra "m:oz", by k_extra "m:om", hs', ho', by k_extra "m:om"⟩
        exact wpS_ite (fun _ => wpS_pure ⟨rfl, .inl ⟨rfl, hI'⟩⟩) fun _ => wpS_pure ⟨rfl, rfl, hI'⟩
    case ipost =>
      refine pr6 fun r na nb out ac bc => ?_
      intro st2 hh
      have hst := hh.1; replace hh := hh.2
      subst hst
      rcases hh with ⟨hr, hI⟩ | ⟨r', hr, hg⟩
      · dsimp only at hr hI
        subst hr
        refine wpS_bind (wpS_lift (wpAny_rule ⟨rfl, ?_⟩))
        refine wpS_bind (wpS_mono (wpS_forRange
          (I := fun z c st' => Same st st' ∧ c.1 = none ∧ HiI P a b (x + z) c.2.1 c.2.2.1 c.2.2.2.1)
          (Q := fun c st' => Same st st' ∧ ((c.1 = none ∧ HiI P a b (x + 1) c.2.1 c.2.2.1 c.2.2.2.1) ∨ ∃ r, c.1 = some r ∧ GoodR P (a.size + b.size) r)) ?gstep ?gfin ⟨hS, rfl, hI⟩) ?gpost)
        case gfin =>
          rintro c st' ⟨h1, h2, h3⟩
          obtain ⟨j1, j2, j3, j4, j5, j6, j7⟩ := h3
          exact ⟨h1, .inl ⟨h2, j1, j2, j3, j4, j5, j6, by k_extra "m:om"⟩⟩
        case gpost =>
          rintro ⟨r, na, nb, out, mg, ac, bc⟩ st3 ⟨hS3, ⟨hr, hI⟩ | ⟨r', hr, hg⟩⟩
          · dsimp only at hr hI
            subst hr
            refine wpS_bind (wpS_modify ?_)
            exact wpS_pure ⟨hS3.mg _, rfl, hI⟩
          · dsimp only at hr
            subst hr
            exact wpS_pure ⟨hS3, .inr ⟨_, rfl, hg⟩⟩
        case gstep =>
          intro z
          refine pr7 fun r na nb out mg ac bc => ?_
          intro st3 _ hz hh
          have hS3 := hh.1; have hr := hh.2.1; have i1 := hh.2.2.1; have i2 := hh.2.2.2.1; have i3 := hh.2.2.2.2.1; have i4 := hh.2.2.2.2.2.1; have i5 := hh.2.2.2.2.2.2.1; have i6 := hh.2.2.2.2.2.2.2.1; have i7 := hh.2.2.2.2.2.2.2.2; clear hh
          dsimp only at hr i1 i2 i3 i4 i5 i6 i7
          subst hr
          refine' joinN ?key (fun key => ?main)
          case main =>
            refine wpS_ite (c := mg > 1) (fun _ => ?_) (fun _ => ?_)
            rotate_left
            · dsimp only
              generalize mg = n0
              exact key n0
            · dsimp only
              exact key (mg - 1)
          case key =>
            intro mg
            refine wpS_bind (wpS_modify ?_)
            have hS4 := hS3.mg mg
            refine wpS_bind (wpS_elemG (i := nb - 1) hb (by k_extra "m:om") fun p hp => ?_)
            refine wpS_bind (wpS_gallopG (n := na) (base := 0) (hint := na - 1) hP (hS4.kind hk) (hP p hp) ha (by k_extra "m:om") (by k_extra "m:om") fun k hk' => ?_)
            refine' joinB (fun o n => AllG P o ∧ o.size + n + nb = a.size + b.size ∧ 1 ≤ n ∧ n ≤ a.size ∧ x + z + n + nb ≤ a.size + b.size) ?key2 (fun key => ?main2)
            case main2 =>
              refine wpS_ite (c := na - k > 0) (fun hk0 => ?_) (fun hk0 => ?_)
              rotate_left
              · have ff : AllG P out ∧ out.size + na + nb = a.size + b.size ∧ 1 ≤ na ∧ na ≤ a.size ∧ x + z + na + nb ≤ a.size + b.size := ⟨i6, i5, i1, i2, i7⟩
                (try dsimp only)
                revert ff
                generalize na - k = c0
                generalize out = o0
                generalize na = n0
                exact key o0 n0 c0
              · have ho1 := i6.app (ha.ext k na).rev
                have hs1 : (out ++ (a.extract k na).reverse).size + k + nb = a.size + b.size := by rw [Array.size_append, Array.size_reverse, Array.size_extract, Nat.min_eq_left i2]; k_extra "m:oz"
                refine wpS_ite (fun _ => wpS_pure ⟨hS4, .inr ⟨_, rfl, good_doneH ha hb ho1 hs1 (by k_extra "m:om") (by k_extra "m:om")⟩⟩) fun e => ?_
                rw [beq_iff_eq] at e
                (try dsimp only at e)
                exact key _ _ _ ⟨ho1, hs1, by k_extra "m:om", by k_extra "m:om", by k_extra "m:om"⟩
            case key2 =>
              clear i1 i2 i5 i6 i7
              intro o n c1 hh; have ho := hh.1; have hs := hh.2.1; have i1 := hh.2.2.1; have i2 := hh.2.2.2.1; have i7 := hh.2.2.2.2; clear hh
              refine wpS_bind (wpS_elemG (i := nb - 1) hb (by k_extra "m:om") fun p hp => ?_)
              have ho' := ho.push hp
              have hs' : (o.push p).size + n + (nb - 1) = a.size + b.size := by rw [Array.size_push]; k_extra "m:oz"
              refine wpS_ite (fun _ => wpS_pure ⟨hS4, .inr ⟨_, rfl, good_first ha hb ho' hs' (by k_extra "m:om") (by k_extra "m:om")⟩⟩) fun e => ?_
              rw [beq_iff_eq] at e
              (try dsimp only at e)
              refine wpS_bind (wpS_elemG (i := n - 1) ha (by k_extra "m:om") fun q hq => ?_)
              refine wpS_bind (wpS_gallopG (n := nb - 1) (base := 0) (hint := nb - 1 - 1) hP (hS4.kind hk) (hP q hq) hb (by k_extra "m:om") (by k_extra "m:om") fun k2 hk2 => ?_)
              have j3 : 2 ≤ nb - 1 := by k_extra "m:om"
              have j4 : nb - 1 ≤ b.size := by k_extra "m:om"
              have j7 : x + z + n + (nb - 1) ≤ a.size + b.size := by k_extra "m:om"
              refine' joinB (fun o j => AllG P o ∧ o.size + n + j = a.size + b.size ∧ 2 ≤ j ∧ j ≤ b.size ∧ x + z + n + j ≤ a.size + b.size) ?key3 (fun key => ?main3)
              case main3 =>
                refine wpS_ite (c := nb - 1 - k2 > 0) (fun hk0 => ?_) (fun hk0 => ?_)
                rotate_left
                · have ff : AllG P (o.push p) ∧ (o.push p).size + n + (nb - 1) = a.size + b.size ∧ 2 ≤ nb - 1 ∧ nb - 1 ≤ b.size ∧ x + z + n + (nb - 1) ≤ a.size + b.size := ⟨ho', hs', j3, j4, j7⟩
                  (try dsimp only)
                  revert ff
                  generalize nb - 1 - k2 = c0
                  generalize o.push p = o0
                  generalize nb - 1 = j0
                  exact key o0 j0 c0
                · have ho2 := ho'.app (hb.ext k2 (nb - 1)).rev
                  have hs2 : (o.push p ++ (b.extract k2 (nb - 1)).reverse).size + n + k2 = a.size + b.size := by rw [Array.size_append, Array.size_reverse, Array.size_extract, Nat.min_eq_left j4]; k_extra "m:oz"
                  refine wpS_ite (fun _ => wpS_pure ⟨hS4, .inr ⟨_, rfl, good_first ha hb ho2 hs2 (by k_extra "m:om") (by k_extra "m:om")⟩⟩) fun e2 => ?_
                  refine wpS_ite (fun _ => wpS_pure ⟨hS4, .inr ⟨_, rfl, good_doneH ha hb ho2 hs2 (by k_extra "m:om") (by k_extra "m:om")⟩⟩) fun e2' => ?_
                  rw [beq_iff_eq] at e2 e2'
                  (try dsimp only at e2 e2')
                  exact key _ _ _ ⟨ho2, hs2, by k_extra "m:om", by k_extra "m:om", by k_extra "m:om"⟩
              case key3 =>
                intro o j c2 hh; have ho := hh.1; have hs := hh.2.1; have i3 := hh.2.2.1; have i4 := hh.2.2.2.1; have i7 := hh.2.2.2.2; clear hh
                refine wpS_bind (wpS_elemG (i := n - 1) ha (by k_extra "m:om") fun q hq => ?_)
                have ho3 := ho.push hq
                have hs3 : (o.push q).size + (n - 1) + j = a.size + b.size := by rw [Array.size_push]; k_extra "m:oz"
                refine wpS_ite (fun _ => wpS_pure ⟨hS4, .inr ⟨_, rfl, good_doneH ha hb ho3 hs3 (by k_extra "m:om") (by k_extra "m:om")⟩⟩) fun e3 => ?_
                rw [beq_iff_eq] at e3
                (try dsimp only at e3)
                have hI : HiI P a b (x + (z + 1)) (n - 1) j (o.push q) := ⟨by k_extra "m:om", by k_extra "m:om", i3, i4, hs3, ho3, by k_extra "m:om"⟩
                exact wpS_ite (fun _ => wpS_pure ⟨hS4, .inl ⟨rfl, by k_extra "m:om", by k_extra "m:om", i3, i4, hs3, ho3, by k_extra "m:om"⟩⟩) fun _ => wpS_pure ⟨hS4, rfl, hI⟩
      · dsimp only at hr
        subst hr
        exact wpS_pure ⟨hS, .inr ⟨_, rfl, hg⟩⟩
end
end Mine
end
section
theorem Mine.none_Srt4 : True := by
  k_with_none
  w_top off
  trivial
set_option maxRecDepth 100000
open PySem PySem.W PySem.Calls PyProof.Rows
namespace Mine
structure Sb (P : Keyed → Prop) (N : Nat) (pd : Array (Nat × Nat × Nat)) (st : SortSt) : Prop where
  size : (arrOf st).size = N
  all : AllG P (arrOf st)
  kind : kindOf st = oneType'
  failed : failedOf st = none
  pend : pendingOf st = pd
theorem Sb.same {P : Keyed → Prop} {N : Nat} {pd : Array (Nat × Nat × Nat)} {st st' : SortSt} (h : Sb P N pd st) (hs : Same st st') : Sb P N pd st' :=
  ⟨by rw [hs.2.1]; exact h.size, by rw [hs.2.1]; exact h.all, hs.1.trans h.kind, hs.2.2.2.trans h.failed, hs.2.2.1.trans h.pend⟩
theorem Sb.perm {P : Keyed → Prop} {N : Nat} {pd : Array (Nat × Nat × Nat)} {st : SortSt} (h : Sb P N pd st) {xs : Array Keyed} (hp : xs.Perm (arrOf st)) : Sb P N pd (setArr st xs) :=
  ⟨by show xs.size = N; rw [hp.size_eq]; exact h.size, h.all.perm hp, h.kind, h.failed, h.pend⟩
section
variable {M : Model} {A : Around} {E : Value → Shared → Prop} {s : Shared} {σ : Type}
theorem wpS_set {x : σ} {Q : PUnit → σ → Prop} {st : σ} (h : Q ⟨⟩ x) : wpS M A E s (set x : StateT σ Sem PUnit) Q st := by
  unfold wpS; rw [StateT.run_set]; exact wpAny_pure ⟨rfl, h⟩
end
section
variable {prog : Program} {w : World} {A : Around} {E : Value → Shared → Prop} {s : Shared} {st : SortSt} {P : Keyed → Prop} {N : Nat} {pd : Array (Nat × Nat × Nat)}
theorem wpS_ltAtG {i j : Nat} {Q : Option Bool → SortSt → Prop} (hP : ∀ p, P p → IsKey p) (hB : Sb P N pd st) (hi : i < N) (hj : j < N) (h : ∀ b, Q (some b) st) : wpS (model prog w) A E s (ltAt' i j) Q st := by
  rw [ltAt'_eq]
  refine wpS_bind (wpS_get ?_)
  refine wpS_bind (wpS_elemG hB.all (by rw [hB.size]; exact hi) fun p hp => ?_)
  refine wpS_bind (wpS_elemG hB.all (by rw [hB.size]; exact hj) fun q hq => ?_)
  exact wpS_ltG hB.kind (hP p hp) (hP q hq) h
set_option maxHeartbeats 4000000 in
theorem wpS_binG {lo n ok : Nat} {Q : Bool → SortSt → Prop} (hP : ∀ p, P p → IsKey p) (hB : Sb P N pd st) (hn : lo + n ≤ N) (h : ∀ st', Sb P N pd st' → Q true st') : wpS (model prog w) A E s (binarySort' lo n ok) Q st := by
  refine wpS_bind (wpS_mono (wpS_forRange (I := fun _ c st' => c.1 = none ∧ Sb P N pd st') (Q := fun c st' => c.1 = none ∧ Sb P N pd st') ?step (fun _ _ hh => hh) ⟨rfl, hB⟩) ?post)
  case post =>
    rintro ⟨r, u⟩ st' ⟨hr, hB'⟩
    dsimp only at hr
    subst hr
    exact wpS_pure (h st' hB')
  case step =>
    rintro k ⟨r, u⟩ st' hk1 hk2 ⟨hr, hB'⟩
    dsimp only at hr
    subst hr
    refine wpS_bind (wpS_mono (wpS_forRange (I := fun _ c st'' => st'' = st' ∧ c.1 = none ∧ c.2.2 ≤ k) (Q := fun c st'' => st'' = st' ∧ c.1 = none) ?istep (fun _ _ hh => ⟨hh.1, hh.2.1⟩) ⟨rfl, rfl, Nat.le_refl _⟩) ?ipost)
    case istep =>
      rintro y ⟨r, l, m⟩ st'' _ _ ⟨rfl, hr, hm⟩
      dsimp only at hr hm
      subst hr
      refine wpS_ite (c := l ≥ m) (fun _ => wpS_pure ⟨rfl, rfl⟩) fun hlm => ?_
      refine wpS_bind (wpS_ltAtG (i := lo + k) (j := lo + (l + m) / 2) hP hB' (by lia) (by lia) fun b => ?_)
      exact wpS_ite (c := b = true) (fun _ => wpS_pure ⟨rfl, rfl, by (try dsimp only); lia⟩) fun _ => wpS_pure ⟨rfl, rfl, hm⟩
    case ipost =>
      rintro ⟨r, l, m⟩ st'' ⟨rfl, hr⟩
      dsimp only at hr
      subst hr
      refine wpS_bind (wpS_modify (wpS_pure ⟨rfl, ?_⟩))
      exact hB'.perm (bubble_perm _ _ _)
set_option maxHeartbeats 4000000 in
theorem wpS_countG {lo nrem : Nat} {Q : Option Nat → SortSt → Prop} (hP : ∀ p, P p → IsKey p) (hB : Sb P N pd st) (h1 : 1 ≤ nrem) (hn : lo + nrem ≤ N) (h : ∀ m st', 1 ≤ m → m ≤ nrem → Sb P N pd st' → Q (some m) st') : wpS (model prog w) A E s (countRun' lo nrem) Q st := by
  have asc : ∀ {st : SortSt} {a : Nat} {g : Option (Option Nat) × Nat → StateT SortSt Sem (Option Nat)} (f : Nat → Option (Option Nat) × Nat → StateT SortSt Sem (ForInStep (Option (Option Nat) × Nat))), Sb P N pd st → 1 ≤ a → a ≤ nrem →
      (∀ x n (Q' : ForInStep (Option (Option Nat) × Nat) → SortSt → Prop), 1 ≤ n → n < nrem → (Q' (.done (none, n)) st) → (Q' (.yield (none, n + 1)) st) → wpS (model prog w) A E s (f x (none, n)) Q' st) →
      (∀ n, 1 ≤ n → n ≤ nrem → wpS (model prog w) A E s (g (none, n)) Q st) → wpS (model prog w) A E s (forIn [a:nrem] (none, a) f >>= g) Q st := by
    intro st a g f hB ha1 ha2 hf hg
    refine wpS_bind (wpS_mono (wpS_forRange (I := fun x c st' => st' = st ∧ c.1 = none ∧ 1 ≤ c.2 ∧ c.2 ≤ x) (Q := fun c st' => st' = st ∧ c.1 = none ∧ 1 ≤ c.2 ∧ c.2 ≤ nrem) ?_ ?_ ⟨rfl, rfl, ha1, Nat.le_refl _⟩) ?_)
    · rintro x ⟨r, n⟩ st' _ hx ⟨rfl, hr, k1, k2⟩
      dsimp only at hr k1 k2
      subst hr
      exact hf x n _ k1 (by lia) ⟨rfl, rfl, k1, by (try dsimp only); lia⟩ ⟨rfl, rfl, by (try dsimp only); lia, by (try dsimp only); lia⟩
    · rintro c st' ⟨e, hr, k1, k2⟩
      exact ⟨e, hr, k1, by lia⟩
    · rintro ⟨r, n⟩ st' ⟨rfl, hr, k1, k2⟩
      dsimp only at hr k1 k2
      subst hr
      exact hg n k1 k2
  refine asc _ hB (Nat.le_refl _) h1 (fun x n Q' k1 k2 k3 k4 => ?_) fun n k1 k2 => ?_
  · refine wpS_bind (wpS_ltAtG (i := lo + n) (j := lo + n - 1) hP hB (by lia) (by lia) fun b => ?_)
    exact wpS_ite (c := b = true) (fun _ => wpS_pure k3) fun _ => wpS_pure k4
  refine wpS_ite (fun _ => wpS_pure (h n _ k1 k2 hB)) fun hne => ?_
  rw [beq_iff_eq] at hne
  try dsimp only at hne
  have desc : ∀ {st : SortSt} {a : Nat} {g : Option (Option Nat) × Nat × Nat → StateT SortSt Sem (Option Nat)} (f : Nat → Option (Option Nat) × Nat × Nat → StateT SortSt Sem (ForInStep (Option (Option Nat) × Nat × Nat))), Sb P N pd st → 1 ≤ a → a ≤ nrem →
      (∀ x n q st' (Q' : ForInStep (Option (Option Nat) × Nat × Nat) → SortSt → Prop), Sb P N pd st' → 1 ≤ n → n < nrem → (∀ q st', Sb P N pd st' → Q' (.done (none, n, q)) st') → (∀ q st', Sb P N pd st' → Q' (.yield (none, n + 1, q)) st') → wpS (model prog w) A E s (f x (none, n, q)) Q' st') →
      (∀ n q st', 1 ≤ n → n ≤ nrem → Sb P N pd st' → wpS (model prog w) A E s (g (none, n, q)) Q st') → wpS (model prog w) A E s (forIn [a:nrem] (none, a, 0) f >>= g) Q st := by
    intro st a g f hB ha1 ha2 hf hg
    refine wpS_bind (wpS_mono (wpS_forRange (I := fun x c st' => c.1 = none ∧ 1 ≤ c.2.1 ∧ c.2.1 ≤ x ∧ Sb P N pd st') (Q := fun c st' => c.1 = none ∧ 1 ≤ c.2.1 ∧ c.2.1 ≤ nrem ∧ Sb P N pd st') ?_ ?_ ⟨rfl, ha1, Nat.le_refl _, hB⟩) ?_)
    · rintro x ⟨r, n, q⟩ st' _ hx ⟨hr, k1, k2, hB'⟩
      dsimp only at hr k1 k2
      subst hr
      exact hf x n q st' _ hB' k1 (by lia) (fun q st' hB => ⟨rfl, k1, by (try dsimp only); lia, hB⟩) (fun q st' hB => ⟨rfl, by (try dsimp only); lia, by (try dsimp only); lia, hB⟩)
    · rintro c st' ⟨hr, k1, k2, hB⟩
      exact ⟨hr, k1, by lia, hB⟩
    · rintro ⟨r, n, q⟩ st' ⟨hr, k1, k2, hB⟩
      dsimp only at hr k1 k2
      subst hr
      exact hg n q st' k1 k2 hB
  refine wpS_ite (c := n > 1) (fun _ => ?_) fun _ => ?_
  · refine wpS_bind (wpS_ltAtG (i := lo) (j := lo + n - 1) hP hB (by lia) (by lia) fun b => ?_)
    refine wpS_ite (c := b = true) (fun _ => wpS_pure (h n _ k1 k2 hB)) fun _ => ?_
    refine wpS_bind (wpS_modify ?_)
    have hB1 := hB.perm (mirror_perm (arrOf st) lo (lo + n) ((lo + n - lo) / 2))
    refine wpS_bind (wpS_lift (wpAny_rule ⟨rfl, ?_⟩))
    refine desc _ hB1 (by lia) (by lia) (fun x n q st' Q' hB' j1 j2 j3 j4 => ?_) fun n q st' j1 j2 hB' => ?_
    · refine wpS_bind (wpS_ltAtG (i := lo + n) (j := lo + n - 1) hP hB' (by lia) (by lia) fun b => ?_)
      refine wpS_ite (c := b = true) (fun _ => ?_) fun _ => ?_
      · refine wpS_ite (c := q > 0) (fun _ => ?_) fun _ => ?_
        · exact wpS_bind (wpS_modify (wpS_pure (j4 _ _ (hB'.perm (mirror_perm _ _ _ _)))))
        · exact wpS_pure (j4 _ _ hB')
      · refine wpS_bind (wpS_ltAtG (i := lo + n - 1) (j := lo + n) hP hB' (by lia) (by lia) fun b2 => ?_)
        exact wpS_ite (c := b2 = true) (fun _ => wpS_pure (j3 _ _ hB')) fun _ => wpS_pure (j4 _ _ hB')
    · refine wpS_ite (c := q > 0) (fun _ => ?_) fun _ => ?_
      · refine wpS_bind (wpS_modify ?_)
        refine wpS_bind (wpS_modify ?_)
        have hB2 := (hB'.perm (mirror_perm (arrOf st') (lo + n - (q + 1)) (lo + n) ((lo + n - (lo + n - (q + 1))) / 2)))
        have hB3 := (hB2.perm (mirror_perm (arrOf (setArr st' (mirror (arrOf st') (lo + n - (q + 1)) (lo + n) ((lo + n - (lo + n - (q + 1))) / 2)))) lo (lo + n) ((lo + n - lo) / 2)))
        refine asc _ hB3 j1 j2 (fun x n Q' k1 k2 k3 k4 => ?_) fun n k1 k2 => ?_
        · refine wpS_bind (wpS_ltAtG (i := lo + n) (j := lo + n - 1) hP hB3 (by lia) (by lia) fun b => ?_)
          exact wpS_ite (c := b = true) (fun _ => wpS_pure k3) fun _ => wpS_pure k4
        · exact wpS_pure (h n _ k1 k2 hB3)
      · refine wpS_bind (wpS_modify ?_)
        have hB3 := (hB'.perm (mirror_perm (arrOf st') lo (lo + n) ((lo + n - lo) / 2)))
        refine asc _ hB3 j1 j2 (fun x n Q' k1 k2 k3 k4 => ?_) fun n k1 k2 => ?_
        · refine wpS_bind (wpS_ltAtG (i := lo + n) (j := lo + n - 1) hP hB3 (by lia) (by lia) fun b => ?_)
          exact wpS_ite (c := b = true) (fun _ => wpS_pure k3) fun _ => wpS_pure k4
        · exact wpS_pure (h n _ k1 k2 hB3)
  · refine wpS_bind (wpS_lift (wpAny_rule ⟨rfl, ?_⟩))
    refine desc _ hB (by lia) (by lia) (fun x n q st' Q' hB' j1 j2 j3 j4 => ?_) fun n q st' j1 j2 hB' => ?_
    · refine wpS_bind (wpS_ltAtG (i := lo + n) (j := lo + n - 1) hP hB' (by lia) (by lia) fun b => ?_)
      refine wpS_ite (c := b = true) (fun _ => ?_) fun _ => ?_
      · refine wpS_ite (c := q > 0) (fun _ => ?_) fun _ => ?_
        · exact wpS_bind (wpS_modify (wpS_pure (j4 _ _ (hB'.perm (mirror_perm _ _ _ _)))))
        · exact wpS_pure (j4 _ _ hB')
      · refine wpS_bind (wpS_ltAtG (i := lo + n - 1) (j := lo + n) hP hB' (by lia) (by lia) fun b2 => ?_)
        exact wpS_ite (c := b2 = true) (fun _ => wpS_pure (j3 _ _ hB')) fun _ => wpS_pure (j4 _ _ hB')
    · refine wpS_ite (c := q > 0) (fun _ => ?_) fun _ => ?_
      · refine wpS_bind (wpS_modify ?_)
        refine wpS_bind (wpS_modify ?_)
        have hB2 := (hB'.perm (mirror_perm (arrOf st') (lo + n - (q + 1)) (lo + n) ((lo + n - (lo + n - (q + 1))) / 2)))
        have hB3 := (hB2.perm (mirror_perm (arrOf (setArr st' (mirror (arrOf st') (lo + n - (q + 1)) (lo + n) ((lo + n - (lo + n - (q + 1))) / 2)))) lo (lo + n) ((lo + n - lo) / 2)))
        refine asc _ hB3 j1 j2 (fun x n Q' k1 k2 k3 k4 => ?_) fun n k1 k2 => ?_
        · refine wpS_bind (wpS_ltAtG (i := lo + n) (j := lo + n - 1) hP hB3 (by lia) (by lia) fun b => ?_)
          exact wpS_ite (c := b = true) (fun _ => wpS_pure k3) fun _ => wpS_pure k4
        · exact wpS_pure (h n _ k1 k2 hB3)
      · refine wpS_bind (wpS_modify ?_)
        have hB3 := (hB'.perm (mirror_perm (arrOf st') lo (lo + n) ((lo + n - lo) / 2)))
        refine asc _ hB3 j1 j2 (fun x n Q' k1 k2 k3 k4 => ?_) fun n k1 k2 => ?_
        · refine wpS_bind (wpS_ltAtG (i := lo + n) (j := lo + n - 1) hP hB3 (by lia) (by lia) fun b => ?_)
          exact wpS_ite (c := b = true) (fun _ => wpS_pure k3) fun _ => wpS_pure k4
        · exact wpS_pure (h n _ k1 k2 hB3)
end
end Mine
end
section
theorem Mine.none_Srt5 : True := by
  k_with_none
  w_top off
  trivial
set_option maxRecDepth 100000
open PySem PySem.W PySem.Calls PyProof.Rows
namespace Mine
theorem foldl_set {P : Keyed → Prop} (sa : Nat) : ∀ (l : List (Keyed × Nat)) (xs : Array Keyed), AllG P xs → (∀ p ∈ l, P p.1) → AllG P (l.foldl (fun a q => a.setIfInBounds (sa + q.2) q.1) xs) ∧ (l.foldl (fun a q => a.setIfInBounds (sa + q.2) q.1) xs).size = xs.size
  | [], xs, h, _ => ⟨h, rfl⟩
  | q :: r, xs, h, hl => by
    obtain ⟨h1, h2⟩ := foldl_set sa r (xs.setIfInBounds (sa + q.2) q.1) (h.set _ (hl q (.head _))) fun p hp => hl p (.tail _ hp)
    exact ⟨h1, by rw [List.foldl_cons, h2, Array.size_setIfInBounds]⟩
theorem zip_all {P : Keyed → Prop} {r : Array Keyed} (h : AllG P r) : ∀ p ∈ r.toList.zipIdx, P p.1 := fun p hp => by
  have hm := List.fst_mem_of_mem_zipIdx hp
  obtain ⟨i, hi⟩ := List.getElem?_of_mem hm
  exact h i p.1 (by rw [← Array.getElem?_toList]; exact hi)
section
variable {prog : Program} {w : World} {A : Around} {E : Value → Shared → Prop} {s : Shared} {st : SortSt} {P : Keyed → Prop} {N : Nat}
set_option maxHeartbeats 4000000 in
theorem wpS_mergeAtG {n p q : Nat} {Q : Bool → SortSt → Prop} (hP : ∀ p, P p → IsKey p) (hB : Sb P N #[(0, n, p), (n, N - n, q)] st) (h1 : 1 ≤ n) (h2 : n < N) (h : ∀ st' r, Sb P N #[(0, N, r)] st' → Q true st') : wpS (model prog w) A E s (mergeAt' 0) Q st := by
  obtain ⟨kd, arr, pd, mg, fl⟩ := st
  obtain ⟨hsz0, hall0, hk, hf, hp⟩ := hB
  have hp : pd = _ := hp
  have hsz : arr.size = N := hsz0
  have hall : AllG P arr := hall0
  have hk : kd = oneType' := hk
  have hf : fl = none := hf
  clear hsz0 hall0
  subst hp hk hf
  refine wpS_bind (wpS_get ?_)
  refine wpS_bind (wpS_set ?_)
  refine wpS_bind (wpS_elemG (xs := arr) (i := n) hall (by lia) fun x hx => ?_)
  refine wpS_bind (wpS_gallopG (arr := arr) (n := n) (base := 0) (hint := 0) hP rfl (hP x hx) hall (by lia) (by lia) fun k hk' => ?_)
  have fin : ∀ (a' : Array Keyed) (g : Nat), a'.size = N → AllG P a' → Sb P N #[(0, N, p)] (SortSt.mk' oneType' a' #[(0, N, p)] g none) := fun a' g z1 z2 => ⟨z1, z2, rfl, rfl, rfl⟩
  have e0 : (#[(0, n, p), (n, N - n, q)].setIfInBounds 0 (0, n + (N - n), p)).eraseIdxIfInBounds (0 + 1) = #[(0, N, p)] := by
    rw [show n + (N - n) = N by lia]; simp [Array.eraseIdxIfInBounds]
  refine wpS_ite (fun _ => wpS_pure ?_) fun hne => ?_
  · have := fin arr mg hsz hall
    rw [← e0] at this
    exact h _ p (e0 ▸ this)
  rw [beq_iff_eq] at hne
  try dsimp only at hne
  refine wpS_bind (wpS_elemG (xs := arr) (i := 0 + k + (n - k) - 1) hall (by lia) fun y hy => ?_)
  refine wpS_bind (wpS_gallopG (arr := arr) (n := N - n) (base := n) (hint := N - n - 1) hP rfl (hP y hy) hall (by lia) (by lia) fun k2 hk2 => ?_)
  refine wpS_ite (fun _ => wpS_pure ?_) fun hne2 => ?_
  · have := fin arr mg hsz hall
    rw [← e0] at this
    exact h _ p (e0 ▸ this)
  rw [beq_iff_eq] at hne2
  try dsimp only at hne2
  have sx : (arr.extract (0 + k) n).size = n - k := by rw [Array.size_extract]; lia
  have sy : (arr.extract n (n + k2)).size = k2 := by rw [Array.size_extract]; lia
  have put : ∀ (r : Array Keyed) (st' : SortSt), Same (SortSt.mk' oneType' arr ((#[(0, n, p), (n, N - n, q)].setIfInBounds 0 (0, n + (N - n), p)).eraseIdxIfInBounds (0 + 1)) mg none) st' → GoodR P ((n - k) + k2) r →
      Sb P N #[(0, N, p)] (SortSt.mk' (kindOf st') (r.toList.zipIdx.foldl (fun a q => a.setIfInBounds (0 + k + q.2) q.1) (arrOf st')) (pendingOf st') (gallopOf st') (failedOf st')) := by
    intro r st' hS hr
    rw [e0] at hS
    obtain ⟨s1, s2, s3, s4⟩ := hS
    have s2 : arrOf st' = arr := s2
    obtain ⟨z1, z2⟩ := foldl_set (0 + k) r.toList.zipIdx arr hall (zip_all hr.2)
    refine ⟨?_, ?_, s1, s4, s3⟩
    · show (r.toList.zipIdx.foldl (fun a q => a.setIfInBounds (0 + k + q.2) q.1) (arrOf st')).size = N
      rw [s2, z2, hsz]
    · show AllG P (r.toList.zipIdx.foldl (fun a q => a.setIfInBounds (0 + k + q.2) q.1) (arrOf st'))
      rw [s2]; exact z1
  have last : ∀ (r : Array Keyed) (st' : SortSt), Same (SortSt.mk' oneType' arr ((#[(0, n, p), (n, N - n, q)].setIfInBounds 0 (0, n + (N - n), p)).eraseIdxIfInBounds (0 + 1)) mg none) st' → GoodR P ((n - k) + k2) r →
      ∀ (b : Bool), b = (failedOf st').isNone → Q b (SortSt.mk' (kindOf st') (r.toList.zipIdx.foldl (fun a q => a.setIfInBounds (0 + k + q.2) q.1) (arrOf st')) (pendingOf st') (gallopOf st') (failedOf st')) := by
    intro r st' hS hr b hb
    have hX := put r st' hS hr
    have : failedOf st' = none := hS.2.2.2
    rw [this] at hb
    rw [hb]
    exact h _ p hX
  refine wpS_ite (c := n - k ≤ k2) (fun _ => ?_) fun _ => ?_
  · refine wpS_bind (wpS_mergeLoG hP rfl (hall.ext (0 + k) n) (hall.ext n (n + k2)) (by rw [sx]; lia) (by rw [sy]; lia) fun r st' hS hr => ?_)
    rw [sx, sy] at hr
    refine wpS_bind (wpS_modify ?_)
    refine wpS_bind (wpS_get ?_)
    exact wpS_pure (last r st' hS hr _ rfl)
  · refine wpS_bind (wpS_mergeHiG hP rfl (hall.ext (0 + k) n) (hall.ext n (n + k2)) (by rw [sx]; lia) (by rw [sy]; lia) fun r st' hS hr => ?_)
    rw [sx, sy] at hr
    refine wpS_bind (wpS_modify ?_)
    refine wpS_bind (wpS_get ?_)
    exact wpS_pure (last r st' hS hr _ rfl)
end
end Mine
end
section
theorem Mine.none_Srt6 : True := by
  k_with_none
  w_top off
  trivial
set_option maxRecDepth 100000
open PySem PySem.W PySem.Calls PyProof.Rows
namespace Mine
section
variable {prog : Program} {w : World} {A : Around} {E : Value → Shared → Prop} {s : Shared} {st : SortSt} {P : Keyed → Prop}
/-- the state behind the runs: one run, or two -/
def Two (P : Keyed → Prop) (st : SortSt) : Prop := (∃ p, Sb P 87 #[(0, 87, p)] st) ∨ ∃ n p, 44 ≤ n ∧ n < 87 ∧ Sb P 87 #[(0, n, p), (n, 87 - n, 0)] st
theorem min87 : minRun' 87 87 0 = 44 := by decide
theorem Sb.pushE {N : Nat} {pd : Array (Nat × Nat × Nat)} (h : Sb P N pd st) (x : Nat × Nat × Nat) : Sb P N (pd.push x) (setPending st ((pendingOf st).push x)) := ⟨h.size, h.all, h.kind, h.failed, by show (pendingOf st).push x = pd.push x; rw [h.pend]⟩
theorem Sb.push {N : Nat} {pd : Array (Nat × Nat × Nat)} (h : Sb P N pd st) (pd' : Array (Nat × Nat × Nat)) : Sb P N pd' (setPending st pd') := ⟨h.size, h.all, h.kind, h.failed, rfl⟩
set_option maxHeartbeats 8000000 in
theorem wpS_runsG {Q : Unit → SortSt → Prop} (hP : ∀ p, P p → IsKey p) (hB : Sb P 87 #[] st) (h : ∀ st', (arrOf st').size = 87 → AllG P (arrOf st') → failedOf st' = none → Q () st') : wpS (model prog w) A E s sortRuns' Q st := by
  rw [sortRuns'_eq]
  refine wpS_bind (wpS_get ?_)
  have hz : (arrOf st).size = 87 := hB.size
  dsimp only
  rw [hz, min87]
  refine wpS_bind (wpS_mono (wpS_forRange
    (I := fun x c st' => c.1 = none ∧ ((x = 0 ∧ c.2 = 0 ∧ Sb P 87 #[] st') ∨ (x = 1 ∧ ∃ n, 44 ≤ n ∧ n < 87 ∧ c.2 = n ∧ Sb P 87 #[(0, n, 0)] st') ∨ (1 ≤ x ∧ c.2 = 87 ∧ Two P st')))
    (Q := fun c st' => c.1 = none ∧ Two P st') ?step ?fin ⟨rfl, .inl ⟨rfl, rfl, hB⟩⟩) ?post)
  case fin =>
    rintro c st' ⟨hr, ⟨hx, _⟩ | ⟨hx, _⟩ | ⟨_, _, hT⟩⟩
    · lia
    · lia
    · exact ⟨hr, hT⟩
  case step =>
    rintro x ⟨r, lo⟩ st' _ hx ⟨hr, hh⟩
    dsimp only at hr hh
    subst hr
    rcases hh with ⟨rfl, rfl, hB'⟩ | ⟨rfl, n, hn1, hn2, hlo, hB'⟩ | ⟨hx1, rfl, hT⟩
    · refine wpS_ite (fun hc => absurd hc (by decide)) fun _ => ?_
      refine wpS_bind (wpS_countG hP hB' (by decide) (by decide) fun m st2 hm1 hm2 hB2 => ?_)
      have close : ∀ n st3, 44 ≤ n → n ≤ 87 → Sb P 87 #[] st3 → (none : Option Unit) = none ∧ ((0 + 1 = 0 ∧ 0 + n = 0 ∧ Sb P 87 #[] (setPending st3 ((pendingOf st3).push (0, n, 0)))) ∨ (0 + 1 = 1 ∧ ∃ m, 44 ≤ m ∧ m < 87 ∧ 0 + n = m ∧ Sb P 87 #[(0, m, 0)] (setPending st3 ((pendingOf st3).push (0, n, 0)))) ∨ (1 ≤ 0 + 1 ∧ 0 + n = 87 ∧ Two P (setPending st3 ((pendingOf st3).push (0, n, 0))))) := by
        intro n st3 h1 h2 hB3
        refine ⟨rfl, .inr ?_⟩
        by_cases e : n = 87
        · subst e
          exact .inr ⟨by lia, by lia, .inl ⟨0, hB3.pushE _⟩⟩
        · exact .inl ⟨rfl, n, h1, by lia, by lia, hB3.pushE _⟩
      refine wpS_ite (c := m < 44) (fun _ => ?_) fun hm => ?_
      · refine wpS_bind (wpS_lift (wpAny_rule ⟨rfl, ?_⟩))
        refine wpS_bind (wpS_binG hP hB2 (by decide) fun st3 hB3 => ?_)
        refine wpS_ite (fun hc => absurd hc (by decide)) fun _ => ?_
        refine wpS_bind (wpS_get ?_)
        have hb : (pendingOf st3).back? = none := by rw [hB3.pend]; rfl
        rw [hb]
        exact wpS_bind (wpS_modify (wpS_pure (close 44 st3 (by decide) (by decide) hB3)))
      · refine wpS_bind (wpS_get ?_)
        have hb : (pendingOf st2).back? = none := by rw [hB2.pend]; rfl
        rw [hb]
        exact wpS_bind (wpS_modify (wpS_pure (close m st2 (by lia) (by lia) hB2)))
    · have hlo' := hlo.symm
      subst hlo'
      refine wpS_ite (fun hc => absurd hc (by lia)) fun _ => ?_
      refine wpS_bind (wpS_countG hP hB' (by lia) (by lia) fun m st2 hm1 hm2 hB2 => ?_)
      refine wpS_ite (c := m < 44) (fun _ => ?_) fun hm => absurd hm (by lia)
      refine wpS_bind (wpS_lift (wpAny_rule ⟨rfl, ?_⟩))
      have e44 : min (87 - n) 44 = 87 - n := by lia
      rw [e44]
      refine wpS_bind (wpS_binG hP hB2 (by lia) fun st3 hB3 => ?_)
      refine wpS_ite (fun hc => absurd hc (by decide)) fun _ => ?_
      refine wpS_bind (wpS_get ?_)
      have hb : (pendingOf st3).back? = some (0, n, 0) := by rw [hB3.pend]; rfl
      rw [hb]
      refine wpS_bind (wpS_mono (wpS_forRange (I := fun _ c st'' => st'' = st3 ∧ c.1 = none) (Q := fun c st'' => st'' = st3 ∧ c.1 = none) ?_ (fun _ _ hh => hh) ⟨rfl, rfl⟩) ?_)
      · rintro y ⟨r, u⟩ st'' _ _ ⟨rfl, hr⟩
        dsimp only at hr
        subst hr
        refine wpS_bind (wpS_get ?_)
        have hs : ¬ (pendingOf st'').size > 1 := by rw [hB3.pend]; exact Nat.lt_irrefl 1
        try dsimp only
        rw [if_neg hs]
        exact wpS_pure ⟨rfl, rfl⟩
      · rintro ⟨r, u⟩ st'' ⟨rfl, hr⟩
        dsimp only at hr
        subst hr
        refine wpS_bind (wpS_modify ?_)
        refine wpS_bind (wpS_modify (wpS_pure ⟨rfl, .inr (.inr ⟨by lia, by (try dsimp only); lia, .inr ⟨n, power' 87 (2 * 0 + n) (2 * 0 + n + n + (87 - n)) 87, hn1, hn2, hB3.size, hB3.all, hB3.kind, hB3.failed, ?_⟩⟩)⟩))
        show (((pendingOf st'').modify ((pendingOf st'').size - 1) _).push (n, 87 - n, 0)) = _
        rw [hB3.pend]
        rfl
    · exact wpS_ite (fun _ => wpS_pure ⟨rfl, hT⟩) fun hc => absurd (Nat.le_refl 87) hc
  case post =>
    rintro ⟨r, lo⟩ st' ⟨hr, hT⟩
    dsimp only at hr
    subst hr
    refine wpS_bind (wpS_mono (wpS_forRange
      (I := fun x c st'' => c.1 = none ∧ ((x = 0 ∧ Two P st'') ∨ ∃ p, Sb P 87 #[(0, 87, p)] st''))
      (Q := fun c st'' => c.1 = none ∧ ∃ p, Sb P 87 #[(0, 87, p)] st'') ?step2 ?fin2 ⟨rfl, .inl ⟨rfl, hT⟩⟩) ?post2)
    case fin2 =>
      rintro c st'' ⟨hr, ⟨hx, _⟩ | hp⟩
      · lia
      · exact ⟨hr, hp⟩
    case post2 =>
      rintro ⟨r, u⟩ st'' ⟨hr, p, hB⟩
      dsimp only at hr
      subst hr
      exact wpS_pure (h _ hB.size hB.all hB.failed)
    case step2 =>
      rintro x ⟨r, u⟩ st'' _ _ ⟨hr, hh⟩
      dsimp only at hr
      subst hr
      refine wpS_bind (wpS_get ?_)
      rcases hh with ⟨rfl, ⟨p, hB⟩ | ⟨n, p, hn1, hn2, hB⟩⟩ | ⟨p, hB⟩
      · refine wpS_ite (fun _ => wpS_pure ⟨rfl, p, hB⟩) fun hc => absurd (by rw [hB.pend]; exact Nat.le_refl 1) hc
      · refine wpS_ite (fun hc => absurd hc (by rw [hB.pend]; exact Nat.not_succ_le_self 1)) fun _ => ?_
        have hs : (pendingOf st'').size = 2 := by rw [hB.pend]; rfl
        try dsimp only
        rw [hs]
        refine wpS_bind (wpS_mergeAtG hP hB (by lia) hn2 fun st3 r hB3 => ?_)
        refine wpS_ite (fun hc => absurd hc (by decide)) fun _ => ?_
        exact wpS_pure ⟨rfl, .inr ⟨r, hB3⟩⟩
      · refine wpS_ite (fun _ => wpS_pure ⟨rfl, p, hB⟩) fun hc => absurd (by rw [hB.pend]; exact Nat.le_refl 1) hc
end
end Mine
end
section
theorem Mine.none_Exc : True := by
  k_with_none
  w_top off
  trivial
set_option maxRecDepth 100000
open PySem PySem.W PySem.Calls PyProof.Rows
namespace Mine

theorem meta_Exception : typeOf (.type "Exception") = pure (.type "type") := by kernel_rfl

section
open Builtin Builtin.ObjectAttr Builtin.Getset_descriptor
variable {prog : Program} {w : World} {A : Around} {K : Frag} {C M e L : Addr} {s : Shared} {h₀ : Heap} {m : Str → Option Value} {news pre post : List (Addr × Obj)} {R : Result → Shared → Prop} {E : Value → Shared → Prop}

/-- the store of an attribute upon an own exception: the way to its own dict -/
theorem exc_open {ox : Obj} {od : Option Obj} {name : Str} {tk : Tok} {v : Value} {cd : ClassData} (X : K.In s.heap) (I : InstAt s.heap e ox C od)
    (hc : clsIn K C = some cd) (hm : cd.mro = [.ref C, .ref M, .type "Exception", .type "BaseException", .type "object"]) (ht : takerIn K C name = some none)
    (h : ∀ b, wpAny (model prog w) A.in1 (storeInOwnDict (.ref e) (.ref C) (.str name tk) name v b)
      (fun fin s' => match fin with | .done f => R (.ok f) s' | .again c' => c'.quiet = true ∧ codeAny (model prog w) A c' R s') (fun x s' => R (.error x) s') s) :
    codeAny (model prog w) A (.call (.builtin "object.__setattr__") ⟨[.ref e, .str name tk, v], []⟩) R s := by
  have SF := PySem.F.store_object
  have SE := PySem.F.store_Exception
  have hmro : Looks (model prog w) s.heap (mroOf (.ref C)) cd.mro := (looks_clsIn X hc).andThen .now
  have ne : cd.mro.isEmpty = false := by rw [hm]; rfl
  have sub : Looks (model prog w) s.heap (isInstance (.ref e) (.type "object")) true :=
    I.type.andThen (looks_mroIn X (by unfold mroIn; rw [hc, Option.bind_some, if_neg (by rw [ne]; decide), hm]; simp))
  refine codeAny_call_builtin SF.slot.plain SF.entry (@check_slot (model prog w) _ _ s "object.__setattr__" "object" "__setattr__" (.ref e) [.str name tk, v] [] _ SF.kind SF.split sub (SF.args (.ref e) (.str name tk) v) ?_)
  obtain ⟨attr, ha, hr⟩ := Option.bind_eq_some_iff.mp ht
  have L3 : Looks (model prog w) s.heap (storeTaker? attr) none := by
    cases attr with
    | none => cases hr; exact .now
    | some a =>
      obtain ⟨b, hb, hz⟩ := Option.map_eq_some_iff.mp hr
      refine (looks_takesIn X hb).andThen ?_
      cases b
      · exact .now
      · simp at hz
  rw [osa_eq, refuse_eq]
  refine wpAny_bind (wpAny_bind (I.type.here (wpAny_bind (hmro.here ?_))))
  rw [hm, refuseLoop_ref, refuseLoop_ref, SE.passes]
  refine wpAny_pure (wpAny_bind (I.type.here (wpAny_bind ((looks_findIn X ha).here (wpAny_bind (L3.here ?_))))))
  exact h _

/-- the first attribute: its dict is made -/
theorem exc_set1 {vs : Array Value} {sl : Array (Option Value)} {name : Str} {v : Value} {cd : ClassData} {Q : Unit → Shared → Prop} (F : Fr h₀ L s.heap m) (X₀ : K.In h₀)
    (N : News h₀ L s.heap (pre ++ (e, (⟨.ref C, none, .fields vs, sl⟩ : Obj)) :: post)) (h1 : ∀ p ∈ pre, p.1 ≠ e) (h2 : ∀ p ∈ post, p.1 ≠ e)
    (hs : findIn K (.ref C) "__setattr__" = some (some (.builtin "object.__setattr__"))) (hc : clsIn K C = some cd)
    (hm : cd.mro = [.ref C, .ref M, .type "Exception", .type "BaseException", .type "object"]) (hdc : cd.hasDict = true) (ht : takerIn K C name = some none)
    (h : ∀ D h' tk', Fr h₀ L h' m → News h₀ L h' ((D, dictOf [⟨PyData.keyHash w.params name, .str name (s.toks + 1), v⟩] 1) :: (pre ++ (e, (⟨.ref C, some D, .fields vs, sl⟩ : Obj)) :: post)) →
      (∀ p ∈ pre ++ (e, (⟨.ref C, none, .fields vs, sl⟩ : Obj)) :: post, p.1 < D) → Q () { s with heap := h', toks := tk' }) :
    wpAny (model prog w) A (setAttr (.ref e) name v) Q E s := by
  have X : K.In s.heap := X₀.keeps F.keep
  have he : s.heap.get? e = some ⟨.ref C, none, .fields vs, sl⟩ := (N (e, ⟨.ref C, none, .fields vs, sl⟩) (by simp)).1
  have I : InstAt s.heap e ⟨.ref C, none, .fields vs, sl⟩ C none := ⟨he, rfl, rfl, trivial⟩
  refine set_plain X I hs ?_
  have I' : InstAt ({ s with toks := s.toks + 1 } : Shared).heap e ⟨.ref C, none, .fields vs, sl⟩ C none := I
  refine exc_open (s := { s with toks := s.toks + 1 }) X I' hc hm ht fun b => ?_
  have hlt : ∀ p ∈ pre ++ (e, (⟨.ref C, none, .fields vs, sl⟩ : Obj)) :: post, p.1 < s.heap.objs.size := fun p hp => Heap.lt_size (N p hp).1
  have hes : e < s.heap.objs.size := Heap.lt_size he
  have F1 := F.push { cls := .type "dict", data := .dict #[] }
  have N1 := N.push F { cls := .type "dict", data := .dict #[] }
  have he1 : (s.heap.push { cls := .type "dict", data := .dict #[] }).get? e = some ⟨.ref C, none, .fields vs, sl⟩ := Heap.get?_push_of_some _ he
  obtain ⟨F2, N2⟩ := news_upd (pre := (s.heap.objs.size, { cls := .type "dict", data := .dict #[] }) :: pre) (post := post) (d := e) (o := ⟨.ref C, none, .fields vs, sl⟩)
    (o' := ⟨.ref C, some s.heap.objs.size, .fields vs, sl⟩) (f := fun o => { o with dict := some s.heap.objs.size }) F1 N1
    (fun p hp => by
      rcases List.mem_cons.mp hp with rfl | hp
      · exact Nat.ne_of_gt hes
      · exact h1 p hp) h2 rfl rfl
  have hD2 := (N2 (s.heap.objs.size, { cls := .type "dict", data := .dict #[] }) (by simp)).1
  obtain ⟨F3, N3⟩ := news_upd (pre := []) (post := pre ++ (e, (⟨.ref C, some s.heap.objs.size, .fields vs, sl⟩ : Obj)) :: post) (d := s.heap.objs.size) (o := dictOf [] 0)
    (o' := dictOf [⟨PyData.keyHash w.params name, .str name (s.toks + 1), v⟩] 1) (f := Obj.putName name (PyData.keyHash w.params name) (.str name (s.toks + 1)) v) F2 N2
    (fun _ hp => nomatch hp) (fun p hp => by
      have : p.1 < s.heap.objs.size := by
        rcases List.mem_append.mp hp with hp | hp
        · exact hlt p (List.mem_append_left _ hp)
        · rcases List.mem_cons.mp hp with rfl | hp
          · exact hes
          · exact hlt p (List.mem_append_right _ (.tail _ hp))
      exact Nat.ne_of_lt this) (by rw [putName_dict]; rfl) rfl
  have hD3 := (N3 (s.heap.objs.size, dictOf [⟨PyData.keyHash w.params name, .str name (s.toks + 1), v⟩] 1) (by simp)).1
  unfold storeInOwnDict ownStreamTells ownDictForStores instanceDict
  refine wpAny_bind (wpAny_pure (wpAny_bind (wpAny_bind (wpAny_loadPart he ?_))))
  dsimp only
  have X1 : K.In ({ s with toks := s.toks + 1 } : Shared).heap := X
  refine wpAny_bind (Looks.here (s := { s with toks := s.toks + 1 }) (looks_clsIn X1 hc) ?_)
  rw [if_neg (by rw [hdc]; decide), if_neg (by simp [typeHasDict])]
  refine wpAny_bind (wpAny_alloc ?_)
  refine wpAny_bind (wpAny_update he1 ?_)
  refine wpAny_pure ?_
  dsimp only
  unfold storeInDict newKeyGuard nsSet
  refine wpAny_bind (wpAny_pure (wpAny_bind (wpAny_bind (wpAny_bind (wpAny_askSetting (wpAny_pure (wpAny_bind (wpAny_mkText (wpAny_bind (wpAny_loadPart hD2 ?_))))))))))
  dsimp only
  rw [aRefKeyMayBeTheName_at, if_neg (by simp)]
  refine wpAny_updatePart hD2 ?_
  refine wpAny_bind (wpAny_lookBehind hD3 (by show Data.pastItsLine (.dict _ _) = none; exact pastItsLine_dict (by rw [List.size_toArray, sizeLine_eq]; simp)) ?_)
  exact wpAny_pure (h _ _ _ F3 N3 hlt)

/-- a further attribute: its dict stands -/
theorem exc_set2 {D : Addr} {es es' : List DictEntry} {n n' : Nat} {news' : List (Addr × Obj)} {vs : Array Value} {sl : Array (Option Value)} {name : Str} {v : Value} {cd : ClassData} {Q : Unit → Shared → Prop} (F : Fr h₀ L s.heap m) (X₀ : K.In h₀)
    (N : News h₀ L s.heap news) (he : (e, (⟨.ref C, some D, .fields vs, sl⟩ : Obj)) ∈ news) (U : Upd D (dictOf es n) (dictOf es' n') news news')
    (hs : findIn K (.ref C) "__setattr__" = some (some (.builtin "object.__setattr__"))) (hc : clsIn K C = some cd)
    (hm : cd.mro = [.ref C, .ref M, .type "Exception", .type "BaseException", .type "object"]) (hdc : cd.hasDict = true) (ht : takerIn K C name = some none)
    (hno : es.any (·.refKey) = false)
    (e1 : (putL name (PyData.keyHash w.params name) (.str name (s.toks + 1)) v es, putN name es n) = (es', n')) (hz : es'.length ≤ 1000)
    (h : ∀ h' tk', Fr h₀ L h' m → News h₀ L h' news' → Q () { s with heap := h', toks := tk' }) :
    wpAny (model prog w) A (setAttr (.ref e) name v) Q E s := by
  have X : K.In s.heap := X₀.keeps F.keep
  obtain ⟨pre, post, rfl, rfl, a, b⟩ := U.split
  obtain ⟨q1, q2⟩ := Prod.mk.inj e1
  have hE := (N _ he).1
  have hD : s.heap.get? D = some (dictOf es n) := (N (D, dictOf es n) (by simp)).1
  have I : InstAt s.heap e ⟨.ref C, some D, .fields vs, sl⟩ C (some (dictOf es n)) := ⟨hE, rfl, rfl, hD⟩
  refine set_plain X I hs ?_
  have I' : InstAt ({ s with toks := s.toks + 1 } : Shared).heap e ⟨.ref C, some D, .fields vs, sl⟩ C (some (dictOf es n)) := I
  refine exc_open (s := { s with toks := s.toks + 1 }) X I' hc hm ht fun bb => ?_
  obtain ⟨F3, N3⟩ := news_upd (f := Obj.putName name (PyData.keyHash w.params name) (.str name (s.toks + 1)) v) F N a b (by rw [putName_dict, q1, q2]) (rfl : (dictOf es' n').isFreed = false)
  have hD3 := (N3 (D, dictOf es' n') (by simp)).1
  unfold storeInOwnDict ownStreamTells ownDictForStores instanceDict
  refine wpAny_bind (wpAny_pure (wpAny_bind (wpAny_bind (wpAny_loadPart hE ?_))))
  dsimp only
  have X1 : K.In ({ s with toks := s.toks + 1 } : Shared).heap := X
  refine wpAny_bind (Looks.here (s := { s with toks := s.toks + 1 }) (looks_clsIn X1 hc) ?_)
  rw [if_neg (by rw [hdc]; decide)]
  refine wpAny_pure ?_
  dsimp only
  unfold storeInDict newKeyGuard nsSet
  refine wpAny_bind (wpAny_pure (wpAny_bind (wpAny_bind (wpAny_bind (wpAny_askSetting (wpAny_pure (wpAny_bind (wpAny_mkText (wpAny_bind (wpAny_loadPart hD ?_))))))))))
  dsimp only
  rw [aRefKeyMayBeTheName_at, if_neg (by rw [← Array.any_toList, ← Array.any_toList, hno, Bool.and_false]; decide)]
  refine wpAny_updatePart hD ?_
  refine wpAny_bind (wpAny_lookBehind hD3 (by show Data.pastItsLine (.dict _ _) = none; exact pastItsLine_dict (by rw [List.size_toArray, sizeLine_eq]; lia)) ?_)
  exact wpAny_pure (h _ _ F3 N3)

variable {nm q : Str} {N : Addr} {bs bmB : List Value} {hdct : Bool} {sn : List Str} {sub : List Value} {ab : Bool} {col : Option Bool} {dd : Option Addr} {k0 k1 k2 k3 k5 : Option Value} {B newId initId : String}

theorem bm_has {X : String} : (Value.ref C :: Value.ref M :: bmB).contains (.type X) = bmB.contains (.type X) := by
  rw [List.contains_cons, List.contains_cons]; rfl

/-- Exception.__init__(self, what) upon an own exception -/
theorem exc_init_call (FB : ExcBaseFacts B newId initId bmB) {v : Value} {vs : Array Value} {sl : Array (Option Value)} {od : Option Addr} {Q : Value → Shared → Prop}
    (hC : s.heap.get? C = some (excClassObj nm q C N bs (.ref M :: bmB) hdct sn sub ab col dd k0 k1 k2 k3 k5 newId))
    (he : s.heap.get? e = some ⟨.ref C, od, .fields vs, sl⟩) {t0 : Addr} (h0 : vs[0]? = some (.ref t0)) (hz : 0 < vs.size)
    (h : Q .none { s with heap := (s.heap.push { cls := .type "tuple", data := .seq #[v] }).update e (Obj.mapFields (·.setIfInBounds 0 (.ref s.heap.objs.size))) }) :
    wpAny (model prog w) A (call (.builtin initId) [.ref e, v]) Q E s := by
  have hcB : (Value.ref C :: Value.ref M :: bmB).contains (.type B) = true := by rw [bm_has, FB.hasB]
  refine wpAny_call (codeAny_call_builtin FB.init.plain FB.initEntry ?_)
  have hshort := FB.noStar
  simp only [checkBuiltinCall, FB.initKind, FB.initSplit, FB.initRow]
  obtain ⟨hp, g, d, t, os⟩ := s
  repeat (first | (with_reducible refine wpAny_loadPart_at he ?_) | with_reducible refine wpAny_loadPart_at hC ?_ | (with_reducible refine wpAny_isSubtype_exc hC ?_; rw [hcB]) | wp_step)
  rw [h0]
  refine wpAny_pure (wpAny_bind (wpAny_setField (Heap.get?_push_of_some _ he) rfl hz ?_))
  refine wpAny_bind (wpAny_holding (wpAny_point ?_))
  exact wpAny_pure (wpAny_pure h)

/-- the same with the ledger -/
theorem exc_initN (FB : ExcBaseFacts B newId initId bmB) {v : Value} {t0 : Addr} {sl : Array (Option Value)} {Q : Value → Shared → Prop}
    (hC : s.heap.get? C = some (excClassObj nm q C N bs (.ref M :: bmB) hdct sn sub ab col dd k0 k1 k2 k3 k5 newId))
    (F : Fr h₀ L s.heap m) (Nw : News h₀ L s.heap (pre ++ (e, (⟨.ref C, none, .fields #[.ref t0, .none, .none, .none, .bool false, .none], sl⟩ : Obj)) :: post)) (h1 : ∀ p ∈ pre, p.1 ≠ e) (h2 : ∀ p ∈ post, p.1 ≠ e)
    (h : ∀ D h', Fr h₀ L h' m → News h₀ L h' ((D, ({ cls := .type "tuple", data := .seq #[v] } : Obj)) :: (pre ++ (e, (⟨.ref C, none, .fields #[.ref D, .none, .none, .none, .bool false, .none], sl⟩ : Obj)) :: post)) →
      (∀ p ∈ pre ++ (e, (⟨.ref C, none, .fields #[.ref t0, .none, .none, .none, .bool false, .none], sl⟩ : Obj)) :: post, p.1 < D) → Q .none { s with heap := h' }) :
    wpAny (model prog w) A (call (.builtin initId) [.ref e, v]) Q E s := by
  have he : s.heap.get? e = some ⟨.ref C, none, .fields #[.ref t0, .none, .none, .none, .bool false, .none], sl⟩ := (Nw (e, _) (List.mem_append_right _ (.head _))).1
  have hes : e < s.heap.objs.size := Heap.lt_size he
  refine exc_init_call FB hC he (t0 := t0) rfl (Nat.succ_pos _) ?_
  have F1 := F.push { cls := .type "tuple", data := .seq #[v] }
  have N1 := Nw.push F { cls := .type "tuple", data := .seq #[v] }
  obtain ⟨F2, N2⟩ := news_upd (pre := (s.heap.objs.size, { cls := .type "tuple", data := .seq #[v] }) :: pre) (post := post) (d := e) (o := ⟨.ref C, none, .fields #[.ref t0, .none, .none, .none, .bool false, .none], sl⟩)
    (o' := ⟨.ref C, none, .fields #[.ref s.heap.objs.size, .none, .none, .none, .bool false, .none], sl⟩) (f := Obj.mapFields (·.setIfInBounds 0 (.ref s.heap.objs.size))) F1 N1
    (fun p hp => by
      rcases List.mem_cons.mp hp with rfl | hp
      · exact Nat.ne_of_gt hes
      · exact h1 p hp) h2 rfl rfl
  exact h _ _ F2 N2 fun p hp => Heap.lt_size (Nw p hp).1

theorem check_new_m (FB : ExcBaseFacts B newId initId bmB) {rest : List Value} {Q : Unit → Shared → Prop} {h : Heap} {g : Array GenState} {d : Drawn} {t : Nat} {os : OsState}
    (hC : h.get? C = some (excClassObj nm q C N bs (.ref M :: bmB) hdct sn sub ab col dd k0 k1 k2 k3 k5 newId))
    (hq : Q () ⟨h, g, d, t, os⟩) : wpAny (model prog w) A (checkBuiltinCall newId ⟨.ref C :: rest, []⟩) Q E ⟨h, g, d, t, os⟩ := by
  have hcont : (Value.ref C :: Value.ref M :: bmB).contains (.type B) = true := by rw [bm_has, FB.hasB]
  have hstar := FB.noStar
  simp only [checkBuiltinCall, FB.newKind, FB.newSplit, FB.newRow]
  repeat (first | refine wpAny_loadPart_at hC ?_ | (refine wpAny_isSubtype_exc hC ?_; rw [hcont]) | refine wpAny_staticBase_exc hC ?_ | refine wpAny_madeBy_exc hC ?_ | simp only [bne_self_eq_false, Bool.false_eq_true, if_false] | wp_step)
  exact hq

theorem exc_new_m (FB : ExcBaseFacts B newId initId bmB) {rest : List Value} {h : Heap} {g : Array GenState} {d : Drawn} {t : Nat} {os : OsState}
    (hC : h.get? C = some (excClassObj nm q C N bs (.ref M :: bmB) hdct sn sub ab col dd k0 k1 k2 k3 k5 newId))
    (hq : R (.ok (.ret (.ref (h.objs.size + 1)))) ⟨(h.push { cls := .type "tuple", data := .seq rest.toArray }).push
      { cls := .ref C, data := .fields #[.ref h.objs.size, .none, .none, .none, .bool false, .none] }, g, d, t, os⟩) (hrest : rest.length ≤ sizeLine := by size_fits) :
    codeAny (model prog w) A (.builtin newId ⟨.ref C :: rest, []⟩) R ⟨h, g, d, t, os⟩ := by
  have hends := FB.ends
  have hcB : (Value.ref C :: Value.ref M :: bmB).contains (.type B) = true := by rw [bm_has, FB.hasB]
  have hcA : (Value.ref C :: Value.ref M :: bmB).contains (.type "AttributeError") = false := by rw [bm_has, FB.noAttr]
  have hcN : (Value.ref C :: Value.ref M :: bmB).contains (.type "NameError") = false := by rw [bm_has, FB.noName]
  refine codeAny_builtinAt FB.entry ?_
  unfold Builtin.«BaseException.__new__»
  refine PySem.wpAt_bind ?_
  show PySem.wpAt _ _ _ (stack >>= _) _ _ _
  refine PySem.wpAt_bind (PySem.wpAt_stack fun p below => PySem.wpAt_of_wpAny ?_)
  wp_walk
  refine PySem.wpAt_of_wpAny ?_
  rw [FB.owner]
  repeat (first | with_reducible refine wpAny_madeHere_exc FB.canon hC ?_ | with_reducible refine wpAny_loadPart_at hC ?_ | (with_reducible refine wpAny_isSubtype_exc hC ?_; first | rw [hcB] | rw [hcA] | rw [hcN]) | wp_step)
  show R _ _
  rw [Heap.size_push]
  exact hq

/-- an own exception whose class inherits a written __init__ -/
theorem mint_call (FB : ExcBaseFacts B newId initId bmB) {rest : List Value} {fI : Addr} {oI : Obj} {Q : Value → Shared → Prop} (X : K.In s.heap)
    (hC : s.heap.get? C = some (excClassObj nm q C N bs (.ref M :: bmB) hdct sn sub ab col dd k0 k1 k2 k3 k5 newId))
    (hi : findIn K (.ref C) "__init__" = some (some (.ref fI))) (hfI : s.heap.get? fI = some oI) (hfc : oI.cls = .type "function")
    (hq : wpAny (model prog w) (A.under (.builtin "type.__call__" ⟨.ref C :: rest, []⟩)) (call (.ref fI) (.ref (s.heap.objs.size + 1) :: rest)) (fun r s' => r = .none ∧ Q (.ref (s.heap.objs.size + 1)) s') E
      { s with heap := (s.heap.push { cls := .type "tuple", data := .seq rest.toArray }).push { cls := .ref C, data := .fields #[.ref s.heap.objs.size, .none, .none, .none, .bool false, .none] } }) (hrest : rest.length ≤ sizeLine := by size_fits) :
    wpAny (model prog w) A (call (.ref C) rest) Q E s := by
  obtain ⟨h, g, d, t, os⟩ := s
  dsimp only at hC hfI hq X
  have f1 := tc_lookup
  have f2 := tc_bind (.ref C)
  have hT : (⟨h, g, d, t, os⟩ : Shared).TypeIs (.ref C) "type" := ⟨_, hC, rfl⟩
  refine wpAny_call (codeAny_of_tree ?_)
  show wpAny _ _ (callAny (.ref C) _) _ _ _
  repeat (any_goals (first | assumption | with_reducible refine wpAny_loadPart_at hC ?_ | wp_step))
  refine ⟨rfl, ?_⟩
  refine codeAny_call_builtin_at (Code.quiet_builtin _ (by decide +kernel)) entry_typeCall (wpAny_check_type_call_sub hC ?_)
  repeat (first | with_reducible refine wpAny_loadPart_at hC ?_ | with_reducible refine wpAny_madeBy_exc hC ?_ | wp_step)
  refine codeAny_call_builtin_code (Code.quiet_builtin _ FB.quiet) (check_new_m FB hC ?_)
  refine exc_new_m FB hC ?_ hrest
  show wpAny _ _ _ _ _ _
  have keep : ∀ b o, h.get? b = some o → ((h.push { cls := .type "tuple", data := .seq rest.toArray }).push { cls := .ref C, data := .fields #[.ref h.objs.size, .none, .none, .none, .bool false, .none] }).get? b = some o :=
    fun b o hb => Heap.get?_push_of_some _ (Heap.get?_push_of_some _ hb)
  have hC₁ := keep _ _ hC
  have hfI₁ := keep _ _ hfI
  have X₁ := X.keeps keep
  have hget : ((h.push { cls := .type "tuple", data := .seq rest.toArray }).push
      { cls := .ref C, data := .fields #[.ref h.objs.size, .none, .none, .none, .bool false, .none] }).get? (h.objs.size + 1) = some
      { cls := .ref C, data := .fields #[.ref h.objs.size, .none, .none, .none, .bool false, .none] } := by heap_get
  have hcC : (Value.ref C :: Value.ref M :: bmB).contains (.ref C) = true := by simp
  unfold isInstance
  repeat (first | with_reducible refine wpAny_loadPart_at hget ?_ | wp_step)
  show wpAny _ _ (isSubtype (.ref C) (.ref C)) _ _ _
  refine wpAny_isSubtype_exc hC₁ ?_
  rw [hcC]
  repeat (first | with_reducible refine wpAny_loadPart_at hget ?_ | wp_step)
  show wpAny _ _ (typeLookup (.ref C) _) _ _ _
  refine Looks.here (s := ⟨_, g, d, t, os⟩) (looks_findIn X₁ hi) ?_
  refine wpAny_holding (wpAny_bind ?_)
  unfold bindSpecial
  refine wpAny_bind (wpAny_typeOf (T := "function") ⟨_, hfI₁, hfc⟩ ?_)
  rw [if_pos (by decide)]
  refine wpAny_pure (wpAny_bind (wpAny_mono hq (fun r s' hr => ?_) fun _ _ x => x))
  obtain ⟨rfl, hQ⟩ := hr
  wp_walk
  exact hQ

theorem mint_callN (FB : ExcBaseFacts B newId initId bmB) {rest : List Value} {fI : Addr} {oI : Obj} {Q : Value → Shared → Prop} (X₀ : K.In h₀) (F : Fr h₀ L s.heap m) (Nw : News h₀ L s.heap news)
    (hC : K.lookup C = some (excClassObj nm q C N bs (.ref M :: bmB) hdct sn sub ab col dd k0 k1 k2 k3 k5 newId))
    (hi : findIn K (.ref C) "__init__" = some (some (.ref fI))) (hfI : K.lookup fI = some oI) (hfc : oI.cls = .type "function")
    (hq : ∀ e t h', Fr h₀ L h' m → News h₀ L h' ((e, (⟨.ref C, none, .fields #[.ref t, .none, .none, .none, .bool false, .none], #[]⟩ : Obj)) :: (t, ({ cls := .type "tuple", data := .seq rest.toArray } : Obj)) :: news) →
      (∀ p ∈ news, p.1 < t) → t < e →
      wpAny (model prog w) (A.under (.builtin "type.__call__" ⟨.ref C :: rest, []⟩)) (call (.ref fI) (.ref e :: rest)) (fun r s' => r = .none ∧ Q (.ref e) s') E { s with heap := h' }) (hrest : rest.length ≤ sizeLine := by size_fits) :
    wpAny (model prog w) A (call (.ref C) rest) Q E s := by
  have X : K.In s.heap := X₀.keeps F.keep
  have F1 := F.push { cls := .type "tuple", data := .seq rest.toArray }
  have N1 := Nw.push F { cls := .type "tuple", data := .seq rest.toArray }
  have F2 := F1.push { cls := .ref C, data := .fields #[.ref s.heap.objs.size, .none, .none, .none, .bool false, .none] }
  have N2 := N1.push F1 { cls := .ref C, data := .fields #[.ref s.heap.objs.size, .none, .none, .none, .bool false, .none] }
  rw [Heap.size_push] at N2
  exact mint_call FB X (X _ _ hC) hi (X _ _ hfI) hfc (hq _ _ _ F2 N2 (fun p hp => Heap.lt_size (Nw p hp).1) (Nat.lt_succ_self _)) hrest
end
end Mine
end
section
theorem Mine.none_Exc2 : True := by
  k_with_none
  w_top off
  trivial
set_option maxRecDepth 100000
open PySem PySem.W PySem.Calls PyProof.Rows
namespace Mine

/-- an own exception stands, ready to be raised -/
def RaisedO (E : Value → Shared → Prop) (v : Value) (s₁ : Shared) : Prop :=
  ∃ e C od sl t nm q N bs bm hdct sn sub ab col dd k0 k1 k2 k3 k5 newId, v = .ref e ∧ s₁.heap.get? C = some (excClassObj nm q C N bs bm hdct sn sub ab col dd k0 k1 k2 k3 k5 newId) ∧ bm.contains (.type "BaseException") = true ∧
    s₁.heap.get? e = some (⟨.ref C, od, .fields #[.ref t, .none, .none, .none, .bool false, .none], sl⟩ : Obj) ∧ E (.ref e) s₁

section
variable {M : Model} {A : Around} {E : Value → Shared → Prop} {s s' : Shared} {env : Env}

theorem raiseStmt_mint {x : Sem Value} {Q : Flow → Shared → Prop} (hh : A.handled = none) (h : wpAny M A x (RaisedO E) E s) : wpAny M A (raiseStmt env (some x) none) Q E s := by
  unfold raiseStmt
  refine wpAny_bind (wpAny_mono h (fun v s₁ h₁ => ?_) fun _ _ x => x)
  obtain ⟨e, C, od, sl, t, nm, q, N, bs, bm, hdct, sn, sub, ab, col, dd, k0, k1, k2, k3, k5, newId, rfl, hC, hbase, he, hE⟩ := h₁
  have hcB : (Value.ref C :: bm).contains (.type "BaseException") = true := by rw [List.contains_cons, hbase, Bool.or_true]
  obtain ⟨hp, g, d, tk, os⟩ := s₁
  repeat (first | with_reducible refine wpAny_loadPart_at he ?_ | with_reducible refine wpAny_loadPart_at hC ?_ | (with_reducible refine wpAny_isSubtype_exc hC ?_; rw [hcB]) | wp_step)
  exact wpAny_raiseNew_none hh hE

theorem Raise_mint {e₀ : Expr} {pos : Pos} {Q : Flow → Shared → Prop} (hh : A.handled = none) (h : wpAny M A (eval e₀ env) (RaisedO E) E s) : wpAny M A (exec (.Raise (some e₀) none pos) env) Q E s := by
  show wpAny M A (do standAt pos; raiseStmt env (some (do let v ← eval e₀ env; standAt pos; pure v)) none) Q E s
  refine wpAny_bind (wpAny_standAt ?_)
  exact raiseStmt_mint hh (wpAny_bind (wpAny_mono h (fun v s₁ h₁ => wpAny_bind (wpAny_standAt (wpAny_pure h₁))) fun _ _ x => x))
end

section
variable {M : Model} {A : Around} {E : Value → Shared → Prop} {s' : Shared} {base g : Heap} {outer : List Env} {L a e t : Addr} {m : Str → Option Value} {name : Str} {scope : Scope} {cd : Value} {Q : Unit → Shared → Prop} {news news' : List (Addr × Obj)}
theorem leave_mint {C : Addr} {vs : List Value} {n : Nat} {od : Option Addr} {sl : Array (Option Value)} (K : Below A base outer g) (F : Fr g L s'.heap m) (N : News g L s'.heap news)
    (he : (e, (⟨.ref C, od, .fields #[.ref t, .none, .none, .none, .bool false, .none], sl⟩ : Obj)) ∈ news) (ht : (t, ({ cls := .type "tuple", data := .seq vs.toArray n } : Obj)) ∈ news)
    (hn : ∀ p ∈ news', p ∈ news ∧ p.1 ≠ e ∧ p.1 ≠ t)
    (hQ : ∀ h', RaisedS base g outer e (.ref C) t vs news' h' → RaisedK base outer e (.ref C) t vs news' h' → g.UpToSlots h' → Q () { s' with heap := h' }) (hk : scope.kind = .function := by rfl) :
    wpAny M (A.deeper (envOf name scope L a cd)) (leaving (envOf name scope L a cd) (.ref e)) Q E s' := by
  have K' := K.push (name := name) (a := a) (cd := cd) F hk
  have hin : ∀ env ∈ (envOf name scope L a cd :: outer), ∀ b, env.frame = some b → b ∈ (envOf name scope L a cd :: outer).filterMap (·.frame) ++ [e, t] := fun env he b hb => List.mem_append_left _ (List.mem_filterMap.mpr ⟨env, he, hb⟩)
  have gE := (N _ he).2.2
  have gT := (N _ ht).2.2
  have st : base.StaysIn (hideAll s'.heap ((envOf name scope L a cd :: outer).filterMap (·.frame) ++ [e, t])) := fun b o q => hideAll_get _ (K'.stays b o q) fun hm => by
    rcases List.mem_append.mp hm with hm | hm
    · rw [(K'.frames.mem hm).1] at q; cases q
    · have := fresh_of_stays K.stays gE
      have := fresh_of_stays K.stays gT
      simp only [List.mem_cons, List.not_mem_nil, or_false] at hm
      rcases hm with rfl | rfl <;> simp_all
  have sg : ∀ b o, g.get? b = some o → b ∉ outer.filterMap (·.frame) → (hideAll s'.heap ((envOf name scope L a cd :: outer).filterMap (·.frame) ++ [e, t])).get? b = some o := fun b o q nm => hideAll_get _ (F.keep b o q) fun hm => by
    rcases List.mem_append.mp hm with hm | hm
    · rcases kts_mem hm with z | z
      · rw [z, kts_self F] at q
        cases q
      · exact nm z
    · simp only [List.mem_cons, List.not_mem_nil, or_false] at hm
      rcases hm with rfl | rfl <;> simp_all
  have hl : ∀ q ∈ news', (hideAll s'.heap ((envOf name scope L a cd :: outer).filterMap (·.frame) ++ [e, t])).get? q.1 = some q.2 ∧ g.get? q.1 = none ∧ base.get? q.1 = none := fun q hq => by
    obtain ⟨hq, n1, n2⟩ := hn q hq
    refine ⟨hideAll_get _ (N q hq).1 fun hm => ?_, (N q hq).2.2, fresh_of_stays K.stays (N q hq).2.2⟩
    rcases List.mem_append.mp hm with hm | hm
    · obtain ⟨env, he, hf⟩ := List.mem_filterMap.mp hm
      rcases List.mem_cons.mp he with rfl | he
      · exact (N q hq).2.1 (Option.some.inj hf).symm
      · obtain ⟨o, ho, _⟩ := (K.frames.mem (List.mem_filterMap.mpr ⟨env, he, hf⟩)).2
        rw [(N q hq).2.2] at ho; cases ho
    · simp only [List.mem_cons, List.not_mem_nil, or_false] at hm
      rcases hm with z | z
      · exact n1 z
      · exact n2 z
  have hE' := (N _ he).1
  have hT' := (N _ ht).1
  have bE : (hideAll s'.heap ((envOf name scope L a cd :: outer).filterMap (·.frame) ++ [e, t])).get? e = none := hideAll_none _ (by simp)
  have bT : (hideAll s'.heap ((envOf name scope L a cd :: outer).filterMap (·.frame) ++ [e, t])).get? t = none := hideAll_none _ (by simp)
  refine wpAny_leaving_firstW (base := hideAll s'.heap ((envOf name scope L a cd :: outer).filterMap (·.frame) ++ [e, t])) (a0 := .ref t) K'.stack (funFrames_hide K'.frames hin) rfl hE' (fun b o q => of_hideAll _ q) bE rfl rfl rfl fun h' hL => ?_
  obtain ⟨k1, ⟨_, _, k2⟩, k3, k4⟩ := hL
  have R : RaisedS base g outer e (.ref C) t vs news' h' := ⟨⟨_, st, sg, hl, ⟨k1, bE, k2, k3⟩, bT⟩, Heap.TupAt.of_slots ⟨_, n, hT', rfl, rfl⟩ k4⟩
  exact hQ h' R R.toK ((Heap.UpToSlots.of_keeps F.keep).trans k4)

theorem leave_mint4 {C D t₀ : Addr} {oD o₀ : Obj} {vs : List Value} {n : Nat} {od : Option Addr} {sl : Array (Option Value)} {rest : List (Addr × Obj)} (K : Below A base outer g) (F : Fr g L s'.heap m)
    (N : News g L s'.heap ((D, oD) :: (t, ({ cls := .type "tuple", data := .seq vs.toArray n } : Obj)) :: (e, (⟨.ref C, od, .fields #[.ref t, .none, .none, .none, .bool false, .none], sl⟩ : Obj)) :: (t₀, o₀) :: rest))
    (h1 : ∀ p ∈ rest, p.1 ≠ e) (h2 : ∀ p ∈ rest, p.1 ≠ t)
    (hQ : ∀ h', RaisedS base g outer e (.ref C) t vs rest h' → RaisedK base outer e (.ref C) t vs rest h' → g.UpToSlots h' → Q () { s' with heap := h' }) (hk : scope.kind = .function := by rfl) :
    wpAny M (A.deeper (envOf name scope L a cd)) (leaving (envOf name scope L a cd) (.ref e)) Q E s' :=
  leave_mint K F N (.tail _ (.tail _ (.head _))) (.tail _ (.head _)) (fun p hp => ⟨.tail _ (.tail _ (.tail _ (.tail _ hp))), h1 p hp, h2 p hp⟩) hQ hk

theorem raisedO_of {K : Frag} {C : Addr} {news : List (Addr × Obj)} {nm q : Str} {N : Addr} {bs bm : List Value} {hdct : Bool} {sn : List Str} {sub : List Value} {ab : Bool} {col : Option Bool} {dd : Option Addr} {k0 k1 k2 k3 k5 : Option Value} {newId : String}
    {od : Option Addr} {sl : Array (Option Value)} {h₀ : Heap} {E : Value → Shared → Prop}
    (X₀ : K.In h₀) (F : Fr h₀ L s'.heap m) (Nw : News h₀ L s'.heap news) (he : (e, (⟨.ref C, od, .fields #[.ref t, .none, .none, .none, .bool false, .none], sl⟩ : Obj)) ∈ news)
    (hC : K.lookup C = some (excClassObj nm q C N bs bm hdct sn sub ab col dd k0 k1 k2 k3 k5 newId)) (hb : bm.contains (.type "BaseException") = true) (hE : E (.ref e) s') : RaisedO E (.ref e) s' :=
  ⟨e, C, od, sl, t, nm, q, N, bs, bm, hdct, sn, sub, ab, col, dd, k0, k1, k2, k3, k5, newId, rfl, X₀.keeps F.keep _ _ hC, hb, (Nw _ he).1, hE⟩
end

section
variable {prog : Program} {w : World} {A : Around} {K : Frag} {C M e L T : Addr} {s : Shared} {h₀ : Heap} {m : Str → Option Value} {post : List (Addr × Obj)} {oT : Obj} {E : Value → Shared → Prop}
theorem exc_set1' {vs : Array Value} {sl : Array (Option Value)} {name : Str} {v : Value} {cd : ClassData} {Q : Unit → Shared → Prop} (F : Fr h₀ L s.heap m) (X₀ : K.In h₀)
    (N : News h₀ L s.heap ((T, oT) :: (e, (⟨.ref C, none, .fields vs, sl⟩ : Obj)) :: post)) (h1 : T ≠ e) (h2 : ∀ p ∈ post, p.1 ≠ e)
    (hs : findIn K (.ref C) "__setattr__" = some (some (.builtin "object.__setattr__"))) (hc : clsIn K C = some cd)
    (hm : cd.mro = [.ref C, .ref M, .type "Exception", .type "BaseException", .type "object"]) (hdc : cd.hasDict = true) (ht : takerIn K C name = some none)
    (h : ∀ D h' tk', Fr h₀ L h' m → News h₀ L h' ((D, dictOf [⟨PyData.keyHash w.params name, .str name (s.toks + 1), v⟩] 1) :: (T, oT) :: (e, (⟨.ref C, some D, .fields vs, sl⟩ : Obj)) :: post) →
      (∀ p ∈ (T, oT) :: (e, (⟨.ref C, none, .fields vs, sl⟩ : Obj)) :: post, p.1 < D) → Q () { s with heap := h', toks := tk' }) :
    wpAny (model prog w) A (setAttr (.ref e) name v) Q E s :=
  exc_set1 (pre := [(T, oT)]) (post := post) F X₀ N (fun p hp => by rw [List.mem_singleton.mp hp]; exact h1) h2 hs hc hm hdc ht h

variable {nm q : Str} {N : Addr} {bs bmB : List Value} {hdct : Bool} {sn : List Str} {sub : List Value} {ab : Bool} {col : Option Bool} {dd : Option Addr} {k0 k1 k2 k3 k5 : Option Value} {B newId initId : String}
theorem exc_initN' (FB : ExcBaseFacts B newId initId bmB) {v : Value} {t0 : Addr} {sl : Array (Option Value)} {Q : Value → Shared → Prop}
    (hC : s.heap.get? C = some (excClassObj nm q C N bs (.ref M :: bmB) hdct sn sub ab col dd k0 k1 k2 k3 k5 newId))
    (F : Fr h₀ L s.heap m) (Nw : News h₀ L s.heap ((e, (⟨.ref C, none, .fields #[.ref t0, .none, .none, .none, .bool false, .none], sl⟩ : Obj)) :: post)) (h2 : ∀ p ∈ post, p.1 ≠ e)
    (h : ∀ D h', Fr h₀ L h' m → News h₀ L h' ((D, ({ cls := .type "tuple", data := .seq #[v] } : Obj)) :: (e, (⟨.ref C, none, .fields #[.ref D, .none, .none, .none, .bool false, .none], sl⟩ : Obj)) :: post) →
      (∀ p ∈ (e, (⟨.ref C, none, .fields #[.ref t0, .none, .none, .none, .bool false, .none], sl⟩ : Obj)) :: post, p.1 < D) → Q .none { s with heap := h' }) :
    wpAny (model prog w) A (call (.builtin initId) [.ref e, v]) Q E s :=
  exc_initN (pre := []) (post := post) FB hC F Nw (fun _ hp => nomatch hp) h2 h
end
end Mine
end
section
theorem Mine.none_Fn : True := by
  k_with_none
  w_top off
  trivial
set_option maxRecDepth 100000
open PySem PySem.W PySem.Calls PyProof.Rows
namespace Mine
/-- the surroundings of a call, spelt out -/
abbrev A0 (dp un : Nat) (gd : Option (List Code)) (outer : List Env) : Around := { handled := none, depth := dp, frames := some outer, guards := gd, units := un }

/-- a def's contract: over a ground g of the heap, the objects us beside it -/
abbrev FnG (w : World) (lv : Nat) (f : Addr) (vs : List Value) (us : List (Addr × Obj)) (G : Heap → List Env → Heap → Shared → (Result → Shared → Prop) → Prop) : Prop :=
  ∀ (p : Program) (loose : List Str) (mean : ExcName → Option Value) (mg mb : Str → Option Value) (dp un : Nat) (gd : Option (List Code)) (outer : List Env) (base g : Heap) (s : Shared) (R : Result → Shared → Prop),
    Below (A0 dp un gd outer) base outer g → (Mine.hd.heap_39 w.params).In g → Top p loose mean mg mb g → g.StaysIn s.heap → g.objs.size ≤ s.heap.objs.size → (∀ u ∈ us, s.heap.get? u.1 = some u.2 ∧ g.get? u.1 = none) →
    dp + 2 * lv < recursionLimit → un + 10 * lv + 100 < cLine → G base outer g s R → codeAny (model Challenge.rw_qz0048_01.row.prog w) (A0 dp un gd outer) (.call (.ref f) ⟨vs, []⟩) R s

def New (g h : Heap) (ns : List (Addr × Obj)) : Prop := ∀ p ∈ ns, h.get? p.1 = some p.2 ∧ g.get? p.1 = none
theorem New.nil {g h : Heap} : New g h [] := fun _ hp => nomatch hp
theorem new_of {g h : Heap} {L : Addr} {news ns : List (Addr × Obj)} (N : News g L h news) (hs : ∀ p ∈ ns, p ∈ news) : New g h ns := fun p hp => ⟨(N p (hs p hp)).1, (N p (hs p hp)).2.2⟩

/-- a def that leaves all as it stood, its answer and what it made as P says -/
abbrev Pure (w : World) (lv : Nat) (f : Addr) (vs : List Value) (P : Value → List (Addr × Obj) → Prop) : Prop :=
  FnG w lv f vs [] (fun _ _ g s R => ∀ v ns h' tk', g.StaysIn h' → New g h' ns → P v ns → R (.ok (.ret v)) { s with heap := h', toks := tk' })

section
variable {prog : Program} {w : World} {s : Shared} {base g : Heap} {outer : List Env} {K : Frag} {us : List (Addr × Obj)} {dp un : Nat} {gd : Option (List Code)}
  {p : Program} {loose : List Str} {mean : ExcName → Option Value} {mg mb : Str → Option Value}
  {R : Result → Shared → Prop} {name qual : Str} {params : Arguments} {body : List Stmt} {scope : Scope} {dV kV doc pm cdv ct oc : Value} {an od : Option Addr} {osl : Array (Option Value)} {f : Addr} {args : Args} {binds : List (Str × Value)}

theorem enterG (X : K.In g) (T : Top p loose mean mg mb g) (hg : g.StaysIn s.heap) (hz : g.objs.size ≤ s.heap.objs.size) (hu : ∀ u ∈ us, s.heap.get? u.1 = some u.2 ∧ g.get? u.1 = none)
    (ho : K.lookup f = some ⟨oc, od, .func (fnOf name qual params body scope dV kV doc pm an cdv ct), osl⟩) (hcd : codeIn K cdv qual = true) (hroom : dp < recursionLimit)
    (hbind : BindsTo s (fnOf name qual params body scope dV kV doc pm an cdv ct) args binds) (hloc : ∀ y ∈ binds, scope.names.lookup y.1 = some .local)
    (h : ∀ L' h₁, Fr g L' h₁ (fun y => binds.reverse.lookup y) → News g L' h₁ us → (∀ p ∈ us, p.1 < L') →
      wpAny (model prog w) ((A0 dp un gd outer).deeper (envOf qual scope L' f cdv)) (execs body (envOf qual scope L' f cdv))
        (fun fl s' => R (.ok (.ret (match fl with | .ret v => v | _ => .none))) s')
        (fun e s' => wpAny (model prog w) ((A0 dp un gd outer).deeper (envOf qual scope L' f cdv)) (leaving (envOf qual scope L' f cdv) e) (fun _ s'' => R (.error e) s'') (fun e' s'' => R (.error e') s'') s')
        { s with heap := h₁, toks := s.toks + binds.length })
    (hco : scope.isCoroutine = false) (hgen : scope.isGenerator = false) (hk : scope.kind = .function)
    (hcell : ∀ x ∈ scope.names, x.2 ≠ .cell) : codeAny (model prog w) (A0 dp un gd outer) (.call (.ref f) args) R s := by
  refine codeAny_call_def (fd := fnOf name qual params body scope dV kV doc pm an cdv ct) (body := body) (binds := binds) hroom (hg _ _ (X _ _ ho)) rfl (T.nolimit.keeps hg) (codeRec_of (X.keeps hg) hcd) rfl hbind hcell hloc (fun h₁ hns hk₁ => ?_) hco hgen hk
  exact h s.heap.objs.size h₁ ⟨hns, fun b o e => hk₁ b o (hg b o e), hz⟩ (fun q hq => ⟨hk₁ _ _ (hu q hq).1, Nat.ne_of_lt (Heap.lt_size (hu q hq).1), (hu q hq).2⟩) fun q hq => Heap.lt_size (hu q hq).1

theorem enterGC (X : K.In g) (T : Top p loose mean mg mb g) (hg : g.StaysIn s.heap) (hz : g.objs.size ≤ s.heap.objs.size) (hu : ∀ u ∈ us, s.heap.get? u.1 = some u.2 ∧ g.get? u.1 = none)
    (ho : K.lookup f = some ⟨oc, od, .func (fnOf name qual params body scope dV kV doc pm an cdv ct), osl⟩) (hcd : codeIn K cdv qual = true) (hroom : dp < recursionLimit)
    (hbind : BindsTo s (fnOf name qual params body scope dV kV doc pm an cdv ct) args binds) (hkind : (binds.all fun y => scope.names.lookup y.1 == some .local || scope.names.lookup y.1 == some .cell) = true)
    (hnd : ((cellsFrom 0 scope.names []).map (·.1)).Nodup)
    (h : ∀ L' h₁ tk cells, Fr g L' h₁ (bindL (envOfC qual scope L' f cdv).kindOf binds fun _ => none) → News g L' h₁ (cells ++ us) →
      CellsAre (bindC (envOfC qual scope L' f cdv).kindOf binds fun _ => none) (cellsFrom (L' + 1) scope.names []) cells → (∀ p ∈ us, p.1 < L') →
      wpAny (model prog w) ((A0 dp un gd outer).deeper (envOfC qual scope L' f cdv)) (execs body (envOfC qual scope L' f cdv))
        (fun fl s' => R (.ok (.ret (match fl with | .ret v => v | _ => .none))) s')
        (fun e s' => wpAny (model prog w) ((A0 dp un gd outer).deeper (envOfC qual scope L' f cdv)) (leaving (envOfC qual scope L' f cdv) e) (fun _ s'' => R (.error e) s'') (fun e' s'' => R (.error e') s'') s')
        { s with heap := h₁, toks := tk })
    (hco : scope.isCoroutine = false) (hgen : scope.isGenerator = false) (hk : scope.kind = .function) : codeAny (model prog w) (A0 dp un gd outer) (.call (.ref f) args) R s := by
  refine codeAny_call_function hroom (hg _ _ (X _ _ ho)) rfl hco hgen rfl (codeRec_of (X.keeps hg) hcd) (hbind _ _ _ _ ?_)
  refine wpAny_newFunctionEnv_cells hk (kindsX hkind _) fun env' he s' x => ?_
  subst he
  refine ⟨(T.nolimit.keeps hg).keeps x.toInCall.keep, codeAny_func ?_⟩
  obtain ⟨h₁, tk, rfl, _⟩ := x.done
  have hk₁ := x.toInCall.keep
  obtain ⟨cells, NC, Y⟩ := Cl.news (h₀ := s.heap) (Nat.le_refl _) fun n c hm => ⟨x.cell n c (lookup_of_mem_nodup (cellsFrom_names scope.names 0 (s.heap.objs.size + 1) [] [] rfl ▸ hnd) hm), x.above n c hm⟩
  refine h s.heap.objs.size h₁ tk cells ⟨x.toInCall.ns, fun b o e => hk₁ b o (hg b o e), hz⟩ (fun q hq => ?_) Y fun q hq => Heap.lt_size (hu q hq).1
  rcases List.mem_append.mp hq with hq | hq
  · refine ⟨(NC q hq).1, (NC q hq).2.1, ?_⟩
    cases z : g.get? q.1 with
    | none => rfl
    | some o => have := hg _ _ z; rw [(NC q hq).2.2] at this; cases this
  · exact ⟨hk₁ _ _ (hu q hq).1, Nat.ne_of_lt (Heap.lt_size (hu q hq).1), (hu q hq).2⟩
end

section
variable {w : World} {s : Shared} {A A₀ : Around} {base h₀ : Heap} {outer : List Env} {L : Addr} {m : Str → Option Value} {env : Env} {news us : List (Addr × Obj)} {Q E : Value → Shared → Prop}
  {p : Program} {loose : List Str} {mean : ExcName → Option Value} {mg mb : Str → Option Value} {dp un : Nat} {gd : Option (List Code)} {f : Addr} {vs : List Value} {lv : Nat}

/-- the ground of a call from a frame: all that stands -/
theorem groundS (B : Below A₀ base outer h₀) (F : Fr h₀ L s.heap m) (hf : env.frame = some L) (hke : env.scope.kind = .function) : Below (A0 dp un gd (env :: outer)) base (env :: outer) s.heap := by
  have B₁ := pushX B F hf hke
  exact ⟨rfl, fun b o e => F.keep b o (B.stays b o e), B₁.frames⟩

theorem News.after {h h' : Heap} (N : News h₀ L h news) (hk : h.StaysIn h') : News h₀ L h' news := fun q hq => ⟨hk _ _ (N q hq).1, (N q hq).2⟩
theorem News.new {h h' : Heap} {ns : List (Addr × Obj)} (F : Fr h₀ L h m) (N : News h₀ L h news) (hk : h.StaysIn h') (Nn : New h h' ns) : News h₀ L h' (ns ++ news) := fun q hq => by
  rcases List.mem_append.mp hq with hq | hq
  · refine ⟨(Nn q hq).1, fun z => ?_, ?_⟩
    · obtain ⟨oL, _, _, hL, _⟩ := F.ns
      have := (Nn q hq).2
      rw [z, hL] at this
      cases this
    · cases z : h₀.get? q.1 with
      | none => rfl
      | some o => have := F.keep _ _ z; rw [(Nn q hq).2] at this; cases this
  · exact News.after N hk q hq
theorem New.apart {h h' : Heap} {ns : List (Addr × Obj)} (N : News h₀ L h news) (Nn : New h h' ns) : ∀ q ∈ ns, ∀ p ∈ news, p.1 ≠ q.1 := fun q hq p hp e => by
  have := (Nn q hq).2
  rw [← e, (N p hp).1] at this
  cases this

theorem callPure {P : Value → List (Addr × Obj) → Prop} (H : Pure w lv f vs P) (B : Below A₀ base outer h₀) (F : Fr h₀ L s.heap m) (X : (Mine.hd.heap_39 w.params).In h₀) (N : News h₀ L s.heap news) (T : Top p loose mean mg mb h₀)
    (hA : A = A0 dp un gd (env :: outer)) (hf : env.frame = some L) (hke : env.scope.kind = .function) (hd : dp + 2 * lv < recursionLimit) (hun : un + 10 * lv + 100 < cLine)
    (h : ∀ v ns h' tk', P v ns → Fr h₀ L h' m → News h₀ L h' (ns ++ news) → (∀ q ∈ ns, ∀ p ∈ news, p.1 ≠ q.1) → Q v { s with heap := h', toks := tk' }) :
    wpAny (model Challenge.rw_qz0048_01.row.prog w) A (call (.ref f) vs) Q E s := by
  subst hA
  refine wpAny_call (H p loose mean mg mb dp un gd (env :: outer) base s.heap s _ (groundS B F hf hke) (X.keeps F.keep) (T.keeps F.keep) (fun _ _ e => e) (Nat.le_refl _) (fun _ hq => nomatch hq) hd hun ?_)
  intro v ns h' tk' hk Nn hP
  exact h v ns h' tk' hP (F.after hk) (News.new F N hk Nn) (New.apart N Nn)
end
end Mine
end
section
theorem Mine.none_Base : True := by
  k_with_none
  w_top off
  trivial
set_option maxRecDepth 100000
open PySem PySem.W PySem.Calls PyProof.Rows PySem.SeqAt
namespace Mine

theorem readsAll_of_strs {h : Heap} {vs : List Value} {ns : List Str} (H : StrsAre vs ns) : ReadsAll h vs (ns.map PyData.str) [] := by
  induction H with
  | nil => exact .nil
  | cons k t r ih =>
    have := ReadsAll.cons (Reads.str (h := h) k t) ih
    simpa using this
theorem reads_of_strs {h : Heap} {a : Addr} {vs : List Value} {ns : List Str} (hl : h.IsList a vs.toArray) (hi : StrsAre vs ns) : Reads h (.ref a) (.list (ns.map PyData.str)) [a] := by
  obtain ⟨o, ho, hc, n, hd⟩ := hl
  exact Reads.list ho hc hd (by simpa using readsAll_of_strs hi)
theorem canLayAll0_strs : ∀ ns : List Str, ns.all PyData.strOk = true → PyData.canLayAll0 (ns.map PyData.str) = true
  | [], _ => by simp [PyData.canLayAll0]
  | n :: r, h => by
    simp only [List.all_cons, Bool.and_eq_true] at h
    simp [PyData.canLayAll0, PyData.canLay0, canLayAll0_strs r h.2, h.1]
theorem depthAll_strs : ∀ ns : List Str, PyData.depthAll (ns.map PyData.str) ≤ 1
  | [] => by simp [PyData.depthAll]
  | n :: r => by
    have := depthAll_strs r
    simp only [List.map_cons, PyData.depthAll, PyData.depth]
    lia
theorem shaped_strs (ns : List Str) (hok : ns.all PyData.strOk = true) : shaped (.list (ns.map PyData.str)) = true := by
  have h1 := depthAll_strs ns
  have h2 : PyData.depth (.list (ns.map PyData.str)) ≤ 64 := by simp only [PyData.depth]; lia
  show (PyData.canLay0 (.list (ns.map PyData.str)) && decide (PyData.depth (.list (ns.map PyData.str)) ≤ 64)) = true
  rw [Bool.and_eq_true]
  exact ⟨by simp only [PyData.canLay0]; exact canLayAll0_strs ns hok, decide_eq_true h2⟩
theorem eqvAll_strs : ∀ ns ms : List Str, PyData.eqvAll (ns.map PyData.str) (ms.map PyData.str) = decide (ns = ms)
  | [], [] => by simp [PyData.eqvAll]
  | [], _ :: _ => by simp [PyData.eqvAll]
  | _ :: _, [] => by simp [PyData.eqvAll]
  | n :: r, k :: q => by
    simp only [List.map_cons, PyData.eqvAll, PyData.eqv, eqvAll_strs r q]
    by_cases h : n = k <;> simp [h]

section
variable {prog : Program} {w : World} {A : Around} {E : Value → Shared → Prop} {s : Shared} {h₀ : Heap} {L : Addr} {m : Str → Option Value} {news : List (Addr × Obj)}
theorem eq_strsK {a b : Addr} {vs us : List Value} {ns ms : List Str} {n n' : Nat} {Q : Value → Shared → Prop} (N : News h₀ L s.heap news) (hl : (a, (⟨.type "list", none, .seq vs.toArray n, #[]⟩ : Obj)) ∈ news) (hi : StrsAre vs ns)
    (hl' : (b, (⟨.type "list", none, .seq us.toArray n', #[]⟩ : Obj)) ∈ news) (hi' : StrsAre us ms) (hu : A.units + 64 < cLine) (o1 : ns.all PyData.strOk = true) (o2 : ms.all PyData.strOk = true)
    (h : Q (.bool (decide (ns = ms))) s) : wpAny (model prog w) A (compareOp .Eq (.ref a) (.ref b)) Q E s :=
  eq_dataH (reads_of_strs ⟨_, (N _ hl).1, rfl, _, rfl⟩ hi) (reads_of_strs ⟨_, (N _ hl').1, rfl, _, rfl⟩ hi') (shaped_strs ns o1) (shaped_strs ms o2) hu (by simp only [PyData.eqv]; rw [eqvAll_strs]; exact h)

theorem isStr_at (k : Str) {vs : List Value} {ys : List Str} (hi : StrsAre vs ys) (i : Nat) (h1 : i < vs.length) (h2 : i < ys.length) : isStrOf k vs[i] = (ys[i] == k) := by
  obtain ⟨t, ht⟩ := hi.at (List.getElem?_eq_getElem h2)
  rw [List.getElem?_eq_getElem h1] at ht
  rw [Option.some.inj ht]
  rfl
theorem index_list_strs {l : Addr} {vs : List Value} {ns : List Str} {k : Str} {t : Tok} {n : Nat} {Q : Value → Shared → Prop} (N : News h₀ L s.heap news) (hl : (l, (⟨.type "list", none, .seq vs.toArray n, #[]⟩ : Obj)) ∈ news) (hi : StrsAre vs ns)
    (hlen : ns.length ≤ 1000) (hk : ns.any (· == k) = true) (h : ns.idxOf k < ns.length → Q (.int ((ns.idxOf k : Nat) : Int) s.toks) { s with toks := s.toks + 1 }) :
    wpAny (model prog w) A (call (.builtin "list.index") [.ref l, .str k t]) Q E s := by
  have hk' : k ∈ ns := by
    obtain ⟨y, hy, e⟩ := List.any_eq_true.mp hk
    rw [← (beq_iff_eq.mp e)]
    exact hy
  have ho := (N _ hl).1
  have hvl := hi.len_eq
  have hj : ns.idxOf k < ns.length := List.idxOf_lt_length_iff.mpr hk'
  refine call_meets PySem.F.slot_list_index ⟨_, ho, rfl⟩ PySem.F.entry_list_index (PySem.F.args_list_index_2 _ _)
    (list_indexAt l vs.toArray n none #[] (.str k t) (isStrOf k) (ns.idxOf k) (by simpa [hvl] using hj) (by lia) ?_ ?_) ⟨ho, fun y hy => (eq_isStrOf k t hi y (by simpa using hy)).at _ _, h hj⟩
  · show isStrOf k vs[ns.idxOf k] = true
    rw [isStr_at k hi _ (by lia) hj]
    simp
  · intro j hjs hlt
    show isStrOf k vs[j] = false
    have hjs' : j < vs.length := by simpa using hjs
    rw [isStr_at k hi j hjs' (by lia)]
    cases q : (ns[j]'(by lia) == k) with
    | false => rfl
    | true => exact absurd (beq_iff_eq.mp q) (by
        have := List.not_of_lt_findIdx (p := (· == k)) (xs := ns) (i := j) hlt
        simpa using this)
theorem in_strsK {l : Addr} {vs : List Value} {ys : List Str} {k : Str} {t : Tok} {n : Nat} {Q : Value → Shared → Prop} (N : News h₀ L s.heap news) (hl : (l, (⟨.type "list", none, .seq vs.toArray n, #[]⟩ : Obj)) ∈ news) (hi : StrsAre vs ys)
    (h : Q (.bool (ys.any (· == k))) s) : wpAny (model prog w) A (compareOp .In (.str k t) (.ref l)) Q E s :=
  in_list_strs ⟨_, (N _ hl).1, rfl, _, rfl⟩ hi h
theorem item_strsK {value slice : PySem.Expr} {a : Addr} {l : List Value} {ys : List Str} {k : Int} {u : Tok} {n : Nat} {Q : Value → Shared → Prop} (N : News h₀ L s.heap news) (hl : (a, (⟨.type "list", none, .seq l.toArray n, #[]⟩ : Obj)) ∈ news) (hi : StrsAre l ys)
    (h0 : 0 ≤ k) (hk : k < ys.length) (hfit : k < 2 ^ 63) (h : ∀ t', Q (.str (ys.getD k.toNat Str.empty) t') s)
    (hs : subscripted slice false (.ref a) (.int k u) = operate [.ref a, .int k u] (getItem (.ref a) (.int k u)) := by with_unfolding_all rfl) (hg : ∀ r, letTemporaryGo value (.ref a) r = pure () := by intro _; with_unfolding_all rfl) :
    wpAny (model prog w) A (subscriptTail value slice (.ref a) (.int k u)) Q E s :=
  item_strsA ⟨_, (N _ hl).1, rfl, _, rfl⟩ hi h0 hk hfit h hs hg
end

-- the text's own tables
def names64 : List Str := [⟨#[114, 97, 120]⟩, ⟨#[114, 99, 120]⟩, ⟨#[114, 100, 120]⟩, ⟨#[114, 98, 120]⟩, ⟨#[114, 115, 112]⟩, ⟨#[114, 98, 112]⟩, ⟨#[114, 115, 105]⟩, ⟨#[114, 100, 105]⟩]
def names32 : List Str := [⟨#[101, 97, 120]⟩, ⟨#[101, 99, 120]⟩, ⟨#[101, 100, 120]⟩, ⟨#[101, 98, 120]⟩, ⟨#[101, 115, 112]⟩, ⟨#[101, 98, 112]⟩, ⟨#[101, 115, 105]⟩, ⟨#[101, 100, 105]⟩]
def names16 : List Str := [⟨#[97, 120]⟩, ⟨#[99, 120]⟩, ⟨#[100, 120]⟩, ⟨#[98, 120]⟩, ⟨#[115, 112]⟩, ⟨#[98, 112]⟩, ⟨#[115, 105]⟩, ⟨#[100, 105]⟩]
def names8 : List Str := [⟨#[97, 108]⟩, ⟨#[99, 108]⟩, ⟨#[100, 108]⟩, ⟨#[98, 108]⟩, ⟨#[115, 112, 108]⟩, ⟨#[98, 112, 108]⟩, ⟨#[115, 105, 108]⟩, ⟨#[100, 105, 108]⟩]
def highs : List Str := [⟨#[97, 104]⟩, ⟨#[99, 104]⟩, ⟨#[100, 104]⟩, ⟨#[98, 104]⟩]
def lates : List Str := [⟨#[56]⟩, ⟨#[57]⟩, ⟨#[49, 48]⟩, ⟨#[49, 49]⟩, ⟨#[49, 50]⟩, ⟨#[49, 51]⟩, ⟨#[49, 52]⟩, ⟨#[49, 53]⟩]
def xmms : List Str := [⟨#[48]⟩, ⟨#[49]⟩, ⟨#[50]⟩, ⟨#[51]⟩, ⟨#[52]⟩, ⟨#[53]⟩, ⟨#[54]⟩, ⟨#[55]⟩, ⟨#[56]⟩, ⟨#[57]⟩, ⟨#[49, 48]⟩, ⟨#[49, 49]⟩, ⟨#[49, 50]⟩, ⟨#[49, 51]⟩, ⟨#[49, 52]⟩, ⟨#[49, 53]⟩]
def segs : List Str := [⟨#[101, 115]⟩, ⟨#[99, 115]⟩, ⟨#[115, 115]⟩, ⟨#[100, 115]⟩, ⟨#[102, 115]⟩, ⟨#[103, 115]⟩]
def earlyL (n : Int) : List Str := if n = 64 then names64 else if n = 32 then names32 else if n = 16 then names16 else if n = 8 then names8 else []
def lateEnd (n : Int) : Str := if n = 32 then Str.ofString "d" else if n = 16 then Str.ofString "w" else if n = 8 then Str.ofString "b" else Str.ofString ""

/-- a made list of texts is the answer -/
def ListOut (ys : List Str) (v : Value) (ns : List (Addr × Obj)) : Prop := ∃ D vs n, v = .ref D ∧ ns = [(D, (⟨.type "list", none, .seq vs.toArray n, #[]⟩ : Obj))] ∧ StrsAre vs ys
def StrOut (x : Str) (v : Value) (ns : List (Addr × Obj)) : Prop := ∃ t, v = .str x t ∧ ns = []

def AllNe (d : Nat) : List (Addr × Obj) → Prop
  | [] => True
  | p :: r => @Ne Nat p.1 d ∧ AllNe d r
theorem allNe_of {d : Addr} : ∀ {l : List (Addr × Obj)}, (∀ p ∈ l, p.1 ≠ d) → AllNe d l
  | [], _ => trivial
  | p :: _, h => ⟨h p (.head _), allNe_of fun q hq => h q (.tail _ hq)⟩

theorem early_ok1 (n : Int) : (earlyL n).all PyData.strOk = true := by
  unfold earlyL
  repeat' split
  all_goals decide +kernel
theorem early_len (n : Int) : earlyL n = [] ∨ (earlyL n).length = 8 := by
  unfold earlyL
  repeat' split
  all_goals first | (right; rfl) | (left; rfl)
theorem early_lenOk (n : Int) : (earlyL n).length ≤ 1000 := by
  rcases early_len n with h | h <;> simp [h]

/-- what a register's own dict holds -/
def regDict (P : Params) (nm kd : Str) (k n : Int) (t1 t2 t3 t4 t5 t6 t7 t8 : Tok) : Obj :=
  dictOf [⟨PyData.keyHash P (Str.ofString "name"), .str (Str.ofString "name") t1, .str nm t2⟩, ⟨PyData.keyHash P (Str.ofString "kind"), .str (Str.ofString "kind") t3, .str kd t4⟩,
    ⟨PyData.keyHash P (Str.ofString "number"), .str (Str.ofString "number") t5, .int k t6⟩, ⟨PyData.keyHash P (Str.ofString "size"), .str (Str.ofString "size") t7, .int n t8⟩] 4
/-- a register is the answer -/
def RegOut (P : Params) (nm kd : Str) (k n : Int) (v : Value) (ns : List (Addr × Obj)) : Prop :=
  ∃ x d t1 t2 t3 t4 t5 t6 t7 t8, v = .ref x ∧ ns = [(x, instObj 142 d), (d, regDict P nm kd k n t1 t2 t3 t4 t5 t6 t7 t8)] ∧ @Ne Nat x d

/-- a def that may raise an own exception -/
abbrev May (w : World) (lv : Nat) (f : Addr) (vs : List Value) (ok : Prop) (P : Value → List (Addr × Obj) → Prop) (C : Addr) : Prop :=
  FnG w lv f vs [] (fun base outer g s R => (ok → ∀ v ns h' tk', g.StaysIn h' → New g h' ns → P v ns → R (.ok (.ret v)) { s with heap := h', toks := tk' }) ∧
    (¬ ok → ∀ e t ws h' tk', RaisedS base g outer e (.ref C) t ws [] h' → RaisedK base outer e (.ref C) t ws [] h' → g.UpToSlots h' → R (.error (.ref e)) { s with heap := h', toks := tk' }))
def regName (k n : Int) : Str := if k < 8 then (earlyL n).getD k.toNat Str.empty else Str.ofString "r" ++ Str.ofString (toString k) ++ lateEnd n

theorem early_lt {n k : Int} (h : decide (earlyL n = []) = false) (hk : k < 8) : k < (earlyL n).length := by
  rcases early_len n with e | e
  · rw [e] at h; simp at h
  · lia
theorem raisedS_nil {base G : Heap} {l : List Env} {e : Addr} {cls : Value} {t : Addr} {vs : List Value} {news : List (Addr × Obj)} {h : Heap} (R : RaisedS base G l e cls t vs news h) : RaisedS base G l e cls t vs [] h := by
  unfold RaisedS at R ⊢
  obtain ⟨⟨B, hB, hG, hn, hf, hz⟩, ht⟩ := R
  refine ⟨⟨B, hB, hG, ?_, hf, hz⟩, ht⟩
  intro q hq
  cases hq
theorem raisedK_nil {base : Heap} {l : List Env} {e : Addr} {cls : Value} {t : Addr} {vs : List Value} {news : List (Addr × Obj)} {h : Heap} (R : RaisedK base l e cls t vs news h) : RaisedK base l e cls t vs [] h := by
  unfold RaisedK at R ⊢
  obtain ⟨⟨B, hB, hn, hf, hz⟩, ht⟩ := R
  refine ⟨⟨B, hB, ?_, hf, hz⟩, ht⟩
  intro q hq
  cases hq
theorem new1 {g h : Heap} {L : Addr} {a : Addr × Obj} {r : List (Addr × Obj)} (N : News g L h (a :: r)) : New g h [a] := new_of N fun p hp => by
  rw [List.mem_singleton.mp hp]; exact .head _
theorem new2 {g h : Heap} {L : Addr} {a b : Addr × Obj} {r : List (Addr × Obj)} (N : News g L h (a :: b :: r)) : New g h [a, b] := new_of N fun p hp => by
  simp only [List.mem_cons, List.not_mem_nil, or_false] at hp
  rcases hp with rfl | rfl
  · exact .head _
  · exact .tail _ (.head _)

theorem lateEnd_len (n : Int) : (lateEnd n).length ≤ 1 := by
  unfold lateEnd
  repeat' split
  all_goals decide
def EndOut (n : Int) (v : Value) (ns : List (Addr × Obj)) : Prop := ∃ t, v = .str (lateEnd n) t ∧ ns = [] ∧ (lateEnd n).length ≤ 1

theorem regOut_of {P : Params} {x d : Addr} {nm nm' kd : Str} {k n : Int} {t1 t2 t3 t4 t5 t6 t7 t8 : Tok} (e : nm = nm') (hx : @Ne Nat x d) :
    RegOut P nm' kd k n (.ref x) [(x, instObj 142 d), (d, regDict P nm kd k n t1 t2 t3 t4 t5 t6 t7 t8)] := by
  subst e
  exact ⟨x, d, t1, t2, t3, t4, t5, t6, t7, t8, rfl, rfl, hx⟩
section
variable {w : World} {s : Shared} {A A₀ : Around} {base h₀ : Heap} {outer : List Env} {L : Addr} {m : Str → Option Value} {env : Env} {news us : List (Addr × Obj)} {Q E : Value → Shared → Prop}
  {p : Program} {loose : List Str} {mean : ExcName → Option Value} {mg mb : Str → Option Value} {dp un : Nat} {gd : Option (List Code)} {f : Addr} {vs : List Value} {lv : Nat}
/-- calls by the kind of the answer: the facts come one by one, no pattern is opened at the call -/
theorem callList {ys : List Str} (H : Pure w lv f vs (ListOut ys)) (B : Below A₀ base outer h₀) (F : Fr h₀ L s.heap m) (X : (Mine.hd.heap_39 w.params).In h₀) (N : News h₀ L s.heap news) (T : Top p loose mean mg mb h₀)
    (hA : A = A0 dp un gd (env :: outer)) (hf : env.frame = some L) (hke : env.scope.kind = .function) (hd : dp + 2 * lv < recursionLimit) (hun : un + 10 * lv + 100 < cLine)
    (h : ∀ (D : Addr) (ws : List Value) (n : Nat) (h' : Heap) (tk' : Nat), StrsAre ws ys → Fr h₀ L h' m → News h₀ L h' ((D, (⟨.type "list", none, .seq ws.toArray n, #[]⟩ : Obj)) :: news) → AllNe D news → Q (.ref D) { s with heap := h', toks := tk' }) :
    wpAny (model Challenge.rw_qz0048_01.row.prog w) A (call (.ref f) vs) Q E s := by
  refine callPure H B F X N T hA hf hke hd hun fun v ns h' tk' P F' N' l1 => ?_
  obtain ⟨D, ws, n, rfl, rfl, S⟩ := P
  exact h D ws n h' tk' S F' N' (allNe_of (l1 _ (.head _)))
theorem callEnd {n : Int} (H : Pure w lv f vs (EndOut n)) (B : Below A₀ base outer h₀) (F : Fr h₀ L s.heap m) (X : (Mine.hd.heap_39 w.params).In h₀) (N : News h₀ L s.heap news) (T : Top p loose mean mg mb h₀)
    (hA : A = A0 dp un gd (env :: outer)) (hf : env.frame = some L) (hke : env.scope.kind = .function) (hd : dp + 2 * lv < recursionLimit) (hun : un + 10 * lv + 100 < cLine)
    (h : ∀ (t : Tok) (h' : Heap) (tk' : Nat), (lateEnd n).length ≤ 1 → Fr h₀ L h' m → News h₀ L h' news → Q (.str (lateEnd n) t) { s with heap := h', toks := tk' }) :
    wpAny (model Challenge.rw_qz0048_01.row.prog w) A (call (.ref f) vs) Q E s := by
  refine callPure H B F X N T hA hf hke hd hun fun v ns h' tk' P F' N' _ => ?_
  obtain ⟨t, rfl, rfl, hl⟩ := P
  exact h t h' tk' hl F' N'
theorem callReg {nm kd : Str} {k n : Int} (H : Pure w lv f vs (RegOut w.params nm kd k n)) (B : Below A₀ base outer h₀) (F : Fr h₀ L s.heap m) (X : (Mine.hd.heap_39 w.params).In h₀) (N : News h₀ L s.heap news) (T : Top p loose mean mg mb h₀)
    (hA : A = A0 dp un gd (env :: outer)) (hf : env.frame = some L) (hke : env.scope.kind = .function) (hd : dp + 2 * lv < recursionLimit) (hun : un + 10 * lv + 100 < cLine)
    (h : ∀ (x d : Addr) (u1 u2 u3 u4 u5 u6 u7 u8 : Tok) (h' : Heap) (tk' : Nat), @Ne Nat x d → Fr h₀ L h' m → News h₀ L h' ((x, instObj 142 d) :: (d, regDict w.params nm kd k n u1 u2 u3 u4 u5 u6 u7 u8) :: news) → AllNe x news → AllNe d news → Q (.ref x) { s with heap := h', toks := tk' }) :
    wpAny (model Challenge.rw_qz0048_01.row.prog w) A (call (.ref f) vs) Q E s := by
  refine callPure H B F X N T hA hf hke hd hun fun v ns h' tk' P F' N' l1 => ?_
  obtain ⟨x, d, u1, u2, u3, u4, u5, u6, u7, u8, rfl, rfl, hx⟩ := P
  exact h x d u1 u2 u3 u4 u5 u6 u7 u8 h' tk' hx F' N' (allNe_of (l1 _ (.head _))) (allNe_of (l1 _ (.tail _ (.head _))))
end
section
variable {prog : Program} {w : World} {A : Around} {E : Value → Shared → Prop} {s : Shared} {h₀ : Heap} {L : Addr} {m : Str → Option Value} {news : List (Addr × Obj)} {x : Str} {t : Tok} {Q : Value → Shared → Prop}
/-- the words of a written text: one list, its texts told at once -/
theorem splitL {ys : List Str} (hF : Fr h₀ L s.heap m) (hN : News h₀ L s.heap news) (hy : Txt.words x = ys) (hsz : x.length + 2 ≤ sizeLine)
    (h : ∀ (D : Addr) (ws : List Value) (h' : Heap) (k : Nat), StrsAre ws ys → Fr h₀ L h' m → News h₀ L h' ((D, (⟨.type "list", none, .seq ws.toArray 0, #[]⟩ : Obj)) :: news) → AllNe D news → Q (.ref D) { s with heap := h', toks := k }) :
    wpAny (model prog w) A (call (.builtin "str.split") [.str x t]) Q E s := by
  refine KSpl.split0 hF hN (fun D l h' k e a F N l1 => ?_) hsz
  rw [e, hy] at a
  exact h D _ h' k a F N (allNe_of fun p hp => Nat.ne_of_lt (l1 p hp))
theorem wds64 : Txt.words (Str.ofString "rax rcx rdx rbx rsp rbp rsi rdi") = names64 := by decide +kernel
theorem wds32 : Txt.words (Str.ofString "eax ecx edx ebx esp ebp esi edi") = names32 := by decide +kernel
theorem wds16 : Txt.words (Str.ofString "ax cx dx bx sp bp si di") = names16 := by decide +kernel
theorem wds8 : Txt.words (Str.ofString "al cl dl bl spl bpl sil dil") = names8 := by decide +kernel
theorem wdsH : Txt.words (Str.ofString "ah ch dh bh") = highs := by decide +kernel
theorem wdsL : Txt.words (Str.ofString "8 9 10 11 12 13 14 15") = lates := by decide +kernel
theorem wdsX : Txt.words (Str.ofString "0 1 2 3 4 5 6 7 8 9 10 11 12 13 14 15") = xmms := by decide +kernel
theorem wdsS : Txt.words (Str.ofString "es cs ss ds fs gs") = segs := by decide +kernel
end
theorem highs_len : highs.length = 4 := rfl
theorem segs_len : segs.length = 6 := rfl
/-- room for a call, without a search -/
theorem rm1 {a i k L : Nat} (h : a + k < L) (q : Nat.ble i k = true) : a + i < L := by have := Nat.le_of_ble_eq_true q; lia
theorem rm2 {a i c k L : Nat} (h : a + k < L) (q : Nat.ble (i + c) k = true) : a + i + c < L := by have := Nat.le_of_ble_eq_true q; lia
theorem rm3 {a i j c k L : Nat} (h : a + k < L) (q : Nat.ble (i + j + c) k = true) : a + i + j + c < L := by have := Nat.le_of_ble_eq_true q; lia
theorem un0 {a i k f L : Nat} (h : a + k + f < L) (q : Nat.ble i (k + f) = true) : a + i < L := by have := Nat.le_of_ble_eq_true q; lia
theorem un1 {a i c k f L : Nat} (h : a + k + f < L) (q : Nat.ble (i + c) (k + f) = true) : a + i + c < L := by have := Nat.le_of_ble_eq_true q; lia
theorem un2 {a i c e k f L : Nat} (h : a + k + f < L) (q : Nat.ble (i + c + e) (k + f) = true) : a + i + c + e < L := by have := Nat.le_of_ble_eq_true q; lia
theorem un3 {a i j c e k f L : Nat} (h : a + k + f < L) (q : Nat.ble (i + j + c + e) (k + f) = true) : a + i + j + c + e < L := by have := Nat.le_of_ble_eq_true q; lia
end Mine
end
section
theorem Mine.none_Srt7 : True := by
  k_with_none
  w_top off
  trivial
set_option maxRecDepth 100000
open PySem PySem.W PySem.Calls PyProof.Rows
namespace Mine
theorem allG_pairs {vs : List Value} {ss : List Str} (hS : StrsAre vs ss) : AllG (fun p => IsKey p ∧ p.2 ∈ vs) (pairsOf vs) := fun i p hp => by
  have hm : p ∈ (pairsOf vs).toList := Array.mem_toList_iff.mpr (Array.mem_of_getElem? hp)
  rw [pairsOf_toList] at hm
  obtain ⟨e, hv⟩ := mem_zip_self hm
  obtain ⟨x, t, ex⟩ := hS.all _ hv
  exact ⟨⟨x, t, ex⟩, e ▸ hv⟩
/-- what a sort of 87 texts leaves: 87 of them -/
def SortOut (vs : List Value) (out : Array Value) : Prop := out.size = 87 ∧ ∀ v ∈ out.toList, v ∈ vs
section
variable {prog : Program} {w : World} {A : Around} {E : Value → Shared → Prop} {s : Shared}
theorem sort_tree87 {a : Addr} {vs : List Value} {ss : List Str} {n : Nat} {P : Fin → Shared → Prop} (ho : s.heap.get? a = some (seqObj "list" vs.toArray n)) (hS : StrsAre vs ss) (h87 : vs.length = 87)
    (h : ∀ out, SortOut vs out → P (.done (.ret .none)) { s with heap := sortedHeap s.heap a vs out }) : wpAny (model prog w) A (Builtin.«list.sort» ⟨[.ref a], []⟩) P E s := by
  rw [list_sort_plain]
  have ha : a < s.heap.objs.size := Heap.lt_size ho
  have hz : vs.toArray.size = 87 := by simpa using h87
  have fits : vs.toArray.size ≤ sizeLine := by rw [hz, sizeLine_eq]; lia
  refine wpAny_bind (listItems_at ho rfl ?_)
  refine wpAny_bind (listUpdate_at ho rfl ?_ fits)
  obtain ⟨e1, ho1⟩ : ∃ e1, (s.heap.update a (Obj.mapSeq fun _ => #[])).get? a = some (seqObj "list" #[] e1) := ⟨_, get?_update_seq ho (fun _ => #[])⟩
  refine wpAny_bind (seqEpoch_at ho1 rfl ?_)
  refine wpAny_bind (wpAny_newTuple ?_)
  refine wpAny_bind (wpAny_newList ?_)
  refine wpAny_holding ?_
  have ho6 : (((s.heap.update a (Obj.mapSeq fun _ => #[])).push (seqObj "tuple" vs.toArray 0)).push (seqObj "list" #[] 0)).get? a = some (seqObj "list" #[] e1) := by
    rw [Heap.get?_push_ne _ _ _ (by rw [size_push', Heap.size_update]; exact Nat.ne_of_lt (Nat.lt_succ_of_lt ha)), Heap.get?_push_ne _ _ _ (by rw [Heap.size_update]; exact Nat.ne_of_lt ha)]
    exact ho1
  show wpAny (model prog w) A _ P E { s with heap := ((s.heap.update a (Obj.mapSeq fun _ => #[])).push (seqObj "tuple" vs.toArray 0)).push (seqObj "list" #[] 0) }
  dsimp only
  rw [if_neg (by lia), if_neg (by lia)]
  have hkk : keyKind' vs.toArray = pure oneType' := by
    match vs, hS, h87 with
    | v₁ :: v₂ :: rest, hS, _ => exact keyKind_strs hS
  rw [hkk]
  refine wpAny_bind (wpAny_pure ?_)
  have run := wpS_runsG (prog := prog) (w := w) (A := A) (E := E) (s := { s with heap := ((s.heap.update a (Obj.mapSeq fun _ => #[])).push (seqObj "tuple" vs.toArray 0)).push (seqObj "list" #[] 0) })
    (P := fun p => IsKey p ∧ p.2 ∈ vs) (st := SortSt.mk' oneType' (vs.toArray.zip vs.toArray) #[] 7 none) (Q := fun _ st' => (arrOf st').size = 87 ∧ AllG (fun p => IsKey p ∧ p.2 ∈ vs) (arrOf st') ∧ failedOf st' = none)
    (fun p hp => hp.1) ⟨by show (pairsOf vs).size = 87; rw [pairsOf_size, h87], allG_pairs hS, rfl, rfl, rfl⟩ (fun st' h1 h2 h3 => ⟨h1, h2, h3⟩)
  refine wpAny_bind (wpAny_mono run ?_ fun _ _ e => e)
  rintro ⟨⟨⟩, st'⟩ s' ⟨rfl, hp, hall, hf⟩
  dsimp only
  refine wpAny_bind (seqEpoch_at ho6 rfl ?_)
  refine wpAny_bind (listUpdate_at ho6 rfl ?_ (hsz2 := by refine Nat.le_trans (Nat.le_of_eq ((Array.size_map ..).trans hp)) ?_; rw [sizeLine_eq]; lia))
  rw [hf]
  simp only [bne_self_eq_false, Bool.false_eq_true, if_false]
  refine wpAny_pure (h _ ⟨(Array.size_map ..).trans hp, fun v hv => ?_⟩)
  rw [Array.toList_map] at hv
  obtain ⟨p, hp', rfl⟩ := List.mem_map.mp hv
  obtain ⟨i, hi⟩ := List.getElem?_of_mem hp'
  exact (hall i p (by rw [← Array.getElem?_toList]; exact hi)).2
theorem strs_out {vs : List Value} {ss : List Str} (hS : StrsAre vs ss) : ∀ (l : List Value), (∀ v ∈ l, v ∈ vs) → ∃ ss', StrsAre l ss' ∧ ss'.length = l.length ∧ ∀ y ∈ ss', y ∈ ss
  | [] => fun _ => ⟨[], .nil, rfl, fun _ h => nomatch h⟩
  | v :: r => fun h => by
    obtain ⟨ss', h1, h2, h3⟩ := strs_out hS r fun u hu => h u (.tail _ hu)
    have key : ∀ {vs : List Value} {ss : List Str}, StrsAre vs ss → ∀ v ∈ vs, ∃ y t, v = .str y t ∧ y ∈ ss := by
      intro vs ss hS
      induction hS with
      | nil => intro v hv; cases hv
      | cons k t _ ih =>
        intro v hv
        rcases List.mem_cons.mp hv with rfl | hv
        · exact ⟨k, t, rfl, .head _⟩
        · obtain ⟨y, u, e, hy⟩ := ih v hv
          exact ⟨y, u, e, .tail _ hy⟩
    obtain ⟨y, t, rfl, hy⟩ := key hS v (h v (.head _))
    exact ⟨y :: ss', .cons y t h1, by simp [h2], fun z hz => by
      rcases List.mem_cons.mp hz with rfl | hz
      · exact hy
      · exact h3 z hz⟩
theorem strs_of : ∀ (vs : List Value) (kvs : List (Str × Value)), vs.length = kvs.length → (∀ (j : Nat) (v : Value), vs[j]? = some v → ∃ k x, kvs[j]? = some (k, x) ∧ ∃ t, v = .str k t) → StrsAre vs (kvs.map (·.1))
  | [], [] => fun _ _ => .nil
  | [], _ :: _ => fun hl _ => nomatch hl
  | _ :: _, [] => fun hl _ => nomatch hl
  | v :: r, q :: kvs => fun hl h => by
    obtain ⟨k, x, e, t, rfl⟩ := h 0 v rfl
    have : q = (k, x) := by simpa using e
    subst this
    exact .cons k t (strs_of r kvs (by simpa using hl) fun j u hu => h (j + 1) u (by simpa using hu))
theorem sorted_dict {h₀ : Heap} {L d : Addr} {m : Str → Option Value} {news : List (Addr × Obj)} {o : Obj} {kvs : List (Str × Value)} {Q : Value → Shared → Prop} (hh : A.handled = none) (F : Fr h₀ L s.heap m) (N : News h₀ L s.heap news) (hm : (d, o) ∈ news) (hd : o.IsDictOf (PySem.strKind prog w) kvs) (hsys : (d == sysModules) = false) (hlen : kvs.length = 87)
    (h : ∀ (D : Addr) (vs : List Value) (ss : List Str) (ep : Nat) (h' : Heap) (tk : Nat), Fr h₀ L h' m → News h₀ L h' ((D, (⟨.type "list", none, .seq vs.toArray ep, #[]⟩ : Obj)) :: news) → (∀ q ∈ news, q.1 < D) → StrsAre vs ss → ss.length = 87 → (∀ y ∈ ss, y ∈ kvs.map (·.1)) → Q (.ref D) { s with heap := h', toks := tk }) :
    wpAny (model prog w) A (call (.builtin "sorted") [.ref d]) Q E s := by
  obtain ⟨ep, hat⟩ := (kda_dict N hm hd).dictAt
  refine kdu_sorted (kdl_dict (knd := PySem.strKind prog w) (kvs := kvs) (ep := ep) hsys) hh F N hat (kdl_size (by lia)) fun D h' tk vs F' N' l1 hl hv => ?_
  have hS : StrsAre vs (kvs.map (·.1)) := strs_of vs kvs hl fun j v hj => by
    obtain ⟨k, x, e, hk⟩ := hv j v hj
    obtain ⟨t, rfl⟩ := Value.isStrOf_shape hk
    exact ⟨k, x, e, t, rfl⟩
  have hD := (N' (D, listOf vs.toArray 0) (.head _))
  refine wpAny_call_entry (s := { s with heap := h', toks := tk }) slot_list_sort ⟨_, hD.1, rfl⟩ entry_list_sort (sort_tree87 (s := { s with heap := h', toks := tk }) hD.1 hS (by lia) fun out hout => ⟨_, rfl, ?_⟩) (args_list_sort _)
  obtain ⟨ss', h1, h2, h3⟩ := strs_out hS out.toList hout.2
  obtain ⟨c, hc⟩ := sortedHeap_at (vs := vs) (out := out) hD.1
  obtain ⟨⟨oL, es, en, hoL, hdL, hkL⟩, keep, above⟩ := F'
  have old : ∀ b o, h'.get? b = some o → b ≠ D → (sortedHeap h' D vs out).get? b = some o := fun b o hb hne => (sortedHeap_old hne (Heap.lt_size hb)).trans hb
  refine h D out.toList ss' c _ _ ⟨⟨oL, es, en, old _ _ hoL (Ne.symm hD.2.1), hdL, hkL⟩, fun b o hb => old _ _ (keep b o hb) (fun e => by rw [e, hD.2.2] at hb; cases hb), above⟩ (fun q hq => ?_) l1 h1 (by rw [h2, Array.length_toList]; exact hout.1) h3
  rcases List.mem_cons.mp hq with rfl | hq
  · exact ⟨hc, hD.2⟩
  · have Nq := N' q (.tail _ hq)
    exact ⟨old _ _ Nq.1 (Nat.ne_of_lt (l1 q hq)), Nq.2⟩
end
end Mine
end
section
open PySem PySem.W PySem.Calls PyProof.Rows
namespace Mine
theorem rows_RegC_1 : True := by
  k_with_none
  k_with "m:on" => skip
  k_with "m:klt" => (intro l0; replace l0 := allLt_of l0; dsimp only [AllLt] at l0; (repeat (have := And.left l0; replace l0 := And.right l0)); revert l0)
  k_with "m:ktr_room" => k_dflt (first | exact rm1 (by with_reducible assumption) rfl | exact rm2 (by with_reducible assumption) rfl | exact rm3 (by with_reducible assumption) rfl)
  k_with "m:ktr_units" => k_dflt (first | exact un0 (by with_reducible assumption) rfl | exact un1 (by with_reducible assumption) rfl | exact un2 (by with_reducible assumption) rfl | exact un3 (by with_reducible assumption) rfl)
  k_with "m:k_ne" => (refine neN ?_; (try dsimp only); first | with_reducible assumption | exact Ne.symm (by with_reducible assumption) | exact Nat.ne_of_lt (by with_reducible assumption) | exact Nat.ne_of_gt (by with_reducible assumption) | lia)
  k_with "m:cell_enter" => (refine' enterGC ?zk1_RegCr1 ?zk2_RegCr1 ?zk3_RegCr1 ?zk4_RegCr1 ?zk5_RegCr1 ?zk6_RegCr1 ?zk7_RegCr1 ?zk8_RegCr1 ?zk9_RegCr1 ?zkB_RegCr1 ?zkD_RegCr1 ?_ ?zc2_RegCr1 ?zc3_RegCr1 ?zc4_RegCr1; (case zk1_RegCr1 => k_asm); (case zk2_RegCr1 => k_asm); (case zk3_RegCr1 => k_asm); (case zk4_RegCr1 => k_asm); (case zk5_RegCr1 => k_asm); (case zk6_RegCr1 => k_is); (case zk7_RegCr1 => k_is); (case zk8_RegCr1 => lia); (case zk9_RegCr1 => first | exact BindsTo.of_eq rfl | exact binds_K (by k_in) rfl (by k_is) rfl rfl rfl); (case zkB_RegCr1 => exact rfl); (case zkD_RegCr1 => decide +kernel); (case zc2_RegCr1 => exact rfl); (case zc3_RegCr1 => exact rfl); (case zc4_RegCr1 => exact rfl); k_whole; intro L' h' tk' cells' F' N' Y' l1; (try k_lt l1); k_cells Y'; (try simp only [List.cons_append, List.nil_append, List.append_nil] at N'); (try dsimp only); (try k_fold))
  k_with "m:cell_enter" => (refine' enterG ?zk1_RegCr2 ?zk2_RegCr2 ?zk3_RegCr2 ?zk4_RegCr2 ?zk5_RegCr2 ?zk6_RegCr2 ?zk7_RegCr2 ?zk8_RegCr2 ?zk9_RegCr2 ?zkB_RegCr2 ?_ ?zc2_RegCr2 ?zc3_RegCr2 ?zc4_RegCr2 ?zc5_RegCr2; (case zk1_RegCr2 => k_asm); (case zk2_RegCr2 => k_asm); (case zk3_RegCr2 => k_asm); (case zk4_RegCr2 => k_asm); (case zk5_RegCr2 => k_asm); (case zk6_RegCr2 => k_is); (case zk7_RegCr2 => k_is); (case zk8_RegCr2 => lia); (case zk9_RegCr2 => first | exact BindsTo.of_eq rfl | exact binds_K (by k_in) rfl (by k_is) rfl rfl rfl); (case zc5_RegCr2 => decide); (case zkB_RegCr2 => exact locs rfl); (case zc2_RegCr2 => exact rfl); (case zc3_RegCr2 => exact rfl); (case zc4_RegCr2 => exact rfl); k_whole; intro L' h' F' N' l1; (try k_lt l1); (try dsimp only); (try k_fold))
  k_with "m:exec Raise some none" => (k_here; (with_reducible show wpAny _ _ (exec (Stmt.Raise (some (Expr.Call (Expr.Name _ _) _ _ _)) none _) _) _ _ _); k_dflt (refine Raise_mint (by exact rfl) ?_))
  k_with "m:call ref" => (k_here; (with_reducible show wpAny _ _ (call (Value.ref _) [Value.str _ _]) (RaisedO _) _ _); k_dflt (refine' mint_callN PySem.F.excBase_Exception ?zX_RegCr4 ?zF_RegCr4 ?zN_RegCr4 ?zC_RegCr4 ?zi_RegCr4 ?zf_RegCr4 ?zc_RegCr4 ?_; (case zX_RegCr4 => k_asm); (case zF_RegCr4 => k_asm); (case zN_RegCr4 => k_asm); (case zC_RegCr4 => k_is); (case zi_RegCr4 => k_is); (case zf_RegCr4 => k_is); (case zc_RegCr4 => rfl); k_whole); intro e' t' h' F' N' l1 l2; (try k_lt l1); (try k_lt2 l2); k_dflt (refine wpAny_call ?_; k_enter))
  k_with "m:getMethod type:Exception" => (k_here; refine' method_type ?zF_RegCr5 ?zX_RegCr5 ?zm_RegCr5 (by decide +kernel) ?ze_RegCr5 ?zh_RegCr5 ?_; (case zF_RegCr5 => k_asm); (case zX_RegCr5 => k_asm); (case zm_RegCr5 => exact meta_Exception); (case ze_RegCr5 => k_dflt k_is); (case zh_RegCr5 => k_handed))
  k_with "m:call builtin:Exception.__init__" => (k_here; k_dflt (refine' exc_initN' PySem.F.excBase_Exception ?zC_RegCr6 ?zF_RegCr6 ?zN_RegCr6 ?zh2_RegCr6 ?_; (case zF_RegCr6 => k_asm); (case zN_RegCr6 => k_asm); (case zC_RegCr6 => exact Frag.In.keeps (by k_asm) (Fr.keep (by k_asm)) _ _ (by k_is)); (case zh2_RegCr6 => first | k_all | k_extra "m:my_pt"); k_whole); intro D' h' F' N' l1; (try simp only [List.nil_append] at F' N' l1); (try k_lt l1))
  k_with "m:setAttr ref" => (k_here; k_dflt (refine' exc_set2 ?zF_RegCr7 ?zX_RegCr7 ?zN_RegCr7 ?ze_RegCr7 ?zU_RegCr7 ?zs_RegCr7 ?zc_RegCr7 ?zm_RegCr7 ?zd_RegCr7 ?zt_RegCr7 ?zn_RegCr7 ?zq_RegCr7 ?zz_RegCr7 ?_; (case zF_RegCr7 => k_asm); (case zX_RegCr7 => k_asm); (case zN_RegCr7 => k_asm); (case ze_RegCr7 => k_mem); (case zU_RegCr7 => k_upd); (case zs_RegCr7 => k_is); (case zc_RegCr7 => k_is); (case zm_RegCr7 => rfl); (case zd_RegCr7 => rfl); (case zt_RegCr7 => k_is); (case zn_RegCr7 => rfl); (case zq_RegCr7 => rfl); (case zz_RegCr7 => exact Nat.le_of_ble_eq_true rfl); k_whole); intro h' tk' F' N')
  k_with "m:setAttr ref" => (k_here; k_dflt (refine' exc_set1' ?zF_RegCr8 ?zX_RegCr8 ?zN_RegCr8 ?zh1_RegCr8 ?zh2_RegCr8 ?zs_RegCr8 ?zc_RegCr8 ?zm_RegCr8 ?zd_RegCr8 ?zt_RegCr8 ?_; (case zF_RegCr8 => k_asm); (case zX_RegCr8 => k_asm); (case zN_RegCr8 => k_asm); (case zh1_RegCr8 => k_ne); (case zh2_RegCr8 => first | k_all | k_extra "m:my_pt"); (case zs_RegCr8 => k_is); (case zc_RegCr8 => k_is); (case zm_RegCr8 => rfl); (case zd_RegCr8 => rfl); (case zt_RegCr8 => k_is); k_whole); intro D' h' tk' F' N' l1; (try simp only [List.cons_append, List.nil_append] at F' N' l1); (try k_lt l1))
  k_with "m:RaisedO" => (k_dflt (refine' raisedO_of ?zX_RegCr9 ?zF_RegCr9 ?zN_RegCr9 ?ze_RegCr9 ?zC_RegCr9 ?zb_RegCr9 ?_; (case zX_RegCr9 => k_asm); (case zF_RegCr9 => k_asm); (case zN_RegCr9 => k_asm); (case ze_RegCr9 => k_mem); (case zC_RegCr9 => k_is); (case zb_RegCr9 => rfl); k_whole))
  k_with "m:leaving ref" => (k_here; k_dflt (refine' leave_mint4 ?zK_RegCr10 ?zF_RegCr10 ?zN_RegCr10 ?zh1_RegCr10 ?zh2_RegCr10 ?_; (case zK_RegCr10 => k_asm); (case zF_RegCr10 => k_asm); (case zN_RegCr10 => k_asm); (case zh1_RegCr10 => k_all); (case zh2_RegCr10 => k_all); k_whole); intro h' R' RK' U'; (try dsimp only at R' RK' U' ⊢))
  k_with "m:my_pt" => k_dflt (refine List.forall_mem_cons.mpr ⟨by (dsimp only; k_ne), fun p hp => Nat.ne_of_lt (Nat.lt_trans ((by with_reducible assumption : ∀ p ∈ news, p.1 < _) p hp) (by with_reducible assumption))⟩)
  trivial


set_option maxRecDepth 100000 in
set_option maxHeartbeats 8000000 in
theorem reg_new {w : World} {s : Shared} {A A₀ : Around} {base h₀ : Heap} {outer : List Env} {L : Addr} {m : Str → Option Value} {env : Env} {news : List (Addr × Obj)} {Q E : Value → Shared → Prop}
  {p : Program} {loose : List Str} {mean : ExcName → Option Value} {mg mb : Str → Option Value} {dp un : Nat} {gd : Option (List Code)}
  {nm kd : Str} {k n : Int} {t1 t2 t3 t4 : Tok}
  (B : Below A₀ base outer h₀) (F : Fr h₀ L s.heap m) (X : (Mine.hd.heap_39 w.params).In h₀) (N : News h₀ L s.heap news) (T : Top p loose mean mg mb h₀)
    (hA : A = A0 dp un gd (env :: outer)) (hf : env.frame = some L) (hke : env.scope.kind = .function) (hd : dp + 3 < recursionLimit) (hun : un + 110 < cLine)
    (h : ∀ x d u1 u2 u3 u4 u5 u6 u7 u8 h' tk', @Ne Nat x d → Fr h₀ L h' m → News h₀ L h' ((x, instObj 142 d) :: (d, regDict w.params nm kd k n u1 u2 u3 u4 u5 u6 u7 u8) :: news) →
       AllNe x news → AllNe d news → Q (.ref x) { s with heap := h', toks := tk' }) :
    wpAny (model Challenge.rw_qz0048_01.row.prog w) A (call (.ref 142) [.str nm t1, .str kd t2, .int k t3, .int n t4]) Q E s := by
  w_top off
  subst hA
  revert X; k_fill; intro X
  cases env with | mk sc lo gl ce co fr => ?_
  cases sc
  dsimp only at hf hke
  subst hf hke
  k_steps
  have l1 := (by assumption : ∀ p ∈ news, p.1 < _)
  have l2 := (by assumption : _ < _)
  refine h _ _ _ _ _ _ _ _ _ _ _ _ (Nat.ne_of_gt l2) (by assumption) (by assumption) (allNe_of fun p hp => Nat.ne_of_lt (Nat.lt_trans (l1 p hp) l2)) (allNe_of fun p hp => Nat.ne_of_lt (l1 p hp))
set_option maxRecDepth 100000 in
set_option maxHeartbeats 8000000 in
/-- a new OperandError (71) or ReadError (59), raised -/
theorem mint_new {w : World} {s : Shared} {A A₀ : Around} {base h₀ : Heap} {outer : List Env} {L : Addr} {m : Str → Option Value} {env : Env} {news : List (Addr × Obj)} {E : Value → Shared → Prop}
  {p : Program} {loose : List Str} {mean : ExcName → Option Value} {mg mb : Str → Option Value} {dp un : Nat} {gd : Option (List Code)} {C : Addr} {msg : Str} {tk : Tok} (hc : C = 71 ∨ C = 59)
  (B : Below A₀ base outer h₀) (F : Fr h₀ L s.heap m) (X : (Mine.hd.heap_39 w.params).In h₀) (N : News h₀ L s.heap news) (T : Top p loose mean mg mb h₀)
    (hA : A = A0 dp un gd (env :: outer)) (hf : env.frame = some L) (hke : env.scope.kind = .function) (hd : dp + 3 < recursionLimit) (hun : un + 110 < cLine)
    (h : ∀ e t t₀ D oD o₀ n od sl h' tk', Fr h₀ L h' m → News h₀ L h' ((D, oD) :: (t, ({ cls := .type "tuple", data := .seq #[.str msg tk] n } : Obj)) :: (e, (⟨.ref C, od, .fields #[.ref t, .none, .none, .none, .bool false, .none], sl⟩ : Obj)) :: (t₀, o₀) :: news) →
       (∀ p ∈ news, p.1 ≠ e) → (∀ p ∈ news, p.1 ≠ t) → E (.ref e) { s with heap := h', toks := tk' }) :
    wpAny (model Challenge.rw_qz0048_01.row.prog w) A (call (.ref C) [.str msg tk]) (RaisedO E) E s := by
  w_top off
  subst hA
  revert X; k_fill; intro X
  cases env with | mk sc lo gl ce co fr => ?_
  cases sc
  dsimp only at hf hke
  subst hf hke
  rcases hc with rfl | rfl
  all_goals k_steps
  all_goals exact h _ _ _ _ _ _ _ _ _ _ _ (by assumption) (by assumption) (fun p hp => Nat.ne_of_lt (Nat.lt_trans ((by assumption : ∀ p ∈ news, p.1 < _) p hp) (by assumption))) (fun p hp => Nat.ne_of_lt (Nat.lt_trans ((by assumption : ∀ p ∈ news, p.1 < _) p hp) (by assumption)))
end Mine
end
section
open PySem PySem.W PySem.Calls PyProof.Rows
namespace Mine
theorem rows_C1_1 : True := by
  k_with_none
  k_with "m:on" => skip
  k_with "m:klt" => (intro l0; replace l0 := allLt_of l0; dsimp only [AllLt] at l0; (repeat (have := And.left l0; replace l0 := And.right l0)); revert l0)
  k_with "m:ktr_room" => k_dflt (first | exact rm1 (by with_reducible assumption) rfl | exact rm2 (by with_reducible assumption) rfl | exact rm3 (by with_reducible assumption) rfl)
  k_with "m:ktr_units" => k_dflt (first | exact un0 (by with_reducible assumption) rfl | exact un1 (by with_reducible assumption) rfl | exact un2 (by with_reducible assumption) rfl | exact un3 (by with_reducible assumption) rfl)
  k_with "m:k_ne" => (refine neN ?_; (try dsimp only); first | with_reducible assumption | exact Ne.symm (by with_reducible assumption) | exact Nat.ne_of_lt (by with_reducible assumption) | exact Nat.ne_of_gt (by with_reducible assumption) | lia)
  k_with "m:cell_enter" => (refine' enterGC ?zk1_C1r1 ?zk2_C1r1 ?zk3_C1r1 ?zk4_C1r1 ?zk5_C1r1 ?zk6_C1r1 ?zk7_C1r1 ?zk8_C1r1 ?zk9_C1r1 ?zkB_C1r1 ?zkD_C1r1 ?_ ?zc2_C1r1 ?zc3_C1r1 ?zc4_C1r1; (case zk1_C1r1 => k_asm); (case zk2_C1r1 => k_asm); (case zk3_C1r1 => k_asm); (case zk4_C1r1 => k_asm); (case zk5_C1r1 => k_asm); (case zk6_C1r1 => k_is); (case zk7_C1r1 => k_is); (case zk8_C1r1 => lia); (case zk9_C1r1 => first | exact BindsTo.of_eq rfl | exact binds_K (by k_in) rfl (by k_is) rfl rfl rfl); (case zkB_C1r1 => exact rfl); (case zkD_C1r1 => decide +kernel); (case zc2_C1r1 => exact rfl); (case zc3_C1r1 => exact rfl); (case zc4_C1r1 => exact rfl); k_whole; intro L' h' tk' cells' F' N' Y' l1; (try k_lt l1); k_cells Y'; (try simp only [List.cons_append, List.nil_append, List.append_nil] at N'); (try dsimp only); (try k_fold))
  k_with "m:cell_enter" => (refine' enterG ?zk1_C1r2 ?zk2_C1r2 ?zk3_C1r2 ?zk4_C1r2 ?zk5_C1r2 ?zk6_C1r2 ?zk7_C1r2 ?zk8_C1r2 ?zk9_C1r2 ?zkB_C1r2 ?_ ?zc2_C1r2 ?zc3_C1r2 ?zc4_C1r2 ?zc5_C1r2; (case zk1_C1r2 => k_asm); (case zk2_C1r2 => k_asm); (case zk3_C1r2 => k_asm); (case zk4_C1r2 => k_asm); (case zk5_C1r2 => k_asm); (case zk6_C1r2 => k_is); (case zk7_C1r2 => k_is); (case zk8_C1r2 => lia); (case zk9_C1r2 => first | exact BindsTo.of_eq rfl | exact binds_K (by k_in) rfl (by k_is) rfl rfl rfl); (case zc5_C1r2 => decide); (case zkB_C1r2 => exact locs rfl); (case zc2_C1r2 => exact rfl); (case zc3_C1r2 => exact rfl); (case zc4_C1r2 => exact rfl); k_whole; intro L' h' F' N' l1; (try k_lt l1); (try dsimp only); (try k_fold))
  k_with "m:exec Raise some none" => (k_here; (with_reducible show wpAny _ _ (exec (Stmt.Raise (some (Expr.Call (Expr.Name _ _) _ _ _)) none _) _) _ _ _); k_dflt (refine Raise_mint (by exact rfl) ?_))
  k_with "m:call ref" => (k_here; (with_reducible show wpAny _ _ (call (Value.ref _) [Value.str _ _]) (RaisedO _) _ _); k_dflt (refine' mint_callN PySem.F.excBase_Exception ?zX_C1r4 ?zF_C1r4 ?zN_C1r4 ?zC_C1r4 ?zi_C1r4 ?zf_C1r4 ?zc_C1r4 ?_; (case zX_C1r4 => k_asm); (case zF_C1r4 => k_asm); (case zN_C1r4 => k_asm); (case zC_C1r4 => k_is); (case zi_C1r4 => k_is); (case zf_C1r4 => k_is); (case zc_C1r4 => rfl); k_whole); intro e' t' h' F' N' l1 l2; (try k_lt l1); (try k_lt2 l2); k_dflt (refine wpAny_call ?_; k_enter))
  k_with "m:getMethod type:Exception" => (k_here; refine' method_type ?zF_C1r5 ?zX_C1r5 ?zm_C1r5 (by decide +kernel) ?ze_C1r5 ?zh_C1r5 ?_; (case zF_C1r5 => k_asm); (case zX_C1r5 => k_asm); (case zm_C1r5 => exact meta_Exception); (case ze_C1r5 => k_dflt k_is); (case zh_C1r5 => k_handed))
  k_with "m:call builtin:Exception.__init__" => (k_here; k_dflt (refine' exc_initN' PySem.F.excBase_Exception ?zC_C1r6 ?zF_C1r6 ?zN_C1r6 ?zh2_C1r6 ?_; (case zF_C1r6 => k_asm); (case zN_C1r6 => k_asm); (case zC_C1r6 => exact Frag.In.keeps (by k_asm) (Fr.keep (by k_asm)) _ _ (by k_is)); (case zh2_C1r6 => k_all); k_whole); intro D' h' F' N' l1; (try simp only [List.nil_append] at F' N' l1); (try k_lt l1))
  k_with "m:setAttr ref" => (k_here; k_dflt (refine' exc_set2 ?zF_C1r7 ?zX_C1r7 ?zN_C1r7 ?ze_C1r7 ?zU_C1r7 ?zs_C1r7 ?zc_C1r7 ?zm_C1r7 ?zd_C1r7 ?zt_C1r7 ?zn_C1r7 ?zq_C1r7 ?zz_C1r7 ?_; (case zF_C1r7 => k_asm); (case zX_C1r7 => k_asm); (case zN_C1r7 => k_asm); (case ze_C1r7 => k_mem); (case zU_C1r7 => k_upd); (case zs_C1r7 => k_is); (case zc_C1r7 => k_is); (case zm_C1r7 => rfl); (case zd_C1r7 => rfl); (case zt_C1r7 => k_is); (case zn_C1r7 => rfl); (case zq_C1r7 => rfl); (case zz_C1r7 => exact Nat.le_of_ble_eq_true rfl); k_whole); intro h' tk' F' N')
  k_with "m:setAttr ref" => (k_here; k_dflt (refine' exc_set1' ?zF_C1r8 ?zX_C1r8 ?zN_C1r8 ?zh1_C1r8 ?zh2_C1r8 ?zs_C1r8 ?zc_C1r8 ?zm_C1r8 ?zd_C1r8 ?zt_C1r8 ?_; (case zF_C1r8 => k_asm); (case zX_C1r8 => k_asm); (case zN_C1r8 => k_asm); (case zh1_C1r8 => k_ne); (case zh2_C1r8 => k_all); (case zs_C1r8 => k_is); (case zc_C1r8 => k_is); (case zm_C1r8 => rfl); (case zd_C1r8 => rfl); (case zt_C1r8 => k_is); k_whole); intro D' h' tk' F' N' l1; (try simp only [List.cons_append, List.nil_append] at F' N' l1); (try k_lt l1))
  k_with "m:RaisedO" => (k_dflt (refine' raisedO_of ?zX_C1r9 ?zF_C1r9 ?zN_C1r9 ?ze_C1r9 ?zC_C1r9 ?zb_C1r9 ?_; (case zX_C1r9 => k_asm); (case zF_C1r9 => k_asm); (case zN_C1r9 => k_asm); (case ze_C1r9 => k_mem); (case zC_C1r9 => k_is); (case zb_C1r9 => rfl); k_whole))
  k_with "m:leaving ref" => (k_here; k_dflt (refine' leave_mint4 ?zK_C1r10 ?zF_C1r10 ?zN_C1r10 ?zh1_C1r10 ?zh2_C1r10 ?_; (case zK_C1r10 => k_asm); (case zF_C1r10 => k_asm); (case zN_C1r10 => k_asm); (case zh1_C1r10 => k_all); (case zh2_C1r10 => k_all); k_whole); intro h' R' RK' U'; (try dsimp only at R' RK' U' ⊢))
  k_with "m:call builtin:str.split" => (k_here; (with_reducible show wpAny _ _ (call (Value.builtin "str.split") [Value.str _ _]) _ _ _); k_dflt (refine' splitL ?zF_SP ?zN_SP ?zw_SP ?zs_SP ?_; (case zF_SP => k_asm); (case zN_SP => k_asm); (case zw_SP => with_reducible (first | exact wds8 | exact wds16 | exact wds32 | exact wds64 | exact wdsH | exact wdsL | exact wdsX | exact wdsS)); (case zs_SP => kspl_size); k_whole; intro D' vs' h' k' S' F' N' l1; (try dsimp only [AllNe] at l1); (repeat (have := And.left l1; replace l1 := And.right l1))))
  trivial

set_option maxRecDepth 100000 in
set_option maxHeartbeats 8000000 in
theorem early_ok (w : World) (n : Int) (t : Tok) : Pure w 1 153 [.int n t] (ListOut (earlyL n)) := by
  w_top off
  dsimp only [FnG, Pure]; k_fill; intros; rename_i hret
  cell_enter
  k_steps
  all_goals (refine hret _ [_] _ _ (Fr.keep (by assumption)) (new_of (by assumption) fun _ hp => hp) ⟨_, _, _, rfl, rfl, ?_⟩)
  · subst n; assumption
  · subst n; assumption
  · subst n; assumption
  · subst n; assumption
  · unfold earlyL; simp only [*, if_false]; exact .nil

set_option maxRecDepth 100000 in
set_option maxHeartbeats 8000000 in
theorem ending_ok (w : World) (n : Int) (t : Tok) : Pure w 1 160 [.int n t] (EndOut n) := by
  w_top off
  dsimp only [FnG, Pure]; k_fill; intros; rename_i hret
  cell_enter
  k_steps
  all_goals (refine' hret _ [] _ _ ?zk New.nil ?zp; (case zk => exact Fr.keep (by assumption)); (case zp => first | (subst n; exact ⟨_, rfl, rfl, lateEnd_len _⟩) | ((have hz : lateEnd n = Str.ofString "" := by unfold lateEnd; simp only [*, if_false]); exact ⟨_, by rw [hz], rfl, lateEnd_len _⟩)))

end Mine
end
section
open PySem PySem.W PySem.Calls PyProof.Rows
namespace Mine
theorem joinMSC2 {α : Type} {A C T : Prop} {M : Model} {Ar : Around} {t : Sem α} {Q : α → Shared → Prop} {E : Value → Shared → Prop} {h : Heap} {g : Array GenState} {d : Drawn} {k0 : Nat} {o : OsState} {R : Shared → Prop} (_h : A ∧ (C → T)) (main : (∀ tk, C → R ⟨h, g, d, tk, o⟩) → wpAny M Ar t Q E ⟨h, g, d, k0, o⟩) (key : ∀ tk, C → R ⟨h, g, d, tk, o⟩) : wpAny M Ar t Q E ⟨h, g, d, k0, o⟩ := main key
theorem rows_C2_1 : True := by
  k_with_none
  k_with "m:on" => skip
  k_with "m:klt" => (intro l0; replace l0 := allLt_of l0; dsimp only [AllLt] at l0; (repeat (have := And.left l0; replace l0 := And.right l0)); revert l0)
  k_with "m:ktr_room" => k_dflt (first | exact rm1 (by with_reducible assumption) rfl | exact rm2 (by with_reducible assumption) rfl | exact rm3 (by with_reducible assumption) rfl)
  k_with "m:ktr_units" => k_dflt (first | exact un0 (by with_reducible assumption) rfl | exact un1 (by with_reducible assumption) rfl | exact un2 (by with_reducible assumption) rfl | exact un3 (by with_reducible assumption) rfl)
  k_with "m:k_ne" => (refine neN ?_; (try dsimp only); first | with_reducible assumption | exact Ne.symm (by with_reducible assumption) | exact Nat.ne_of_lt (by with_reducible assumption) | exact Nat.ne_of_gt (by with_reducible assumption) | lia)
  k_with "m:cell_enter" => (refine' enterGC ?zk1_C2r1 ?zk2_C2r1 ?zk3_C2r1 ?zk4_C2r1 ?zk5_C2r1 ?zk6_C2r1 ?zk7_C2r1 ?zk8_C2r1 ?zk9_C2r1 ?zkB_C2r1 ?zkD_C2r1 ?_ ?zc2_C2r1 ?zc3_C2r1 ?zc4_C2r1; (case zk1_C2r1 => k_asm); (case zk2_C2r1 => k_asm); (case zk3_C2r1 => k_asm); (case zk4_C2r1 => k_asm); (case zk5_C2r1 => k_asm); (case zk6_C2r1 => k_is); (case zk7_C2r1 => k_is); (case zk8_C2r1 => lia); (case zk9_C2r1 => first | exact BindsTo.of_eq rfl | exact binds_K (by k_in) rfl (by k_is) rfl rfl rfl); (case zkB_C2r1 => exact rfl); (case zkD_C2r1 => decide +kernel); (case zc2_C2r1 => exact rfl); (case zc3_C2r1 => exact rfl); (case zc4_C2r1 => exact rfl); k_whole; intro L' h' tk' cells' F' N' Y' l1; (try k_lt l1); k_cells Y'; (try simp only [List.cons_append, List.nil_append, List.append_nil] at N'); (try dsimp only); (try k_fold))
  k_with "m:cell_enter" => (refine' enterG ?zk1_C2r2 ?zk2_C2r2 ?zk3_C2r2 ?zk4_C2r2 ?zk5_C2r2 ?zk6_C2r2 ?zk7_C2r2 ?zk8_C2r2 ?zk9_C2r2 ?zkB_C2r2 ?_ ?zc2_C2r2 ?zc3_C2r2 ?zc4_C2r2 ?zc5_C2r2; (case zk1_C2r2 => k_asm); (case zk2_C2r2 => k_asm); (case zk3_C2r2 => k_asm); (case zk4_C2r2 => k_asm); (case zk5_C2r2 => k_asm); (case zk6_C2r2 => k_is); (case zk7_C2r2 => k_is); (case zk8_C2r2 => lia); (case zk9_C2r2 => first | exact BindsTo.of_eq rfl | exact binds_K (by k_in) rfl (by k_is) rfl rfl rfl); (case zc5_C2r2 => decide); (case zkB_C2r2 => exact locs rfl); (case zc2_C2r2 => exact rfl); (case zc3_C2r2 => exact rfl); (case zc4_C2r2 => exact rfl); k_whole; intro L' h' F' N' l1; (try k_lt l1); (try dsimp only); (try k_fold))
  k_with "m:exec Raise some none" => (k_here; (with_reducible show wpAny _ _ (exec (Stmt.Raise (some (Expr.Call (Expr.Name _ _) _ _ _)) none _) _) _ _ _); k_dflt (refine Raise_mint (by exact rfl) ?_))
  k_with "m:call ref" => (k_here; (with_reducible show wpAny _ _ (call (Value.ref _) [Value.str _ _]) (RaisedO _) _ _); k_dflt (refine' mint_callN PySem.F.excBase_Exception ?zX_C2r4 ?zF_C2r4 ?zN_C2r4 ?zC_C2r4 ?zi_C2r4 ?zf_C2r4 ?zc_C2r4 ?_; (case zX_C2r4 => k_asm); (case zF_C2r4 => k_asm); (case zN_C2r4 => k_asm); (case zC_C2r4 => k_is); (case zi_C2r4 => k_is); (case zf_C2r4 => k_is); (case zc_C2r4 => rfl); k_whole); intro e' t' h' F' N' l1 l2; (try k_lt l1); (try k_lt2 l2); k_dflt (refine wpAny_call ?_; k_enter))
  k_with "m:getMethod type:Exception" => (k_here; refine' method_type ?zF_C2r5 ?zX_C2r5 ?zm_C2r5 (by decide +kernel) ?ze_C2r5 ?zh_C2r5 ?_; (case zF_C2r5 => k_asm); (case zX_C2r5 => k_asm); (case zm_C2r5 => exact meta_Exception); (case ze_C2r5 => k_dflt k_is); (case zh_C2r5 => k_handed))
  k_with "m:call builtin:Exception.__init__" => (k_here; k_dflt (refine' exc_initN' PySem.F.excBase_Exception ?zC_C2r6 ?zF_C2r6 ?zN_C2r6 ?zh2_C2r6 ?_; (case zF_C2r6 => k_asm); (case zN_C2r6 => k_asm); (case zC_C2r6 => exact Frag.In.keeps (by k_asm) (Fr.keep (by k_asm)) _ _ (by k_is)); (case zh2_C2r6 => k_all); k_whole); intro D' h' F' N' l1; (try simp only [List.nil_append] at F' N' l1); (try k_lt l1))
  k_with "m:setAttr ref" => (k_here; k_dflt (refine' exc_set2 ?zF_C2r7 ?zX_C2r7 ?zN_C2r7 ?ze_C2r7 ?zU_C2r7 ?zs_C2r7 ?zc_C2r7 ?zm_C2r7 ?zd_C2r7 ?zt_C2r7 ?zn_C2r7 ?zq_C2r7 ?zz_C2r7 ?_; (case zF_C2r7 => k_asm); (case zX_C2r7 => k_asm); (case zN_C2r7 => k_asm); (case ze_C2r7 => k_mem); (case zU_C2r7 => k_upd); (case zs_C2r7 => k_is); (case zc_C2r7 => k_is); (case zm_C2r7 => rfl); (case zd_C2r7 => rfl); (case zt_C2r7 => k_is); (case zn_C2r7 => rfl); (case zq_C2r7 => rfl); (case zz_C2r7 => exact Nat.le_of_ble_eq_true rfl); k_whole); intro h' tk' F' N')
  k_with "m:setAttr ref" => (k_here; k_dflt (refine' exc_set1' ?zF_C2r8 ?zX_C2r8 ?zN_C2r8 ?zh1_C2r8 ?zh2_C2r8 ?zs_C2r8 ?zc_C2r8 ?zm_C2r8 ?zd_C2r8 ?zt_C2r8 ?_; (case zF_C2r8 => k_asm); (case zX_C2r8 => k_asm); (case zN_C2r8 => k_asm); (case zh1_C2r8 => k_ne); (case zh2_C2r8 => k_all); (case zs_C2r8 => k_is); (case zc_C2r8 => k_is); (case zm_C2r8 => rfl); (case zd_C2r8 => rfl); (case zt_C2r8 => k_is); k_whole); intro D' h' tk' F' N' l1; (try simp only [List.cons_append, List.nil_append] at F' N' l1); (try k_lt l1))
  k_with "m:RaisedO" => (k_dflt (refine' raisedO_of ?zX_C2r9 ?zF_C2r9 ?zN_C2r9 ?ze_C2r9 ?zC_C2r9 ?zb_C2r9 ?_; (case zX_C2r9 => k_asm); (case zF_C2r9 => k_asm); (case zN_C2r9 => k_asm); (case ze_C2r9 => k_mem); (case zC_C2r9 => k_is); (case zb_C2r9 => rfl); k_whole))
  k_with "m:leaving ref" => (k_here; k_dflt (refine' leave_mint4 ?zK_C2r10 ?zF_C2r10 ?zN_C2r10 ?zh1_C2r10 ?zh2_C2r10 ?_; (case zK_C2r10 => k_asm); (case zF_C2r10 => k_asm); (case zN_C2r10 => k_asm); (case zh1_C2r10 => first | with_reducible assumption | k_all); (case zh2_C2r10 => first | with_reducible assumption | k_all); k_whole); intro h' R' RK' U'; (try dsimp only at R' RK' U' ⊢))
  k_with "m:compareOp Eq ref ref" => (k_here; k_dflt (refine' eq_strsK ?zN_C2r11 ?zl_C2r11 ?zS_C2r11 ?zl2_C2r11 ?zS2_C2r11 ?zu_C2r11 ?zo_C2r11 ?zo2_C2r11 ?_; (case zN_C2r11 => k_asm); (case zl_C2r11 => k_mem); (case zS_C2r11 => k_asm); (case zl2_C2r11 => k_mem); (case zS2_C2r11 => exact StrsAre.nil); (case zu_C2r11 => ktr_units); (case zo_C2r11 => exact early_ok1 _); (case zo2_C2r11 => rfl); k_whole))
  k_with "m:subscriptTail Name Name ref int" => (k_here; k_dflt (refine' item_strsK ?zN_C2r12 ?zl_C2r12 ?zS_C2r12 ?z0_C2r12 ?zk_C2r12 ?zf_C2r12 ?_ ?zs_C2r12 ?zg_C2r12; (case zN_C2r12 => k_asm); (case zl_C2r12 => k_mem); (case zS_C2r12 => k_asm); (case z0_C2r12 => lia); (case zk_C2r12 => first | exact early_lt (by assumption) (by lia) | (show _ < ((_ : Nat) : Int); lia)); (case zf_C2r12 => lia); (case zs_C2r12 => with_unfolding_all rfl); (case zg_C2r12 => (intro _; with_unfolding_all rfl)); k_whole; intro t'))
  k_with "m:call ref" => (k_here; (with_reducible show wpAny _ _ (call (Value.ref 153) [Value.int _ _]) _ _ _); k_dflt (refine' callList (early_ok _ _ _) ?zB_C2r13 ?zF_C2r13 ?zX_C2r13 ?zN_C2r13 ?zT_C2r13 ?zA_C2r13 ?zf_C2r13 ?zk_C2r13 ?zd_C2r13 ?zu_C2r13 ?_; (case zF_C2r13 => k_asm); (case zB_C2r13 => k_asm); (case zX_C2r13 => k_asm); (case zN_C2r13 => k_asm); (case zT_C2r13 => k_asm); (case zA_C2r13 => exact rfl); (case zf_C2r13 => exact rfl); (case zk_C2r13 => exact rfl); (case zd_C2r13 => ktr_room); (case zu_C2r13 => ktr_units); k_whole; intro D' vs' n' h' tk' S' F' N' l1; (try dsimp only [AllNe] at l1); (repeat (have := And.left l1; replace l1 := And.right l1))))
  k_with "m:call ref" => (k_here; (with_reducible show wpAny _ _ (call (Value.ref 160) [Value.int _ _]) _ _ _); k_dflt (refine' callEnd (ending_ok _ _ _) ?zB_C2r14 ?zF_C2r14 ?zX_C2r14 ?zN_C2r14 ?zT_C2r14 ?zA_C2r14 ?zf_C2r14 ?zk_C2r14 ?zd_C2r14 ?zu_C2r14 ?_; (case zF_C2r14 => k_asm); (case zB_C2r14 => k_asm); (case zX_C2r14 => k_asm); (case zN_C2r14 => k_asm); (case zT_C2r14 => k_asm); (case zA_C2r14 => exact rfl); (case zf_C2r14 => exact rfl); (case zk_C2r14 => exact rfl); (case zd_C2r14 => ktr_room); (case zu_C2r14 => ktr_units); k_whole; intro t' h' tk' hl' F' N'))
  k_with "m:call ref" => (k_here; (with_reducible show wpAny _ _ (call (Value.ref 142) [Value.str _ _, Value.str _ _, Value.int _ _, Value.int _ _]) _ _ _); k_dflt (refine' reg_new ?zB_RR ?zF_RR ?zX_RR ?zN_RR ?zT_RR ?zA_RR ?zf_RR ?zk_RR ?zd_RR ?zu_RR ?_; (case zF_RR => k_asm); (case zB_RR => k_asm); (case zX_RR => k_asm); (case zN_RR => k_asm); (case zT_RR => k_asm); (case zA_RR => exact rfl); (case zf_RR => exact rfl); (case zk_RR => exact rfl); (case zd_RR => ktr_room); (case zu_RR => ktr_units); k_whole; intro x' d' u1 u2 u3 u4 u5 u6 u7 u8 h' tk' hx' F' N' l1 l2; (try dsimp only [AllNe] at l1 l2); (repeat (have := And.left l1; replace l1 := And.right l1)); (repeat (have := And.left l2; replace l2 := And.right l2))))
  k_with "m:compareOp Eq ref ref" => (k_here; k_dflt (with_reducible (apply joinMSC2 hret; rotate_left; (intro tkJ hC); rotate_right; intro keyJ)); k_dflt (refine' eq_strsK ?zN_C2r11 ?zl_C2r11 ?zS_C2r11 ?zl2_C2r11 ?zS2_C2r11 ?zu_C2r11 ?zo_C2r11 ?zo2_C2r11 ?_; (case zN_C2r11 => k_asm); (case zl_C2r11 => k_mem); (case zS_C2r11 => k_asm); (case zl2_C2r11 => k_mem); (case zS2_C2r11 => exact StrsAre.nil); (case zu_C2r11 => ktr_units); (case zo_C2r11 => exact early_ok1 _); (case zo2_C2r11 => rfl); k_whole))
  k_with "m:exec Raise some none" => (k_here; (with_reducible apply keyJ); k_dflt ((try simp only [decide_eq_true_eq] at *); intro hz; first | lia | exact hz.1 (by assumption)))
  k_with "m:call ref" => (k_here; (with_reducible show wpAny _ _ (call (Value.ref _) [Value.str _ _]) (RaisedO _) _ _); k_dflt (refine' mint_new ?zc_MN ?zB_MN ?zF_MN ?zX_MN ?zN_MN ?zT_MN ?zA_MN ?zf_MN ?zk_MN ?zd_MN ?zu_MN ?_; (case zc_MN => first | exact .inl rfl | exact .inr rfl); (case zF_MN => k_asm); (case zB_MN => k_asm); (case zX_MN => k_asm); (case zN_MN => k_asm); (case zT_MN => k_asm); (case zA_MN => exact rfl); (case zf_MN => exact rfl); (case zk_MN => exact rfl); (case zd_MN => ktr_room); (case zu_MN => ktr_units); k_whole; intro e' t' t0' D' oD' o0' n' od' sl' h' tk' F' N' l1' l2'))
  trivial

set_option maxRecDepth 100000 in
set_option maxHeartbeats 8000000 in
theorem gpr_ok (w : World) (k n : Int) (t t2 : Tok) (hk : -100 < k) (hk2 : k < 100) : May w 3 167 [.int k t, .int n t2] (earlyL n ≠ [] ∧ 0 ≤ k ∧ k ≤ 15) (RegOut w.params (regName k n) (Str.ofString "gpr") k n) 71 := by
  w_top off
  dsimp only [FnG, May]; k_fill; intros; rename_i hret
  cell_enter
  k_steps
  all_goals first
    | (refine hret.2 ?_ _ _ _ _ _ (raisedS_nil (by assumption)) (raisedK_nil (by assumption)) (by assumption); (try simp only [decide_eq_true_eq] at *); intro hz; first | exact hC hz | lia | exact hz.1 (by assumption))
    | (refine' hret.1 ⟨by (try simp only [decide_eq_false_iff_not] at *); assumption, by lia, by lia⟩ _ [_, _] _ _ ?zk ?zn (regOut_of ?ze ?zx); (case zk => exact Fr.keep (by assumption)); (case zn => exact new2 (by assumption)); (case zx => lia); (case ze => first | (unfold regName; rw [if_pos (by assumption)]) | (unfold regName; rw [if_neg (by assumption)])))

end Mine
end
section
open PySem PySem.W PySem.Calls PyProof.Rows
namespace Mine
theorem joinMSC3 {α : Type} {A C T : Prop} {M : Model} {Ar : Around} {t : Sem α} {Q : α → Shared → Prop} {E : Value → Shared → Prop} {h : Heap} {g : Array GenState} {d : Drawn} {k0 : Nat} {o : OsState} {R : Shared → Prop} (_h : A ∧ (C → T)) (main : (∀ tk, C → R ⟨h, g, d, tk, o⟩) → wpAny M Ar t Q E ⟨h, g, d, k0, o⟩) (key : ∀ tk, C → R ⟨h, g, d, tk, o⟩) : wpAny M Ar t Q E ⟨h, g, d, k0, o⟩ := main key
theorem rows_C3_1 : True := by
  k_with_none
  k_with "m:on" => skip
  k_with "m:klt" => (intro l0; replace l0 := allLt_of l0; dsimp only [AllLt] at l0; (repeat (have := And.left l0; replace l0 := And.right l0)); revert l0)
  k_with "m:ktr_room" => k_dflt (first | exact rm1 (by with_reducible assumption) rfl | exact rm2 (by with_reducible assumption) rfl | exact rm3 (by with_reducible assumption) rfl)
  k_with "m:ktr_units" => k_dflt (first | exact un0 (by with_reducible assumption) rfl | exact un1 (by with_reducible assumption) rfl | exact un2 (by with_reducible assumption) rfl | exact un3 (by with_reducible assumption) rfl)
  k_with "m:k_ne" => (refine neN ?_; (try dsimp only); first | with_reducible assumption | exact Ne.symm (by with_reducible assumption) | exact Nat.ne_of_lt (by with_reducible assumption) | exact Nat.ne_of_gt (by with_reducible assumption) | lia)
  k_with "m:cell_enter" => (refine' enterGC ?zk1_C3r1 ?zk2_C3r1 ?zk3_C3r1 ?zk4_C3r1 ?zk5_C3r1 ?zk6_C3r1 ?zk7_C3r1 ?zk8_C3r1 ?zk9_C3r1 ?zkB_C3r1 ?zkD_C3r1 ?_ ?zc2_C3r1 ?zc3_C3r1 ?zc4_C3r1; (case zk1_C3r1 => k_asm); (case zk2_C3r1 => k_asm); (case zk3_C3r1 => k_asm); (case zk4_C3r1 => k_asm); (case zk5_C3r1 => k_asm); (case zk6_C3r1 => k_is); (case zk7_C3r1 => k_is); (case zk8_C3r1 => lia); (case zk9_C3r1 => first | exact BindsTo.of_eq rfl | exact binds_K (by k_in) rfl (by k_is) rfl rfl rfl); (case zkB_C3r1 => exact rfl); (case zkD_C3r1 => decide +kernel); (case zc2_C3r1 => exact rfl); (case zc3_C3r1 => exact rfl); (case zc4_C3r1 => exact rfl); k_whole; intro L' h' tk' cells' F' N' Y' l1; (try k_lt l1); k_cells Y'; (try simp only [List.cons_append, List.nil_append, List.append_nil] at N'); (try dsimp only); (try k_fold))
  k_with "m:cell_enter" => (refine' enterG ?zk1_C3r2 ?zk2_C3r2 ?zk3_C3r2 ?zk4_C3r2 ?zk5_C3r2 ?zk6_C3r2 ?zk7_C3r2 ?zk8_C3r2 ?zk9_C3r2 ?zkB_C3r2 ?_ ?zc2_C3r2 ?zc3_C3r2 ?zc4_C3r2 ?zc5_C3r2; (case zk1_C3r2 => k_asm); (case zk2_C3r2 => k_asm); (case zk3_C3r2 => k_asm); (case zk4_C3r2 => k_asm); (case zk5_C3r2 => k_asm); (case zk6_C3r2 => k_is); (case zk7_C3r2 => k_is); (case zk8_C3r2 => lia); (case zk9_C3r2 => first | exact BindsTo.of_eq rfl | exact binds_K (by k_in) rfl (by k_is) rfl rfl rfl); (case zc5_C3r2 => decide); (case zkB_C3r2 => exact locs rfl); (case zc2_C3r2 => exact rfl); (case zc3_C3r2 => exact rfl); (case zc4_C3r2 => exact rfl); k_whole; intro L' h' F' N' l1; (try k_lt l1); (try dsimp only); (try k_fold))
  k_with "m:exec Raise some none" => (k_here; (with_reducible show wpAny _ _ (exec (Stmt.Raise (some (Expr.Call (Expr.Name _ _) _ _ _)) none _) _) _ _ _); k_dflt (refine Raise_mint (by exact rfl) ?_))
  k_with "m:call ref" => (k_here; (with_reducible show wpAny _ _ (call (Value.ref _) [Value.str _ _]) (RaisedO _) _ _); k_dflt (refine' mint_callN PySem.F.excBase_Exception ?zX_C3r4 ?zF_C3r4 ?zN_C3r4 ?zC_C3r4 ?zi_C3r4 ?zf_C3r4 ?zc_C3r4 ?_; (case zX_C3r4 => k_asm); (case zF_C3r4 => k_asm); (case zN_C3r4 => k_asm); (case zC_C3r4 => k_is); (case zi_C3r4 => k_is); (case zf_C3r4 => k_is); (case zc_C3r4 => rfl); k_whole); intro e' t' h' F' N' l1 l2; (try k_lt l1); (try k_lt2 l2); k_dflt (refine wpAny_call ?_; k_enter))
  k_with "m:getMethod type:Exception" => (k_here; refine' method_type ?zF_C3r5 ?zX_C3r5 ?zm_C3r5 (by decide +kernel) ?ze_C3r5 ?zh_C3r5 ?_; (case zF_C3r5 => k_asm); (case zX_C3r5 => k_asm); (case zm_C3r5 => exact meta_Exception); (case ze_C3r5 => k_dflt k_is); (case zh_C3r5 => k_handed))
  k_with "m:call builtin:Exception.__init__" => (k_here; k_dflt (refine' exc_initN' PySem.F.excBase_Exception ?zC_C3r6 ?zF_C3r6 ?zN_C3r6 ?zh2_C3r6 ?_; (case zF_C3r6 => k_asm); (case zN_C3r6 => k_asm); (case zC_C3r6 => exact Frag.In.keeps (by k_asm) (Fr.keep (by k_asm)) _ _ (by k_is)); (case zh2_C3r6 => k_all); k_whole); intro D' h' F' N' l1; (try simp only [List.nil_append] at F' N' l1); (try k_lt l1))
  k_with "m:setAttr ref" => (k_here; k_dflt (refine' exc_set2 ?zF_C3r7 ?zX_C3r7 ?zN_C3r7 ?ze_C3r7 ?zU_C3r7 ?zs_C3r7 ?zc_C3r7 ?zm_C3r7 ?zd_C3r7 ?zt_C3r7 ?zn_C3r7 ?zq_C3r7 ?zz_C3r7 ?_; (case zF_C3r7 => k_asm); (case zX_C3r7 => k_asm); (case zN_C3r7 => k_asm); (case ze_C3r7 => k_mem); (case zU_C3r7 => k_upd); (case zs_C3r7 => k_is); (case zc_C3r7 => k_is); (case zm_C3r7 => rfl); (case zd_C3r7 => rfl); (case zt_C3r7 => k_is); (case zn_C3r7 => rfl); (case zq_C3r7 => rfl); (case zz_C3r7 => exact Nat.le_of_ble_eq_true rfl); k_whole); intro h' tk' F' N')
  k_with "m:setAttr ref" => (k_here; k_dflt (refine' exc_set1' ?zF_C3r8 ?zX_C3r8 ?zN_C3r8 ?zh1_C3r8 ?zh2_C3r8 ?zs_C3r8 ?zc_C3r8 ?zm_C3r8 ?zd_C3r8 ?zt_C3r8 ?_; (case zF_C3r8 => k_asm); (case zX_C3r8 => k_asm); (case zN_C3r8 => k_asm); (case zh1_C3r8 => k_ne); (case zh2_C3r8 => k_all); (case zs_C3r8 => k_is); (case zc_C3r8 => k_is); (case zm_C3r8 => rfl); (case zd_C3r8 => rfl); (case zt_C3r8 => k_is); k_whole); intro D' h' tk' F' N' l1; (try simp only [List.cons_append, List.nil_append] at F' N' l1); (try k_lt l1))
  k_with "m:RaisedO" => (k_dflt (refine' raisedO_of ?zX_C3r9 ?zF_C3r9 ?zN_C3r9 ?ze_C3r9 ?zC_C3r9 ?zb_C3r9 ?_; (case zX_C3r9 => k_asm); (case zF_C3r9 => k_asm); (case zN_C3r9 => k_asm); (case ze_C3r9 => k_mem); (case zC_C3r9 => k_is); (case zb_C3r9 => rfl); k_whole))
  k_with "m:leaving ref" => (k_here; k_dflt (refine' leave_mint4 ?zK_C3r10 ?zF_C3r10 ?zN_C3r10 ?zh1_C3r10 ?zh2_C3r10 ?_; (case zK_C3r10 => k_asm); (case zF_C3r10 => k_asm); (case zN_C3r10 => k_asm); (case zh1_C3r10 => first | with_reducible assumption | k_all); (case zh2_C3r10 => first | with_reducible assumption | k_all); k_whole); intro h' R' RK' U'; (try dsimp only at R' RK' U' ⊢))
  k_with "m:compareOp Eq ref ref" => (k_here; k_dflt (refine' eq_strsK ?zN_C3r11 ?zl_C3r11 ?zS_C3r11 ?zl2_C3r11 ?zS2_C3r11 ?zu_C3r11 ?zo_C3r11 ?zo2_C3r11 ?_; (case zN_C3r11 => k_asm); (case zl_C3r11 => k_mem); (case zS_C3r11 => k_asm); (case zl2_C3r11 => k_mem); (case zS2_C3r11 => exact StrsAre.nil); (case zu_C3r11 => ktr_units); (case zo_C3r11 => exact early_ok1 _); (case zo2_C3r11 => rfl); k_whole))
  k_with "m:subscriptTail Name Name ref int" => (k_here; k_dflt (refine' item_strsK ?zN_C3r12 ?zl_C3r12 ?zS_C3r12 ?z0_C3r12 ?zk_C3r12 ?zf_C3r12 ?_ ?zs_C3r12 ?zg_C3r12; (case zN_C3r12 => k_asm); (case zl_C3r12 => k_mem); (case zS_C3r12 => k_asm); (case z0_C3r12 => lia); (case zk_C3r12 => first | exact early_lt (by assumption) (by lia) | (show _ < ((_ : Nat) : Int); lia)); (case zf_C3r12 => lia); (case zs_C3r12 => with_unfolding_all rfl); (case zg_C3r12 => (intro _; with_unfolding_all rfl)); k_whole; intro t'))
  k_with "m:call ref" => (k_here; (with_reducible show wpAny _ _ (call (Value.ref 153) [Value.int _ _]) _ _ _); k_dflt (refine' callList (early_ok _ _ _) ?zB_C3r13 ?zF_C3r13 ?zX_C3r13 ?zN_C3r13 ?zT_C3r13 ?zA_C3r13 ?zf_C3r13 ?zk_C3r13 ?zd_C3r13 ?zu_C3r13 ?_; (case zF_C3r13 => k_asm); (case zB_C3r13 => k_asm); (case zX_C3r13 => k_asm); (case zN_C3r13 => k_asm); (case zT_C3r13 => k_asm); (case zA_C3r13 => exact rfl); (case zf_C3r13 => exact rfl); (case zk_C3r13 => exact rfl); (case zd_C3r13 => ktr_room); (case zu_C3r13 => ktr_units); k_whole; intro D' vs' n' h' tk' S' F' N' l1; (try dsimp only [AllNe] at l1); (repeat (have := And.left l1; replace l1 := And.right l1))))
  k_with "m:call ref" => (k_here; (with_reducible show wpAny _ _ (call (Value.ref 160) [Value.int _ _]) _ _ _); k_dflt (refine' callEnd (ending_ok _ _ _) ?zB_C3r14 ?zF_C3r14 ?zX_C3r14 ?zN_C3r14 ?zT_C3r14 ?zA_C3r14 ?zf_C3r14 ?zk_C3r14 ?zd_C3r14 ?zu_C3r14 ?_; (case zF_C3r14 => k_asm); (case zB_C3r14 => k_asm); (case zX_C3r14 => k_asm); (case zN_C3r14 => k_asm); (case zT_C3r14 => k_asm); (case zA_C3r14 => exact rfl); (case zf_C3r14 => exact rfl); (case zk_C3r14 => exact rfl); (case zd_C3r14 => ktr_room); (case zu_C3r14 => ktr_units); k_whole; intro t' h' tk' hl' F' N'))
  k_with "m:call builtin:list.index" => (k_here; (with_reducible show wpAny _ _ (call (Value.builtin _) [Value.ref _, Value.str _ _]) _ _ _); k_dflt (refine' index_list_strs ?zN_C3r15 ?zl_C3r15 ?zS_C3r15 ?zz_C3r15 ?zk_C3r15 ?_; (case zN_C3r15 => k_asm); (case zl_C3r15 => k_mem); (case zS_C3r15 => k_asm); (case zz_C3r15 => first | exact early_lenOk _ | decide | rfl); (case zk_C3r15 => first | with_reducible assumption | assumption | decide +kernel); k_whole; intro hi'; (try rw [highs_len] at hi')))
  k_with "m:call ref" => (k_here; (with_reducible show wpAny _ _ (call (Value.ref 142) [Value.str _ _, Value.str _ _, Value.int _ _, Value.int _ _]) _ _ _); k_dflt (refine' reg_new ?zB_RR ?zF_RR ?zX_RR ?zN_RR ?zT_RR ?zA_RR ?zf_RR ?zk_RR ?zd_RR ?zu_RR ?_; (case zF_RR => k_asm); (case zB_RR => k_asm); (case zX_RR => k_asm); (case zN_RR => k_asm); (case zT_RR => k_asm); (case zA_RR => exact rfl); (case zf_RR => exact rfl); (case zk_RR => exact rfl); (case zd_RR => ktr_room); (case zu_RR => ktr_units); k_whole; intro x' d' u1 u2 u3 u4 u5 u6 u7 u8 h' tk' hx' F' N' l1 l2; (try dsimp only [AllNe] at l1 l2); (repeat (have := And.left l1; replace l1 := And.right l1)); (repeat (have := And.left l2; replace l2 := And.right l2))))
  k_with "m:call builtin:str.split" => (k_here; (with_reducible show wpAny _ _ (call (Value.builtin "str.split") [Value.str _ _]) _ _ _); k_dflt (refine' splitL ?zF_SP ?zN_SP ?zw_SP ?zs_SP ?_; (case zF_SP => k_asm); (case zN_SP => k_asm); (case zw_SP => with_reducible (first | exact wds8 | exact wds16 | exact wds32 | exact wds64 | exact wdsH | exact wdsL | exact wdsX | exact wdsS)); (case zs_SP => kspl_size); k_whole; intro D' vs' h' k' S' F' N' l1; (try dsimp only [AllNe] at l1); (repeat (have := And.left l1; replace l1 := And.right l1))))
  k_with "m:subscriptTail Name BinOp ref int" => (k_here; k_dflt (refine' item_strsK ?zN_SU ?zl_SU ?zS_SU ?z0_SU ?zk_SU ?zf_SU ?_ ?zs_SU ?zg_SU; (case zN_SU => k_asm); (case zl_SU => k_mem); (case zS_SU => k_asm); (case z0_SU => lia); (case zk_SU => first | (show _ < ((4 : Nat) : Int); lia) | (show _ < ((_ : Nat) : Int); lia)); (case zf_SU => lia); (case zs_SU => with_unfolding_all rfl); (case zg_SU => (intro _; with_unfolding_all rfl)); k_whole; intro t'))
  k_with "m:isTrue UnaryOp" => (k_here; (with_reducible show wpAny _ _ (isTrue (Expr.UnaryOp _ _ _) _ _) _ _ _); k_dflt (with_reducible (apply joinMSC3 hret; rotate_left; (intro tkJ hC); rotate_right; intro keyJ; refine isTrue_not ?_)))
  k_with "m:exec Raise some none" => (k_here; (with_reducible apply keyJ); k_dflt (intro hz; lia))
  k_with "m:call ref" => (k_here; (with_reducible show wpAny _ _ (call (Value.ref _) [Value.str _ _]) (RaisedO _) _ _); k_dflt (refine' mint_new ?zc_MN ?zB_MN ?zF_MN ?zX_MN ?zN_MN ?zT_MN ?zA_MN ?zf_MN ?zk_MN ?zd_MN ?zu_MN ?_; (case zc_MN => first | exact .inl rfl | exact .inr rfl); (case zF_MN => k_asm); (case zB_MN => k_asm); (case zX_MN => k_asm); (case zN_MN => k_asm); (case zT_MN => k_asm); (case zA_MN => exact rfl); (case zf_MN => exact rfl); (case zk_MN => exact rfl); (case zd_MN => ktr_room); (case zu_MN => ktr_units); k_whole; intro e' t' t0' D' oD' o0' n' od' sl' h' tk' F' N' l1' l2'))
  trivial

set_option maxRecDepth 100000 in
set_option maxHeartbeats 8000000 in
theorem high_ok (w : World) (k : Int) (t : Tok) (hk : -100 < k) (hk2 : k < 100) : May w 2 174 [.int k t] (4 ≤ k ∧ k ≤ 7) (RegOut w.params (highs.getD (k - 4).toNat Str.empty) (Str.ofString "high") k 8) 71 := by
  w_top off
  dsimp only [FnG, May]; k_fill; intros; rename_i hret
  cell_enter
  k_steps
  all_goals first
    | (refine hret.2 ?_ _ _ _ _ _ (raisedS_nil (by assumption)) (raisedK_nil (by assumption)) (by assumption); intro hz; first | exact hC hz | lia)
    | (refine' hret.1 ⟨by lia, by lia⟩ _ [_, _] _ _ ?zk ?zn (regOut_of ?ze ?zx); (case zk => exact Fr.keep (by assumption)); (case zn => exact new2 (by assumption)); (case zx => lia); (case ze => first | rfl ))

set_option maxRecDepth 100000 in
set_option maxHeartbeats 8000000 in
theorem xmm_ok (w : World) (k : Int) (t : Tok) (hk : -100 < k) (hk2 : k < 100) : May w 2 188 [.int k t] (0 ≤ k ∧ k ≤ 15) (RegOut w.params (Str.ofString "xmm" ++ Str.ofString (toString k)) (Str.ofString "xmm") k 128) 71 := by
  w_top off
  dsimp only [FnG, May]; k_fill; intros; rename_i hret
  cell_enter
  k_steps
  all_goals first
    | (refine hret.2 ?_ _ _ _ _ _ (raisedS_nil (by assumption)) (raisedK_nil (by assumption)) (by assumption); intro hz; first | exact hC hz | lia)
    | (refine' hret.1 ⟨by lia, by lia⟩ _ [_, _] _ _ ?zk ?zn (regOut_of ?ze ?zx); (case zk => exact Fr.keep (by assumption)); (case zn => exact new2 (by assumption)); (case zx => lia); (case ze => rfl))

set_option maxRecDepth 100000 in
set_option maxHeartbeats 8000000 in
theorem rip_ok (w : World) : Pure w 2 195 [] (RegOut w.params (Str.ofString "rip") (Str.ofString "rip") 0 64) := by
  w_top off
  dsimp only [FnG, Pure]; k_fill; intros; rename_i hret
  cell_enter
  k_steps
  all_goals first
    | (refine' hret _ [_, _] _ _ ?zk ?zn (regOut_of ?ze ?zx); (case zk => exact Fr.keep (by assumption)); (case zn => exact new2 (by assumption)); (case zx => lia); (case ze => rfl))

set_option maxRecDepth 100000 in
set_option maxHeartbeats 8000000 in
theorem fs_ok (w : World) (t : Tok) : Pure w 2 202 [.str (Str.ofString "fs") t] (RegOut w.params (Str.ofString "fs") (Str.ofString "segment") 4 16) := by
  w_top off
  dsimp only [FnG, Pure]; k_fill; intros; rename_i hret
  cell_enter
  k_steps
  all_goals first
    | (refine' hret _ [_, _] _ _ ?zk ?zn (regOut_of ?ze ?zx); (case zk => exact Fr.keep (by assumption)); (case zn => exact new2 (by assumption)); (case zx => lia); (case ze => rfl))

set_option maxRecDepth 100000 in
set_option maxHeartbeats 8000000 in
theorem gs_ok (w : World) (t : Tok) : Pure w 2 202 [.str (Str.ofString "gs") t] (RegOut w.params (Str.ofString "gs") (Str.ofString "segment") 5 16) := by
  w_top off
  dsimp only [FnG, Pure]; k_fill; intros; rename_i hret
  cell_enter
  k_steps
  all_goals first
    | (refine' hret _ [_, _] _ _ ?zk ?zn (regOut_of ?ze ?zx); (case zk => exact Fr.keep (by assumption)); (case zn => exact new2 (by assumption)); (case zx => lia); (case ze => rfl))

end Mine
end
section
theorem Mine.none_Base2 : True := by
  k_with_none
  w_top off
  trivial
set_option maxRecDepth 100000
open PySem PySem.W PySem.Calls PyProof.Rows PySem.SeqAt
namespace Mine
theorem any_cases {ys : List Str} {f : Str} (h : ys.any (· == f) = true) : f ∈ ys := by
  obtain ⟨y, hy, e⟩ := List.any_eq_true.mp h
  rw [← (beq_iff_eq.mp e)]
  exact hy
theorem int_late {f : Str} (h : lates.any (· == f) = true) : PySem.intText? f = some ((8 : Int) + (lates.idxOf f : Nat)) ∧ f.length ≤ 640 ∧ lates.idxOf f < 8 ∧ Str.ofString (toString ((8 : Int) + (lates.idxOf f : Nat))) = f := by
  have hm := any_cases h
  have : ∀ g ∈ lates, PySem.intText? g = some ((8 : Int) + (lates.idxOf g : Nat)) ∧ g.length ≤ 640 ∧ lates.idxOf g < 8 ∧ Str.ofString (toString ((8 : Int) + (lates.idxOf g : Nat))) = g := by decide +kernel
  exact this f hm
theorem int_xmm {f : Str} (h : xmms.any (· == f) = true) : PySem.intText? f = some ((xmms.idxOf f : Nat) : Int) ∧ f.length ≤ 640 ∧ xmms.idxOf f < 16 ∧ Str.ofString (toString ((xmms.idxOf f : Nat) : Int)) = f := by
  have hm := any_cases h
  have : ∀ g ∈ xmms, PySem.intText? g = some ((xmms.idxOf g : Nat) : Int) ∧ g.length ≤ 640 ∧ xmms.idxOf g < 16 ∧ Str.ofString (toString ((xmms.idxOf g : Nat) : Int)) = g := by decide +kernel
  exact this f hm

section
variable {prog : Program} {w : World} {s : Shared} {A A₀ : Around} {base h₀ : Heap} {outer : List Env} {L : Addr} {m : Str → Option Value} {env : Env} {news us : List (Addr × Obj)} {Q E : Value → Shared → Prop}
  {p : Program} {loose : List Str} {mean : ExcName → Option Value} {mg mb : Str → Option Value} {dp un : Nat} {gd : Option (List Code)} {f : Addr} {vs : List Value} {lv : Nat}
theorem call_late {x : Str} {t : Tok} (hx : lates.any (· == x) = true) (h : lates.idxOf x < 8 → Q (.int ((8 : Int) + (lates.idxOf x : Nat)) s.toks) { s with toks := s.toks + 1 }) : wpAny (model prog w) A (call (.type "int") [.str x t]) Q E s :=
  PySem.W.KIN.call_text (int_late hx).1 (int_late hx).2.1 (h (int_late hx).2.2.1)
theorem call_xmm {x : Str} {t : Tok} (hx : xmms.any (· == x) = true) (h : xmms.idxOf x < 16 → Q (.int ((xmms.idxOf x : Nat) : Int) s.toks) { s with toks := s.toks + 1 }) : wpAny (model prog w) A (call (.type "int") [.str x t]) Q E s :=
  PySem.W.KIN.call_text (int_xmm hx).1 (int_xmm hx).2.1 (h (int_xmm hx).2.2.1)

theorem callMay {ok : Prop} {P : Value → List (Addr × Obj) → Prop} {C : Addr} (H : May w lv f vs ok P C) (B : Below A₀ base outer h₀) (F : Fr h₀ L s.heap m) (X : (Mine.hd.heap_39 w.params).In h₀) (N : News h₀ L s.heap news) (T : Top p loose mean mg mb h₀)
    (hA : A = A0 dp un gd (env :: outer)) (hf : env.frame = some L) (hke : env.scope.kind = .function) (hd : dp + 2 * lv < recursionLimit) (hun : un + 10 * lv + 100 < cLine)
    (h : ok → ∀ v ns h' tk', P v ns → Fr h₀ L h' m → News h₀ L h' (ns ++ news) → (∀ q ∈ ns, ∀ p ∈ news, p.1 ≠ q.1) → Q v { s with heap := h', toks := tk' })
    (h2 : ¬ ok → ∀ e t ws h' tk', RaisedS base s.heap (env :: outer) e (.ref C) t ws [] h' → RaisedK base (env :: outer) e (.ref C) t ws [] h' → s.heap.UpToSlots h' → E (.ref e) { s with heap := h', toks := tk' }) :
    wpAny (model Challenge.rw_qz0048_01.row.prog w) A (call (.ref f) vs) Q E s := by
  subst hA
  refine wpAny_call (H p loose mean mg mb dp un gd (env :: outer) base s.heap s _ (groundS B F hf hke) (X.keeps F.keep) (T.keeps F.keep) (fun _ _ e => e) (Nat.le_refl _) (fun _ hq => nomatch hq) hd hun ⟨?_, ?_⟩)
  · intro ho v ns h' tk' hk Nn hP
    exact h ho v ns h' tk' hP (F.after hk) (News.new F N hk Nn) (New.apart N Nn)
  · intro hn e t ws h' tk' R R' U
    exact h2 hn e t ws h' tk' R R' U
theorem callMayReg {ok : Prop} {nm kd : Str} {k n : Int} {C : Addr} (H : May w lv f vs ok (RegOut w.params nm kd k n) C) (B : Below A₀ base outer h₀) (F : Fr h₀ L s.heap m) (X : (Mine.hd.heap_39 w.params).In h₀) (N : News h₀ L s.heap news) (T : Top p loose mean mg mb h₀)
    (hA : A = A0 dp un gd (env :: outer)) (hf : env.frame = some L) (hke : env.scope.kind = .function) (hd : dp + 2 * lv < recursionLimit) (hun : un + 10 * lv + 100 < cLine)
    (h : ok → ∀ (x d : Addr) (u1 u2 u3 u4 u5 u6 u7 u8 : Tok) (h' : Heap) (tk' : Nat), @Ne Nat x d → Fr h₀ L h' m → News h₀ L h' ((x, instObj 142 d) :: (d, regDict w.params nm kd k n u1 u2 u3 u4 u5 u6 u7 u8) :: news) → AllNe x news → AllNe d news → Q (.ref x) { s with heap := h', toks := tk' })
    (h2 : ¬ ok → ∀ e t ws h' tk', RaisedS base s.heap (env :: outer) e (.ref C) t ws [] h' → RaisedK base (env :: outer) e (.ref C) t ws [] h' → s.heap.UpToSlots h' → E (.ref e) { s with heap := h', toks := tk' }) :
    wpAny (model Challenge.rw_qz0048_01.row.prog w) A (call (.ref f) vs) Q E s := by
  refine callMay H B F X N T hA hf hke hd hun (fun ho v ns h' tk' P F' N' l1 => ?_) h2
  obtain ⟨x, d, u1, u2, u3, u4, u5, u6, u7, u8, rfl, rfl, hx⟩ := P
  exact h ho x d u1 u2 u3 u4 u5 u6 u7 u8 h' tk' hx F' N' (allNe_of (l1 _ (.head _))) (allNe_of (l1 _ (.tail _ (.head _))))
end
end Mine
end
section
theorem Mine.none_Base3 : True := by
  k_with_none
  w_top off
  trivial
set_option maxRecDepth 100000
open PySem PySem.W PySem.Calls PyProof.Rows PySem.SeqAt
namespace Mine
section
variable {prog : Program} {w : World} {A : Around} {E : Value → Shared → Prop} {s : Shared} {h₀ : Heap} {L : Addr} {m : Str → Option Value} {news : List (Addr × Obj)}
theorem item_ledger {value slice : PySem.Expr} {a : Addr} {l : List Value} {k : Int} {u : Tok} {n : Nat} {x : Value} {Q : Value → Shared → Prop} (N : News h₀ L s.heap news) (hl : (a, (⟨.type "list", none, .seq l.toArray n, #[]⟩ : Obj)) ∈ news)
    (h0 : 0 ≤ k) (hfit : k < 2 ^ 63) (hx : l[k.toNat]? = some x) (h : Q x s)
    (hs : subscripted slice false (.ref a) (.int k u) = operate [.ref a, .int k u] (getItem (.ref a) (.int k u)) := by with_unfolding_all rfl) (hg : ∀ r, letTemporaryGo value (.ref a) r = pure () := by intro _; with_unfolding_all rfl) :
    wpAny (model prog w) A (subscriptTail value slice (.ref a) (.int k u)) Q E s :=
  item_listL ⟨_, (N _ hl).1, rfl, _, rfl⟩ h0 hfit hx h hs hg
theorem mul_small {a b : Int} {t u : Tok} {Q : Value → Shared → Prop} (hb : -(2 ^ 62) < b ∧ b < 2 ^ 62) (h : Q (.int (a * b) s.toks) { s with toks := s.toks + 1 }) : wpAny (model prog w) A (binaryOp .Mult (.int a t) (.int b u)) Q E s :=
  PyProof.Rows.mul_int h (IntMulOk.of_right (intBits_le_64 (by lia) (by lia)))
end
/-- the pen: what is left of the script, the walk of its own, its steps (at most j) -/
def PenOk (a b c j : Int) : Prop := 0 ≤ a ∧ 0 ≤ b ∧ b < 2147483648 ∧ 0 ≤ c ∧ c ≤ j
abbrev TakeG (l : Addr) (n j : Int) : Heap → List Env → Heap → Shared → (Result → Shared → Prop) → Prop := fun _ _ g s R =>
  ∀ (k a' b' c' : Int) (ta tb tc t : Tok) (ep : Nat) (h' : Heap) (tk' : Nat), g.StaysIn h' → h'.get? l = some (W.listOf #[.int a' ta, .int b' tb, .int c' tc] ep) → 0 ≤ k → k < n → PenOk a' b' c' (j + 1) → R (.ok (.ret (.int k t))) { s with heap := h', toks := tk' }
theorem fmod_in (x : Int) {n : Int} (hn : 0 < n) : 0 ≤ x.fmod n ∧ x.fmod n < n := by
  rw [Int.fmod_eq_emod_of_nonneg _ (by lia)]
  exact ⟨Int.emod_nonneg _ (by lia), Int.emod_lt_of_pos _ hn⟩
theorem penOk_a {a b c j n : Int} (h : 0 ≤ a ∧ 0 ≤ b ∧ b < 2147483648 ∧ 0 ≤ c ∧ c ≤ j) (hn : 0 < n) : 0 ≤ a.fmod n ∧ a.fmod n < n ∧ PenOk (a.fdiv n) b c (j + 1) := by
  obtain ⟨h1, h2, h3, h4, h5⟩ := h
  refine ⟨(fmod_in a hn).1, (fmod_in a hn).2, ?_, h2, h3, h4, by lia⟩
  rw [Int.fdiv_eq_ediv_of_nonneg _ (by lia)]
  exact Int.ediv_nonneg h1 (by lia)
theorem penOk_b {a b c j n : Int} (h : 0 ≤ a ∧ 0 ≤ b ∧ b < 2147483648 ∧ 0 ≤ c ∧ c ≤ j) (hn : 0 < n) (x : Int) : 0 ≤ ((x.fmod 2147483647).fdiv 32).fmod n ∧ ((x.fmod 2147483647).fdiv 32).fmod n < n ∧ PenOk a (x.fmod 2147483647) (c + 1) (j + 1) := by
  obtain ⟨h1, h2, h3, h4, h5⟩ := h
  have h6 := fmod_in x (n := 2147483647) (by lia)
  exact ⟨(fmod_in _ hn).1, (fmod_in _ hn).2, h1, h6.1, by lia, by lia, by lia⟩
end Mine
end
section
open PySem PySem.W PySem.Calls PyProof.Rows
namespace Mine
theorem rows_C6_1 : True := by
  k_with_none
  k_with "m:on" => skip
  k_with "m:klt" => (intro l0; replace l0 := allLt_of l0; dsimp only [AllLt] at l0; (repeat (have := And.left l0; replace l0 := And.right l0)); revert l0)
  k_with "m:ktr_room" => k_dflt (first | exact rm1 (by with_reducible assumption) rfl | exact rm2 (by with_reducible assumption) rfl | exact rm3 (by with_reducible assumption) rfl)
  k_with "m:ktr_units" => k_dflt (first | exact un0 (by with_reducible assumption) rfl | exact un1 (by with_reducible assumption) rfl | exact un2 (by with_reducible assumption) rfl | exact un3 (by with_reducible assumption) rfl)
  k_with "m:k_ne" => (refine neN ?_; (try dsimp only); first | with_reducible assumption | exact Ne.symm (by with_reducible assumption) | exact Nat.ne_of_lt (by with_reducible assumption) | exact Nat.ne_of_gt (by with_reducible assumption) | lia)
  k_with "m:cell_enter" => (refine' enterGC ?zk1_C6r1 ?zk2_C6r1 ?zk3_C6r1 ?zk4_C6r1 ?zk5_C6r1 ?zk6_C6r1 ?zk7_C6r1 ?zk8_C6r1 ?zk9_C6r1 ?zkB_C6r1 ?zkD_C6r1 ?_ ?zc2_C6r1 ?zc3_C6r1 ?zc4_C6r1; (case zk1_C6r1 => k_asm); (case zk2_C6r1 => k_asm); (case zk3_C6r1 => k_asm); (case zk4_C6r1 => k_asm); (case zk5_C6r1 => k_asm); (case zk6_C6r1 => k_is); (case zk7_C6r1 => k_is); (case zk8_C6r1 => lia); (case zk9_C6r1 => first | exact BindsTo.of_eq rfl | exact binds_K (by k_in) rfl (by k_is) rfl rfl rfl); (case zkB_C6r1 => exact rfl); (case zkD_C6r1 => decide +kernel); (case zc2_C6r1 => exact rfl); (case zc3_C6r1 => exact rfl); (case zc4_C6r1 => exact rfl); k_whole; intro L' h' tk' cells' F' N' Y' l1; (try k_lt l1); k_cells Y'; (try simp only [List.cons_append, List.nil_append, List.append_nil] at N'); (try dsimp only); (try k_fold))
  k_with "m:cell_enter" => (refine' enterG ?zk1_C6r2 ?zk2_C6r2 ?zk3_C6r2 ?zk4_C6r2 ?zk5_C6r2 ?zk6_C6r2 ?zk7_C6r2 ?zk8_C6r2 ?zk9_C6r2 ?zkB_C6r2 ?_ ?zc2_C6r2 ?zc3_C6r2 ?zc4_C6r2 ?zc5_C6r2; (case zk1_C6r2 => k_asm); (case zk2_C6r2 => k_asm); (case zk3_C6r2 => k_asm); (case zk4_C6r2 => k_asm); (case zk5_C6r2 => k_asm); (case zk6_C6r2 => k_is); (case zk7_C6r2 => k_is); (case zk8_C6r2 => lia); (case zk9_C6r2 => first | exact BindsTo.of_eq rfl | exact binds_K (by k_in) rfl (by k_is) rfl rfl rfl); (case zc5_C6r2 => decide); (case zkB_C6r2 => exact locs rfl); (case zc2_C6r2 => exact rfl); (case zc3_C6r2 => exact rfl); (case zc4_C6r2 => exact rfl); k_whole; intro L' h' F' N' l1; (try k_lt l1); (try dsimp only); (try k_fold))
  k_with "m:exec Raise some none" => (k_here; (with_reducible show wpAny _ _ (exec (Stmt.Raise (some (Expr.Call (Expr.Name _ _) _ _ _)) none _) _) _ _ _); k_dflt (refine Raise_mint (by exact rfl) ?_))
  k_with "m:call ref" => (k_here; (with_reducible show wpAny _ _ (call (Value.ref _) [Value.str _ _]) (RaisedO _) _ _); k_dflt (refine' mint_callN PySem.F.excBase_Exception ?zX_C6r4 ?zF_C6r4 ?zN_C6r4 ?zC_C6r4 ?zi_C6r4 ?zf_C6r4 ?zc_C6r4 ?_; (case zX_C6r4 => k_asm); (case zF_C6r4 => k_asm); (case zN_C6r4 => k_asm); (case zC_C6r4 => k_is); (case zi_C6r4 => k_is); (case zf_C6r4 => k_is); (case zc_C6r4 => rfl); k_whole); intro e' t' h' F' N' l1 l2; (try k_lt l1); (try k_lt2 l2); k_dflt (refine wpAny_call ?_; k_enter))
  k_with "m:getMethod type:Exception" => (k_here; refine' method_type ?zF_C6r5 ?zX_C6r5 ?zm_C6r5 (by decide +kernel) ?ze_C6r5 ?zh_C6r5 ?_; (case zF_C6r5 => k_asm); (case zX_C6r5 => k_asm); (case zm_C6r5 => exact meta_Exception); (case ze_C6r5 => k_dflt k_is); (case zh_C6r5 => k_handed))
  k_with "m:call builtin:Exception.__init__" => (k_here; k_dflt (refine' exc_initN' PySem.F.excBase_Exception ?zC_C6r6 ?zF_C6r6 ?zN_C6r6 ?zh2_C6r6 ?_; (case zF_C6r6 => k_asm); (case zN_C6r6 => k_asm); (case zC_C6r6 => exact Frag.In.keeps (by k_asm) (Fr.keep (by k_asm)) _ _ (by k_is)); (case zh2_C6r6 => k_all); k_whole); intro D' h' F' N' l1; (try simp only [List.nil_append] at F' N' l1); (try k_lt l1))
  k_with "m:setAttr ref" => (k_here; k_dflt (refine' exc_set2 ?zF_C6r7 ?zX_C6r7 ?zN_C6r7 ?ze_C6r7 ?zU_C6r7 ?zs_C6r7 ?zc_C6r7 ?zm_C6r7 ?zd_C6r7 ?zt_C6r7 ?zn_C6r7 ?zq_C6r7 ?zz_C6r7 ?_; (case zF_C6r7 => k_asm); (case zX_C6r7 => k_asm); (case zN_C6r7 => k_asm); (case ze_C6r7 => k_mem); (case zU_C6r7 => k_upd); (case zs_C6r7 => k_is); (case zc_C6r7 => k_is); (case zm_C6r7 => rfl); (case zd_C6r7 => rfl); (case zt_C6r7 => k_is); (case zn_C6r7 => rfl); (case zq_C6r7 => rfl); (case zz_C6r7 => exact Nat.le_of_ble_eq_true rfl); k_whole); intro h' tk' F' N')
  k_with "m:setAttr ref" => (k_here; k_dflt (refine' exc_set1' ?zF_C6r8 ?zX_C6r8 ?zN_C6r8 ?zh1_C6r8 ?zh2_C6r8 ?zs_C6r8 ?zc_C6r8 ?zm_C6r8 ?zd_C6r8 ?zt_C6r8 ?_; (case zF_C6r8 => k_asm); (case zX_C6r8 => k_asm); (case zN_C6r8 => k_asm); (case zh1_C6r8 => k_ne); (case zh2_C6r8 => k_all); (case zs_C6r8 => k_is); (case zc_C6r8 => k_is); (case zm_C6r8 => rfl); (case zd_C6r8 => rfl); (case zt_C6r8 => k_is); k_whole); intro D' h' tk' F' N' l1; (try simp only [List.cons_append, List.nil_append] at F' N' l1); (try k_lt l1))
  k_with "m:RaisedO" => (k_dflt (refine' raisedO_of ?zX_C6r9 ?zF_C6r9 ?zN_C6r9 ?ze_C6r9 ?zC_C6r9 ?zb_C6r9 ?_; (case zX_C6r9 => k_asm); (case zF_C6r9 => k_asm); (case zN_C6r9 => k_asm); (case ze_C6r9 => k_mem); (case zC_C6r9 => k_is); (case zb_C6r9 => rfl); k_whole))
  k_with "m:leaving ref" => (k_here; k_dflt (refine' leave_mint4 ?zK_C6r10 ?zF_C6r10 ?zN_C6r10 ?zh1_C6r10 ?zh2_C6r10 ?_; (case zK_C6r10 => k_asm); (case zF_C6r10 => k_asm); (case zN_C6r10 => k_asm); (case zh1_C6r10 => k_all); (case zh2_C6r10 => k_all); k_whole); intro h' R' RK' U'; (try dsimp only at R' RK' U' ⊢))
  k_with "m:compareOp Eq ref ref" => (k_here; k_dflt (refine' eq_strsK ?zN_C6r11 ?zl_C6r11 ?zS_C6r11 ?zl2_C6r11 ?zS2_C6r11 ?zu_C6r11 ?zo_C6r11 ?zo2_C6r11 ?_; (case zN_C6r11 => k_asm); (case zl_C6r11 => k_mem); (case zS_C6r11 => k_asm); (case zl2_C6r11 => k_mem); (case zS2_C6r11 => exact StrsAre.nil); (case zu_C6r11 => ktr_units); (case zo_C6r11 => exact early_ok1 _); (case zo2_C6r11 => rfl); k_whole))
  k_with "m:subscriptTail Name Name ref int" => (k_here; k_dflt (refine' item_strsK ?zN_C6r12 ?zl_C6r12 ?zS_C6r12 ?z0_C6r12 ?zk_C6r12 ?zf_C6r12 ?_ ?zs_C6r12 ?zg_C6r12; (case zN_C6r12 => k_asm); (case zl_C6r12 => k_mem); (case zS_C6r12 => k_asm); (case z0_C6r12 => lia); (case zk_C6r12 => first | exact early_lt (by assumption) (by lia) | (show _ < ((_ : Nat) : Int); lia)); (case zf_C6r12 => lia); (case zs_C6r12 => with_unfolding_all rfl); (case zg_C6r12 => (intro _; with_unfolding_all rfl)); k_whole; intro t'))
  k_with "m:call ref" => (k_here; (with_reducible show wpAny _ _ (call (Value.ref 153) [Value.int _ _]) _ _ _); k_dflt (refine' callList (early_ok _ _ _) ?zB_C6r13 ?zF_C6r13 ?zX_C6r13 ?zN_C6r13 ?zT_C6r13 ?zA_C6r13 ?zf_C6r13 ?zk_C6r13 ?zd_C6r13 ?zu_C6r13 ?_; (case zF_C6r13 => k_asm); (case zB_C6r13 => k_asm); (case zX_C6r13 => k_asm); (case zN_C6r13 => k_asm); (case zT_C6r13 => k_asm); (case zA_C6r13 => exact rfl); (case zf_C6r13 => exact rfl); (case zk_C6r13 => exact rfl); (case zd_C6r13 => ktr_room); (case zu_C6r13 => ktr_units); k_whole; intro D' vs' n' h' tk' S' F' N' l1; (try dsimp only [AllNe] at l1); (repeat (have := And.left l1; replace l1 := And.right l1))))
  k_with "m:call ref" => (k_here; (with_reducible show wpAny _ _ (call (Value.ref 160) [Value.int _ _]) _ _ _); k_dflt (refine' callEnd (ending_ok _ _ _) ?zB_C6r14 ?zF_C6r14 ?zX_C6r14 ?zN_C6r14 ?zT_C6r14 ?zA_C6r14 ?zf_C6r14 ?zk_C6r14 ?zd_C6r14 ?zu_C6r14 ?_; (case zF_C6r14 => k_asm); (case zB_C6r14 => k_asm); (case zX_C6r14 => k_asm); (case zN_C6r14 => k_asm); (case zT_C6r14 => k_asm); (case zA_C6r14 => exact rfl); (case zf_C6r14 => exact rfl); (case zk_C6r14 => exact rfl); (case zd_C6r14 => ktr_room); (case zu_C6r14 => ktr_units); k_whole; intro t' h' tk' hl' F' N'))
  k_with "m:call builtin:list.index" => (k_here; (with_reducible show wpAny _ _ (call (Value.builtin _) [Value.ref _, Value.str _ _]) _ _ _); k_dflt (refine' index_list_strs ?zN_C6r15 ?zl_C6r15 ?zS_C6r15 ?zz_C6r15 ?zk_C6r15 ?_; (case zN_C6r15 => k_asm); (case zl_C6r15 => k_mem); (case zS_C6r15 => k_asm); (case zz_C6r15 => first | exact early_lenOk _ | decide | rfl); (case zk_C6r15 => first | with_reducible assumption | assumption | decide +kernel); k_whole; intro hi'; (try simp only [List.length_cons, List.length_nil, Nat.reduceAdd, Nat.zero_add] at hi')))
  k_with "m:call ref" => (k_here; (with_reducible show wpAny _ _ (call (Value.ref 167) [Value.int _ _, Value.int _ _]) _ _ _); k_dflt (refine' callMayReg (gpr_ok _ _ _ _ _ ?zh_C6r16 ?zh2_C6r16) ?zB_C6r16 ?zF_C6r16 ?zX_C6r16 ?zN_C6r16 ?zT_C6r16 ?zA_C6r16 ?zf_C6r16 ?zk_C6r16 ?zd_C6r16 ?zu_C6r16 ?zo_C6r16 ?zr_C6r16; (case zF_C6r16 => k_asm); (case zB_C6r16 => k_asm); (case zX_C6r16 => k_asm); (case zN_C6r16 => k_asm); (case zT_C6r16 => k_asm); (case zA_C6r16 => exact rfl); (case zf_C6r16 => exact rfl); (case zk_C6r16 => exact rfl); (case zd_C6r16 => ktr_room); (case zu_C6r16 => ktr_units); (case zh_C6r16 => lia); (case zh2_C6r16 => lia); k_whole; (try (case zr_C6r16 => (intro hz; exact absurd ⟨by first | with_reducible assumption | assumption | decide, by lia, by lia⟩ hz))); (all_goals first | (intro hz x' d' u1 u2 u3 u4 u5 u6 u7 u8 h' tk' hx' F' N' l1 l2; (try dsimp only [AllNe] at l1 l2); (repeat (have := And.left l1; replace l1 := And.right l1)); (repeat (have := And.left l2; replace l2 := And.right l2))) | (intro hz e' t' ws' h' tk' R' RK' U'))))
  k_with "m:call ref" => (k_here; (with_reducible show wpAny _ _ (call (Value.ref 174) [Value.int _ _]) _ _ _); k_dflt (refine' callMayReg (high_ok _ _ _ ?zh_C6r17 ?zh2_C6r17) ?zB_C6r17 ?zF_C6r17 ?zX_C6r17 ?zN_C6r17 ?zT_C6r17 ?zA_C6r17 ?zf_C6r17 ?zk_C6r17 ?zd_C6r17 ?zu_C6r17 ?zo_C6r17 ?zr_C6r17; (case zF_C6r17 => k_asm); (case zB_C6r17 => k_asm); (case zX_C6r17 => k_asm); (case zN_C6r17 => k_asm); (case zT_C6r17 => k_asm); (case zA_C6r17 => exact rfl); (case zf_C6r17 => exact rfl); (case zk_C6r17 => exact rfl); (case zd_C6r17 => ktr_room); (case zu_C6r17 => ktr_units); (case zh_C6r17 => lia); (case zh2_C6r17 => lia); k_whole; (try (case zr_C6r17 => (intro hz; exact absurd ⟨by lia, by lia⟩ hz))); (all_goals first | (intro hz x' d' u1 u2 u3 u4 u5 u6 u7 u8 h' tk' hx' F' N' l1 l2; (try dsimp only [AllNe] at l1 l2); (repeat (have := And.left l1; replace l1 := And.right l1)); (repeat (have := And.left l2; replace l2 := And.right l2))) | (intro hz e' t' ws' h' tk' R' RK' U'))))
  k_with "m:call ref" => (k_here; (with_reducible show wpAny _ _ (call (Value.ref 188) [Value.int _ _]) _ _ _); k_dflt (refine' callMayReg (xmm_ok _ _ _ ?zh_C6r18 ?zh2_C6r18) ?zB_C6r18 ?zF_C6r18 ?zX_C6r18 ?zN_C6r18 ?zT_C6r18 ?zA_C6r18 ?zf_C6r18 ?zk_C6r18 ?zd_C6r18 ?zu_C6r18 ?zo_C6r18 ?zr_C6r18; (case zF_C6r18 => k_asm); (case zB_C6r18 => k_asm); (case zX_C6r18 => k_asm); (case zN_C6r18 => k_asm); (case zT_C6r18 => k_asm); (case zA_C6r18 => exact rfl); (case zf_C6r18 => exact rfl); (case zk_C6r18 => exact rfl); (case zd_C6r18 => ktr_room); (case zu_C6r18 => ktr_units); (case zh_C6r18 => lia); (case zh2_C6r18 => lia); k_whole; (try (case zr_C6r18 => (intro hz; exact absurd ⟨by lia, by lia⟩ hz))); (all_goals first | (intro hz x' d' u1 u2 u3 u4 u5 u6 u7 u8 h' tk' hx' F' N' l1 l2; (try dsimp only [AllNe] at l1 l2); (repeat (have := And.left l1; replace l1 := And.right l1)); (repeat (have := And.left l2; replace l2 := And.right l2))) | (intro hz e' t' ws' h' tk' R' RK' U'))))
  k_with "m:call ref" => (k_here; (with_reducible show wpAny _ _ (call (Value.ref 195) []) _ _ _); k_dflt (refine' callReg (rip_ok _) ?zB_C6r19 ?zF_C6r19 ?zX_C6r19 ?zN_C6r19 ?zT_C6r19 ?zA_C6r19 ?zf_C6r19 ?zk_C6r19 ?zd_C6r19 ?zu_C6r19 ?_; (case zF_C6r19 => k_asm); (case zB_C6r19 => k_asm); (case zX_C6r19 => k_asm); (case zN_C6r19 => k_asm); (case zT_C6r19 => k_asm); (case zA_C6r19 => exact rfl); (case zf_C6r19 => exact rfl); (case zk_C6r19 => exact rfl); (case zd_C6r19 => ktr_room); (case zu_C6r19 => ktr_units); k_whole; intro x' d' u1 u2 u3 u4 u5 u6 u7 u8 h' tk' hx' F' N' l1 l2; (try dsimp only [AllNe] at l1 l2); (repeat (have := And.left l1; replace l1 := And.right l1)); (repeat (have := And.left l2; replace l2 := And.right l2))))
  k_with "m:call ref" => (k_here; (with_reducible show wpAny _ _ (call (Value.ref 202) [Value.str (PySem.Str.ofString "fs") _]) _ _ _); k_dflt (refine' callReg (fs_ok _ _) ?zB_C6r20 ?zF_C6r20 ?zX_C6r20 ?zN_C6r20 ?zT_C6r20 ?zA_C6r20 ?zf_C6r20 ?zk_C6r20 ?zd_C6r20 ?zu_C6r20 ?_; (case zF_C6r20 => k_asm); (case zB_C6r20 => k_asm); (case zX_C6r20 => k_asm); (case zN_C6r20 => k_asm); (case zT_C6r20 => k_asm); (case zA_C6r20 => exact rfl); (case zf_C6r20 => exact rfl); (case zk_C6r20 => exact rfl); (case zd_C6r20 => ktr_room); (case zu_C6r20 => ktr_units); k_whole; intro x' d' u1 u2 u3 u4 u5 u6 u7 u8 h' tk' hx' F' N' l1 l2; (try dsimp only [AllNe] at l1 l2); (repeat (have := And.left l1; replace l1 := And.right l1)); (repeat (have := And.left l2; replace l2 := And.right l2))))
  k_with "m:call ref" => (k_here; (with_reducible show wpAny _ _ (call (Value.ref 202) [Value.str (PySem.Str.ofString "gs") _]) _ _ _); k_dflt (refine' callReg (gs_ok _ _) ?zB_C6r21 ?zF_C6r21 ?zX_C6r21 ?zN_C6r21 ?zT_C6r21 ?zA_C6r21 ?zf_C6r21 ?zk_C6r21 ?zd_C6r21 ?zu_C6r21 ?_; (case zF_C6r21 => k_asm); (case zB_C6r21 => k_asm); (case zX_C6r21 => k_asm); (case zN_C6r21 => k_asm); (case zT_C6r21 => k_asm); (case zA_C6r21 => exact rfl); (case zf_C6r21 => exact rfl); (case zk_C6r21 => exact rfl); (case zd_C6r21 => ktr_room); (case zu_C6r21 => ktr_units); k_whole; intro x' d' u1 u2 u3 u4 u5 u6 u7 u8 h' tk' hx' F' N' l1 l2; (try dsimp only [AllNe] at l1 l2); (repeat (have := And.left l1; replace l1 := And.right l1)); (repeat (have := And.left l2; replace l2 := And.right l2))))
  k_with "m:call type:int" => (k_here; (with_reducible show wpAny _ _ (call (Value.type _) [Value.str _ _]) _ _ _); k_dflt (first | (refine' call_xmm ?zk_C6r22 ?_; (case zk_C6r22 => k_asm); k_whole; intro hi') | (refine' call_late ?zk_C6r22 ?_; (case zk_C6r22 => k_asm); k_whole; intro hi')))
  k_with "m:compareOp In str ref" => (k_here; k_dflt (refine' in_strsK ?zN_C6r23 ?zl_C6r23 ?zS_C6r23 ?_; (case zN_C6r23 => k_asm); (case zl_C6r23 => k_mem); (case zS_C6r23 => k_asm); k_whole))
  k_with "m:subscriptTail Name Constant ref int" => (k_here; k_dflt (refine' item_ledger ?zN_C6r24 ?zl_C6r24 ?z0_C6r24 ?zf_C6r24 ?zx_C6r24 ?_ ?zs_C6r24 ?zg_C6r24; (case zN_C6r24 => k_asm); (case zl_C6r24 => k_mem); (case z0_C6r24 => decide); (case zf_C6r24 => decide); (case zx_C6r24 => rfl); (case zs_C6r24 => with_unfolding_all rfl); (case zg_C6r24 => (intro _; with_unfolding_all rfl)); k_whole))
  k_with "m:binaryOp Mult int int" => (k_here; k_dflt (refine' mul_small ?zb_C6r25 ?_; (case zb_C6r25 => lia); k_whole))
  trivial

set_option maxRecDepth 100000 in
set_option maxHeartbeats 2000000 in
theorem take_ok (w : World) (l : Addr) (a b c j n : Int) (ta tb tc tn : Tok) (ep : Nat) (hp : PenOk a b c j) (hj : j < 100000) (hn : 0 < n) (hn2 : n < 100000) :
    FnG w 1 242 [.ref l, .int n tn] [(l, W.listOf #[.int a ta, .int b tb, .int c tc] ep)] (TakeG l n j) := by
  w_top off
  dsimp only [FnG, TakeG]; k_fill; intros; rename_i hret
  have hp' := hp
  obtain ⟨ha, hb, hb2, hc, hcj⟩ := hp
  cell_enter
  k_steps
  all_goals (try dsimp only)
  · have z := penOk_a hp' hn
    exact hret _ _ _ _ _ _ _ _ _ _ _ (Fr.keep (by assumption)) (News.get (by assumption) (.head _)) z.1 z.2.1 z.2.2
  · have z := penOk_b hp' hn (b * 48271 + (c + 1) * (c + 1))
    exact hret _ _ _ _ _ _ _ _ _ _ _ (Fr.keep (by assumption)) (News.get (by assumption) (.head _)) z.1 z.2.1 z.2.2

end Mine
end
section
theorem Mine.none_Base4 : True := by
  k_with_none
  w_top off
  trivial
set_option maxRecDepth 100000
open PySem PySem.W PySem.Calls PyProof.Rows PySem.SeqAt
namespace Mine
theorem updF_split {d : Addr} {o : Obj} : ∀ {l : List (Addr × Obj)} {f : Obj → List (Addr × Obj)}, UpdF d o l f → ∃ pre post, l = pre ++ (d, o) :: post ∧ (∀ o', f o' = pre ++ (d, o') :: post) ∧ (∀ p ∈ pre, p.1 ≠ d) ∧ ∀ p ∈ post, p.1 ≠ d := UpdF.split

section
variable {w : World} {s : Shared} {A A₀ : Around} {base h₀ : Heap} {outer : List Env} {L : Addr} {m : Str → Option Value} {env : Env} {news us : List (Addr × Obj)} {Q E : Value → Shared → Prop}
  {p : Program} {loose : List Str} {mean : ExcName → Option Value} {mg mb : Str → Option Value} {dp un : Nat} {gd : Option (List Code)} {f : Addr} {vs : List Value} {lv : Nat}

theorem callTake {l : Addr} {o : Obj} {n j : Int} {fn : Obj → List (Addr × Obj)} (H : FnG w lv f vs [(l, o)] (TakeG l n j)) (B : Below A₀ base outer h₀) (F : Fr h₀ L s.heap m) (X : (Mine.hd.heap_39 w.params).In h₀) (N : News h₀ L s.heap news) (U : UpdF l o news fn) (T : Top p loose mean mg mb h₀)
    (hA : A = A0 dp un gd (env :: outer)) (hf : env.frame = some L) (hke : env.scope.kind = .function) (hd : dp + 2 * lv < recursionLimit) (hun : un + 10 * lv + 100 < cLine)
    (h : ∀ (k a' b' c' : Int) (ta tb tc t : Tok) (ep : Nat) (h' : Heap) (tk' : Nat), 0 ≤ k → k < n → PenOk a' b' c' (j + 1) → Fr h₀ L h' m → News h₀ L h' (fn (W.listOf #[.int a' ta, .int b' tb, .int c' tc] ep)) → Q (.int k t) { s with heap := h', toks := tk' }) :
    wpAny (model Challenge.rw_qz0048_01.row.prog w) A (call (.ref f) vs) Q E s := by
  subst hA
  obtain ⟨pre, post, rfl, hfn, hpre, hpost⟩ := updF_split U
  have N1 : News h₀ L s.heap [(l, o)] := fun q hq => by
    rw [List.mem_singleton.mp hq]
    exact N _ (List.mem_append_right _ (.head _))
  have hl := N1 _ (List.mem_singleton.mpr rfl)
  obtain ⟨FG, BG, st, _⟩ := groundX (A := A0 dp un gd (env :: outer)) (R := fun _ _ => True) B F N1 rfl hf hke
  refine wpAny_call (H p loose mean mg mb dp un gd (env :: outer) base (hideAll s.heap [l]) s _ BG (X.keeps st) (T.keeps st) (fun _ _ e => of_hideAll _ e) (Nat.le_of_eq (hideAll_size _ _)) (fun u hu => ?_) hd hun ?_)
  · rw [List.mem_singleton.mp hu]
    exact ⟨hl.1, hideAll_none _ (List.mem_singleton.mpr rfl)⟩
  · intro k a' b' c' ta tb tc t ep h' tk' hk hl' k0 k1 hp
    refine h k a' b' c' ta tb tc t ep h' tk' k0 k1 hp (FG.after hk) ?_
    rw [hfn]
    intro q hq
    have other : q.1 ≠ l → q ∈ pre ++ (l, o) :: post → h'.get? q.1 = some q.2 ∧ q.1 ≠ L ∧ h₀.get? q.1 = none := fun hne hq => ⟨hk _ _ (hideAll_get _ (N q hq).1 (by simpa using hne)), (N q hq).2⟩
    rcases List.mem_append.mp hq with hq | hq
    · exact other (hpre q hq) (List.mem_append_left _ hq)
    · rcases List.mem_cons.mp hq with rfl | hq
      · exact ⟨hl', hl.2⟩
      · exact other (hpost q hq) (List.mem_append_right _ (.tail _ hq))
end
theorem fits_small {i : Int} (h : -(2 ^ 62) ≤ i) (h2 : i < 2 ^ 62) : fitsSsize i = true := by
  unfold fitsSsize
  rw [decide_eq_false (by lia), decide_eq_false (by lia)]; rfl
/-- every sign is of p -/
def Signs (p : Nat → Prop) (x : Str) : Prop := ∀ c ∈ x.cps.toList, p c
theorem signs_slice {p : Nat → Prop} {x : Str} (h : Signs p x) (l u : Option Int) : Signs p (Txt.slice x l u) := by
  unfold Txt.slice
  split
  · exact h
  · intro c hc
    simp only [List.mem_filterMap] at hc
    obtain ⟨i, _, hi⟩ := hc
    exact h c (by
      obtain ⟨hlt, e⟩ := Array.getElem?_eq_some_iff.mp hi
      rw [← e]
      exact Array.mem_toList_iff.mpr (Array.getElem_mem hlt))
theorem signs_append {p : Nat → Prop} {x y : Str} (h : Signs p x) (h2 : Signs p y) : Signs p (x ++ y) := by
  intro c hc
  rw [Str.cps_append, Array.toList_append] at hc
  rcases List.mem_append.mp hc with hc | hc
  · exact h c hc
  · exact h2 c hc
theorem signs_empty {p : Nat → Prop} : Signs p (Str.ofString "") := fun c hc => by
  have : (Str.ofString "").cps.toList = [] := by decide +kernel
  rw [this] at hc
  cases hc
theorem signs_item {p : Nat → Prop} {x : Str} (h : Signs p x) {i : Int} (h0 : 0 ≤ i) (h1 : i < x.length) : Signs p (Txt.item x i) := by
  intro c hc
  have hs := charAt_isSome (x := x) (i := i) (by lia) h1
  unfold Txt.item at hc
  obtain ⟨d, hd⟩ := Option.isSome_iff_exists.mp hs
  rw [hd] at hc
  simp only [Option.getD_some, List.mem_cons, List.not_mem_nil, or_false] at hc
  subst hc
  unfold Txt.charAt at hd
  obtain ⟨j, _, hj⟩ := Option.bind_eq_some_iff.mp hd
  obtain ⟨hlt, e⟩ := Array.getElem?_eq_some_iff.mp hj
  exact h c (by rw [← e]; exact Array.mem_toList_iff.mpr (Array.getElem_mem hlt))
/-- what _law_bent answers -/
def BentP (x sg y : Str) : Prop := y.length ≤ 2 * x.length + 1 ∧ ∀ p : Nat → Prop, Signs p x → Signs p sg → Signs p y
abbrev BentG (l : Addr) (x sg : Str) (j : Int) : Heap → List Env → Heap → Shared → (Result → Shared → Prop) → Prop := fun _ _ g s R =>
  ∀ (y : Str) (a' b' c' : Int) (ta tb tc t : Tok) (ep : Nat) (h' : Heap) (tk' : Nat), g.StaysIn h' → h'.get? l = some (W.listOf #[.int a' ta, .int b' tb, .int c' tc] ep) → PenOk a' b' c' (j + 3) → BentP x sg y → R (.ok (.ret (.str y t))) { s with heap := h', toks := tk' }
end Mine
end
section
theorem Mine.none_Oct : True := by
  k_with_none
  w_top off
  trivial
set_option maxRecDepth 100000
open PySem PySem.W PySem.Calls PyProof.Rows PySem.SeqAt
namespace Mine
section
variable {prog : Program} {w : World} {A : Around} {E : Value → Shared → Prop} {s : Shared}
theorem item_fig {value slice : PySem.Expr} {x : Str} {t u : Tok} {n : Int} {Q : Value → Shared → Prop} (hx : x.length = 16) (h : ∀ t' k, Q (.str (Txt.item x (n % 16)) t') { s with toks := k })
    (hs : subscripted slice false (.str x t) (.int (n % 16) u) = operate [.str x t, .int (n % 16) u] (getItem (.str x t) (.int (n % 16) u)) := by with_unfolding_all rfl)
    (ht : ∀ r, letTemporaryGo value (.str x t) r = pure () := by intro _; with_unfolding_all rfl) :
    wpAny (model prog w) A (subscriptTail value slice (.str x t) (.int (Builtin.bitAnd n 15) u)) Q E s := by
  rw [bitAnd_m4]
  have h1 := Int.emod_nonneg n (b := 16) (by decide)
  have h2 := Int.emod_lt_of_pos n (b := 16) (by decide)
  exact item_str (fits_small (by lia) (by lia)) (by lia) (by lia) (fun _ => h _ _) hs ht
theorem shr4 {n : Int} {t u : Tok} {Q : Value → Shared → Prop} (h : ∀ t' k, Q (.int (n / 16) t') { s with toks := k }) : wpAny (model prog w) A (binaryOp .RShift (.int n t) (.int 4 u)) Q E s := by
  refine rshift_int (by decide) ?_
  have e : n.fdiv (2 ^ (4 : Int).toNat) = n / 16 := Int.fdiv_eq_ediv_of_nonneg _ (by decide)
  rw [e]
  exact h _ _
theorem len_one {f : Str} {a : Int} {t : Tok} {Q : Value → Shared → Prop} (h : ∀ t' k, Q (.int 1 t') { s with toks := k }) : wpAny (model prog w) A (call (.builtin "len") [.str (Txt.item f a ++ Str.ofString "") t]) Q E s := by
  have e : (Txt.item f a ++ Str.ofString "").length = 1 := by rw [Str.length_append, len_item]; decide
  refine len_str (by rw [e]; decide) ?_
  rw [e]
  exact h _ _
theorem len_two {f : Str} {a b : Int} {t : Tok} {Q : Value → Shared → Prop} (h : ∀ t' k, Q (.int 2 t') { s with toks := k }) : wpAny (model prog w) A (call (.builtin "len") [.str (Txt.item f a ++ (Txt.item f b ++ Str.ofString "")) t]) Q E s := by
  have e : (Txt.item f a ++ (Txt.item f b ++ Str.ofString "")).length = 2 := by rw [Str.length_append, Str.length_append, len_item, len_item]; decide
  refine len_str (by rw [e]; decide) ?_
  rw [e]
  exact h _ _
end
end Mine
end
section
open PySem PySem.W PySem.Calls PyProof.Rows
namespace Mine
theorem rows_C9_1 : True := by
  k_with_none
  k_with "m:on" => skip
  k_with "m:klt" => (intro l0; replace l0 := allLt_of l0; dsimp only [AllLt] at l0; (repeat (have := And.left l0; replace l0 := And.right l0)); revert l0)
  k_with "m:ktr_room" => k_dflt (first | exact rm1 (by with_reducible assumption) rfl | exact rm2 (by with_reducible assumption) rfl | exact rm3 (by with_reducible assumption) rfl)
  k_with "m:ktr_units" => k_dflt (first | exact un0 (by with_reducible assumption) rfl | exact un1 (by with_reducible assumption) rfl | exact un2 (by with_reducible assumption) rfl | exact un3 (by with_reducible assumption) rfl)
  k_with "m:k_ne" => (refine neN ?_; (try dsimp only); first | with_reducible assumption | exact Ne.symm (by with_reducible assumption) | exact Nat.ne_of_lt (by with_reducible assumption) | exact Nat.ne_of_gt (by with_reducible assumption) | lia)
  k_with "m:cell_enter" => (refine' enterGC ?zk1_C9r1 ?zk2_C9r1 ?zk3_C9r1 ?zk4_C9r1 ?zk5_C9r1 ?zk6_C9r1 ?zk7_C9r1 ?zk8_C9r1 ?zk9_C9r1 ?zkB_C9r1 ?zkD_C9r1 ?_ ?zc2_C9r1 ?zc3_C9r1 ?zc4_C9r1; (case zk1_C9r1 => k_asm); (case zk2_C9r1 => k_asm); (case zk3_C9r1 => k_asm); (case zk4_C9r1 => k_asm); (case zk5_C9r1 => k_asm); (case zk6_C9r1 => k_is); (case zk7_C9r1 => k_is); (case zk8_C9r1 => lia); (case zk9_C9r1 => first | exact BindsTo.of_eq rfl | exact binds_K (by k_in) rfl (by k_is) rfl rfl rfl); (case zkB_C9r1 => exact rfl); (case zkD_C9r1 => decide +kernel); (case zc2_C9r1 => exact rfl); (case zc3_C9r1 => exact rfl); (case zc4_C9r1 => exact rfl); k_whole; intro L' h' tk' cells' F' N' Y' l1; (try k_lt l1); k_cells Y'; (try simp only [List.cons_append, List.nil_append, List.append_nil] at N'); (try dsimp only); (try k_fold))
  k_with "m:cell_enter" => (first | (refine' enterG ?zk1_C9r2 ?zk2_C9r2 ?zk3_C9r2 ?zk4_C9r2 ?zk5_C9r2 ?zk6_C9r2 ?zk7_C9r2 ?zk8_C9r2 ?zk9_C9r2 ?zkB_C9r2 ?_ ?zc2_C9r2 ?zc3_C9r2 ?zc4_C9r2 ?zc5_C9r2; (case zk1_C9r2 => k_asm); (case zk2_C9r2 => k_asm); (case zk3_C9r2 => k_asm); (case zk4_C9r2 => k_asm); (case zk5_C9r2 => k_asm); (case zk6_C9r2 => k_is); (case zk7_C9r2 => k_is); (case zk8_C9r2 => lia); (case zk9_C9r2 => first | exact BindsTo.of_eq rfl | exact binds_K (by k_in) rfl (by k_is) rfl rfl rfl); (case zc5_C9r2 => decide); (case zkB_C9r2 => exact locs rfl); (case zc2_C9r2 => exact rfl); (case zc3_C9r2 => exact rfl); (case zc4_C9r2 => exact rfl); k_whole; intro L' h' F' N' l1; (try k_lt l1); (try dsimp only); (try k_fold)) | fail)
  k_with "m:exec Raise some none" => (k_here; (with_reducible show wpAny _ _ (exec (Stmt.Raise (some (Expr.Call (Expr.Name _ _) _ _ _)) none _) _) _ _ _); k_dflt (refine Raise_mint (by exact rfl) ?_))
  k_with "m:call ref" => (k_here; (with_reducible show wpAny _ _ (call (Value.ref _) [Value.str _ _]) (RaisedO _) _ _); k_dflt (refine' mint_callN PySem.F.excBase_Exception ?zX_C9r4 ?zF_C9r4 ?zN_C9r4 ?zC_C9r4 ?zi_C9r4 ?zf_C9r4 ?zc_C9r4 ?_; (case zX_C9r4 => k_asm); (case zF_C9r4 => k_asm); (case zN_C9r4 => k_asm); (case zC_C9r4 => k_is); (case zi_C9r4 => k_is); (case zf_C9r4 => k_is); (case zc_C9r4 => rfl); k_whole); intro e' t' h' F' N' l1 l2; (try k_lt l1); (try k_lt2 l2); k_dflt (refine wpAny_call ?_; k_enter))
  k_with "m:getMethod type:Exception" => (k_here; refine' method_type ?zF_C9r5 ?zX_C9r5 ?zm_C9r5 (by decide +kernel) ?ze_C9r5 ?zh_C9r5 ?_; (case zF_C9r5 => k_asm); (case zX_C9r5 => k_asm); (case zm_C9r5 => exact meta_Exception); (case ze_C9r5 => k_dflt k_is); (case zh_C9r5 => k_handed))
  k_with "m:call builtin:Exception.__init__" => (k_here; k_dflt (refine' exc_initN' PySem.F.excBase_Exception ?zC_C9r6 ?zF_C9r6 ?zN_C9r6 ?zh2_C9r6 ?_; (case zF_C9r6 => k_asm); (case zN_C9r6 => k_asm); (case zC_C9r6 => exact Frag.In.keeps (by k_asm) (Fr.keep (by k_asm)) _ _ (by k_is)); (case zh2_C9r6 => k_all); k_whole); intro D' h' F' N' l1; (try simp only [List.nil_append] at F' N' l1); (try k_lt l1))
  k_with "m:setAttr ref" => (k_here; k_dflt (refine' exc_set2 ?zF_C9r7 ?zX_C9r7 ?zN_C9r7 ?ze_C9r7 ?zU_C9r7 ?zs_C9r7 ?zc_C9r7 ?zm_C9r7 ?zd_C9r7 ?zt_C9r7 ?zn_C9r7 ?zq_C9r7 ?zz_C9r7 ?_; (case zF_C9r7 => k_asm); (case zX_C9r7 => k_asm); (case zN_C9r7 => k_asm); (case ze_C9r7 => k_mem); (case zU_C9r7 => k_upd); (case zs_C9r7 => k_is); (case zc_C9r7 => k_is); (case zm_C9r7 => rfl); (case zd_C9r7 => rfl); (case zt_C9r7 => k_is); (case zn_C9r7 => rfl); (case zq_C9r7 => rfl); (case zz_C9r7 => exact Nat.le_of_ble_eq_true rfl); k_whole); intro h' tk' F' N')
  k_with "m:setAttr ref" => (k_here; k_dflt (refine' exc_set1' ?zF_C9r8 ?zX_C9r8 ?zN_C9r8 ?zh1_C9r8 ?zh2_C9r8 ?zs_C9r8 ?zc_C9r8 ?zm_C9r8 ?zd_C9r8 ?zt_C9r8 ?_; (case zF_C9r8 => k_asm); (case zX_C9r8 => k_asm); (case zN_C9r8 => k_asm); (case zh1_C9r8 => k_ne); (case zh2_C9r8 => k_all); (case zs_C9r8 => k_is); (case zc_C9r8 => k_is); (case zm_C9r8 => rfl); (case zd_C9r8 => rfl); (case zt_C9r8 => k_is); k_whole); intro D' h' tk' F' N' l1; (try simp only [List.cons_append, List.nil_append] at F' N' l1); (try k_lt l1))
  k_with "m:RaisedO" => (k_dflt (refine' raisedO_of ?zX_C9r9 ?zF_C9r9 ?zN_C9r9 ?ze_C9r9 ?zC_C9r9 ?zb_C9r9 ?_; (case zX_C9r9 => k_asm); (case zF_C9r9 => k_asm); (case zN_C9r9 => k_asm); (case ze_C9r9 => k_mem); (case zC_C9r9 => k_is); (case zb_C9r9 => rfl); k_whole))
  k_with "m:leaving ref" => (k_here; k_dflt (refine' leave_mint4 ?zK_C9r10 ?zF_C9r10 ?zN_C9r10 ?zh1_C9r10 ?zh2_C9r10 ?_; (case zK_C9r10 => k_asm); (case zF_C9r10 => k_asm); (case zN_C9r10 => k_asm); (case zh1_C9r10 => k_all); (case zh2_C9r10 => k_all); k_whole); intro h' R' RK' U'; (try dsimp only at R' RK' U' ⊢))
  k_with "m:exec While BoolOp" => (k_here; k_dflt (refine whl_start 100 ?_))
  k_with "m:subscriptTail Name BinOp str int" => (k_here; k_dflt (refine' item_fig ?zx_C9r12 ?_ ?zs_C9r12 ?zt_C9r12; (case zx_C9r12 => rfl); (case zs_C9r12 => with_unfolding_all rfl); (case zt_C9r12 => (intro _; with_unfolding_all rfl)); k_whole; intro t' k'))
  k_with "m:binaryOp RShift int int" => (k_here; k_dflt (refine' shr4 ?_); intro t' k')
  k_with "m:call builtin:len" => (k_here; k_dflt (first | refine' len_two ?_ | refine' len_one ?_); intro t' k')
  trivial

/-- the two figures of an octet -/
def figs (n : Int) : Str := Txt.item (Str.ofString "0123456789abcdef") (n / 16 % 16) ++ (Txt.item (Str.ofString "0123456789abcdef") (n % 16) ++ Str.ofString "")
set_option maxRecDepth 100000 in
set_option maxHeartbeats 2000000 in
theorem figs_ok (w : World) (n : Int) (h0 : 0 ≤ n) (h1 : n < 256) (t t2 : Tok) : Pure w 2 80 [.int n t, .int 2 t2] (fun v ns => ns = [] ∧ ∃ t', v = .str (figs n) t') := by
  w_top off
  dsimp only [FnG, Pure]; k_fill; intros; rename_i hret
  cell_enter
  k_steps
  all_goals (try dsimp only)
  all_goals exact hret _ _ _ _ (Fr.keep (by assumption)) New.nil ⟨rfl, _, rfl⟩

end Mine
end
section
theorem Mine.none_Comp : True := by
  k_with_none
  w_top off
  trivial
set_option maxRecDepth 100000
open PySem PySem.W PySem.Calls PyProof.Rows PyProof.Rows.LCg PyProof.Rows.LCt
namespace Mine
section
variable {prog : Program} {w : World} {A : Around} {E : Value → Shared → Prop} {s : Shared} {h₀ : Heap} {L : Addr} {m : Str → Option Value} {env : Env}
theorem off1_mem {D : Addr} {l : List (Addr × Obj)} (h : Off1 D l) : ∀ p ∈ l, p.1 ≠ D := by
  induction l with
  | nil => exact fun _ hp => nomatch hp
  | cons q r ih =>
    intro p hp
    rcases List.mem_cons.mp hp with rfl | hp
    · exact h.1
    · exact ih h.2 p hp
/-- what a comprehension runs over: any iterable whose iterator is one object -/
def SrcOf (prog : Program) (w : World) (A : Around) (h₀ : Heap) (L : Addr) (m : Str → Option Value) (CR : Shared → (List (Addr × Obj) → Prop) → (Nat → Value → Prop) → Nat → List (Addr × Obj) → Prop) (xv : Value) (s₁ : Shared) : Prop :=
  ∃ (n : Nat) (P : Nat → Value → Prop) (S : List (Addr × Obj) → Prop) (news : List (Addr × Obj)), n ≤ sizeLine ∧ Fr h₀ L s₁.heap m ∧ News h₀ L s₁.heap news ∧ S news ∧
    (∀ (Q : Value → Shared → Prop) (E : Value → Shared → Prop), (∀ (o : Obj) (fp : List Addr) (St : Nat → Heap → Prop), Walks prog w A s₁.heap.objs.size fp [s₁.heap.objs.size] n P St →
      (∀ i h, St i h → ∃ o, h.get? s₁.heap.objs.size = some o) →
      (∀ i h h' o nw, St i h → h.get? s₁.heap.objs.size = some o → h'.get? s₁.heap.objs.size = some o → (∀ b o, h₀.get? b = some o → h'.get? b = some o) → News h₀ L h' nw → S nw → St i h') →
      St 0 (s₁.heap.push o) → (∀ b ∈ fp, b < s₁.heap.objs.size + 1) → Q (.ref s₁.heap.objs.size) { s₁ with heap := s₁.heap.push o }) → wpAny (model prog w) A (pyIter xv) Q E s₁) ∧
    ∀ s₂ : Shared, (∃ h, s₂ = { s₁ with heap := h }) → CR s₂ S P n news
def SrcU (prog : Program) (w : World) (A : Around) (h₀ : Heap) (L : Addr) (m : Str → Option Value) (env : Env) (elt : PySem.Expr) (x : Str) (scope : Scope) (cl : List (Str × Addr)) (Fin : Shared → List Value → List (Addr × Obj) → Prop) : Value → Shared → Prop :=
  SrcOf prog w A h₀ L m fun s₂ S P n news => CompRest prog w A h₀ L m env elt x scope cl s₂ S P (Fin s₂) n 0 [] news
def SrcT (prog : Program) (w : World) (A : Around) (h₀ : Heap) (L : Addr) (m : Str → Option Value) (env : Env) (ct elt : PySem.Expr) (x : Str) (scope : Scope) (cl : List (Str × Addr)) (Fin : Shared → List Value → List (Addr × Obj) → Prop) : Value → Shared → Prop :=
  SrcOf prog w A h₀ L m fun s₂ S P n news => CompRestT prog w A h₀ L m env ct elt x scope cl s₂ S P (Fin s₂) n 0 [] news

theorem SrcOf.text {CR : Shared → (List (Addr × Obj) → Prop) → (Nat → Value → Prop) → Nat → List (Addr × Obj) → Prop} {tx : Str} {t : Tok} {news : List (Addr × Obj)} {s₁ : Shared} (hh : A.handled = none) (F : Fr h₀ L s₁.heap m) (N : News h₀ L s₁.heap news) (hz : tx.cps.size ≤ sizeLine)
    (h : ∀ g, CR { s₁ with heap := g } (fun _ => True) (SignAt tx) tx.cps.size news) : SrcOf prog w A h₀ L m CR (.str tx t) s₁ := by
  refine ⟨_, SignAt tx, fun _ => True, news, hz, F, N, trivial, fun Q E hQ => ?_, fun _ ⟨g, e⟩ => e ▸ h g⟩
  cases ha : tx.cps.all (· < 128)
  · refine wpAny_pyIter_wide ha (hQ _ _ _ (Walks.strWide hh _ tx t) (fun i h st => let ⟨o, e, _⟩ := st; ⟨o, e⟩) (fun i h h' o nw st e e' _ _ _ => ?_) ⟨_, Heap.get?_push_size _ rfl, rfl, rfl⟩ fun b hb => ?_)
    · obtain ⟨o', q, r⟩ := st; rw [e] at q; cases q; exact ⟨o, e', r⟩
    · rw [List.mem_singleton.mp hb]; exact Nat.lt_succ_self _
  · refine wpAny_pyIter_ascii ha (hQ _ _ _ (Walks.strAscii hh _ tx t) (fun i h st => let ⟨o, e, _⟩ := st; ⟨o, e⟩) (fun i h h' o nw st e e' _ _ _ => ?_) ⟨_, Heap.get?_push_size _ rfl, rfl, rfl⟩ fun b hb => ?_)
    · obtain ⟨o', q, r⟩ := st; rw [e] at q; cases q; exact ⟨o, e', r⟩
    · rw [List.mem_singleton.mp hb]; exact Nat.lt_succ_self _
theorem SrcOf.bytes {CR : Shared → (List (Addr × Obj) → Prop) → (Nat → Value → Prop) → Nat → List (Addr × Obj) → Prop} {b : Array UInt8} {t : Tok} {news : List (Addr × Obj)} {s₁ : Shared} (hh : A.handled = none) (F : Fr h₀ L s₁.heap m) (N : News h₀ L s₁.heap news) (hz : b.size ≤ sizeLine)
    (h : ∀ g, CR { s₁ with heap := g } (fun _ => True) (fun i v => ∃ c u, b[i]? = some c ∧ v = .int (c.toNat : Int) u) b.size news) : SrcOf prog w A h₀ L m CR (.bytes b t) s₁ := by
  refine ⟨_, _, fun _ => True, news, hz, F, N, trivial, fun Q E hQ => ?_, fun _ ⟨g, e⟩ => e ▸ h g⟩
  refine KBw.pyIter_bytes (hQ _ _ _ (KBw.walks hh _ b t) (fun i h st => let ⟨o, e, _⟩ := st; ⟨o, e⟩) (fun i h h' o nw st e e' _ _ _ => ?_) ⟨_, Heap.get?_push_size _ rfl, rfl, rfl⟩ fun b hb => ?_)
  · obtain ⟨o', q, r⟩ := st; rw [e] at q; cases q; exact ⟨o, e', r⟩
  · rw [List.mem_singleton.mp hb]; exact Nat.lt_succ_self _
theorem SrcOf.list {CR : Shared → (List (Addr × Obj) → Prop) → (Nat → Value → Prop) → Nat → List (Addr × Obj) → Prop} {ax : Addr} {its : Array Value} {k : Nat} {news : List (Addr × Obj)} {s₁ : Shared} (hh : A.handled = none) (F : Fr h₀ L s₁.heap m) (N : News h₀ L s₁.heap news)
    (hm : (ax, ({ cls := .type "list", data := .seq its k } : Obj)) ∈ news) (hz : its.size ≤ sizeLine)
    (h : ∀ g, CR { s₁ with heap := g } (SrcAt h₀ ax its) (fun i v => its[i]? = some v) its.size news) : SrcOf prog w A h₀ L m CR (.ref ax) s₁ := by
  have S : SrcAt h₀ ax its news := .inr ⟨_, hm, rfl, _, rfl⟩
  have hl := S.list F.keep N
  have hlt : ax < s₁.heap.objs.size := by obtain ⟨_, e, _⟩ := hl; exact Heap.lt_size e
  refine ⟨_, _, SrcAt h₀ ax its, news, hz, F, N, S, fun Q E hQ => ?_, fun _ ⟨g, e⟩ => e ▸ h g⟩
  refine wpAny_pyIter_list hl (hQ _ _ _ (Walks.list hh s₁.heap.objs.size ax (Nat.ne_of_lt hlt) its) (fun i h st => by obtain ⟨o, e, _⟩ := st.1; exact ⟨o, e⟩) list_st ⟨⟨_, Heap.get?_push_size _ rfl, rfl, rfl⟩, hl.push _⟩ fun b hb => ?_)
  rcases List.mem_cons.mp hb with rfl | hb
  · exact Nat.lt_succ_self _
  · rw [List.mem_singleton.mp hb]; exact Nat.lt_succ_of_lt hlt
/-- a tuple of the ground or of the ledger -/
def TupAt (h₀ : Heap) (ax : Addr) (its : Array Value) (news : List (Addr × Obj)) : Prop := h₀.IsTuple ax its ∨ ∃ o, (ax, o) ∈ news ∧ o.cls = .type "tuple" ∧ ∃ n, o.data = .seq its n
theorem TupAt.tup {h : Heap} {ax : Addr} {its : Array Value} {news : List (Addr × Obj)} (x : TupAt h₀ ax its news) (k : ∀ b o, h₀.get? b = some o → h.get? b = some o) (N : News h₀ L h news) : h.IsTuple ax its := by
  rcases x with ⟨o, e, r⟩ | ⟨o, hm, hc, n, hd⟩
  · exact ⟨o, k _ _ e, r⟩
  · exact ⟨o, (N _ hm).1, hc, n, hd⟩
theorem SrcOf.tup {CR : Shared → (List (Addr × Obj) → Prop) → (Nat → Value → Prop) → Nat → List (Addr × Obj) → Prop} {ax : Addr} {its : Array Value} {news : List (Addr × Obj)} {s₁ : Shared} (hh : A.handled = none) (F : Fr h₀ L s₁.heap m) (N : News h₀ L s₁.heap news)
    (S : TupAt h₀ ax its news) (hz : its.size ≤ sizeLine)
    (h : ∀ g, CR { s₁ with heap := g } (TupAt h₀ ax its) (fun i v => its[i]? = some v) its.size news) : SrcOf prog w A h₀ L m CR (.ref ax) s₁ := by
  have hl := S.tup F.keep N
  have hlt : ax < s₁.heap.objs.size := by obtain ⟨_, e, _⟩ := hl; exact Heap.lt_size e
  refine ⟨_, _, TupAt h₀ ax its, news, hz, F, N, S, fun Q E hQ => ?_, fun _ ⟨g, e⟩ => e ▸ h g⟩
  refine wpAny_pyIter_tuple hl (hQ _ _ _ (Walks.tuple hh s₁.heap.objs.size ax (Nat.ne_of_lt hlt) its) (fun i h st => by obtain ⟨o, e, _⟩ := st.1; exact ⟨o, e⟩) (fun i h h' o nw st e e' k N S => ⟨by obtain ⟨o', q, r⟩ := st.1; rw [e] at q; cases q; exact ⟨o, e', r⟩, S.tup k N⟩) ⟨⟨_, Heap.get?_push_size _ rfl, rfl, rfl⟩, hl.at fun o e => Heap.get?_push_of_some _ e⟩ fun b hb => ?_)
  rcases List.mem_cons.mp hb with rfl | hb
  · exact Nat.lt_succ_self _
  · rw [List.mem_singleton.mp hb]; exact Nat.lt_succ_of_lt hlt
theorem SrcOf.range {CR : Shared → (List (Addr × Obj) → Prop) → (Nat → Value → Prop) → Nat → List (Addr × Obj) → Prop} {r : Addr} {a b c : Int} {t u v : Tok} {n : Nat} {news : List (Addr × Obj)} {s₁ : Shared} (hh : A.handled = none) (F : Fr h₀ L s₁.heap m) (N : News h₀ L s₁.heap news)
    (hr : IsRange s₁.heap r a b c t u v) (hsm : Builtin.Range.small a b c = true) (hn : Builtin.Range.rangeSize a b c = ((n : Nat) : Int)) (hz : n ≤ sizeLine)
    (h : ∀ g, CR { s₁ with heap := g } (fun _ => True) (fun i v => ∃ t, v = .int (a + (i : Int) * c) t) n news) : SrcOf prog w A h₀ L m CR (.ref r) s₁ := by
  refine ⟨_, _, fun _ => True, news, hz, F, N, trivial, fun Q E hQ => ?_, fun _ ⟨g, e⟩ => e ▸ h g⟩
  refine wpAny_pyIter_range hr hsm (hQ _ _ _ (Walks.range hh _ a c n) (fun i h st => ⟨_, st⟩) (fun i h h' o nw st e e' _ _ _ => ?_) (by show IsRangeIter _ _ _ _ _; rw [hn]; simpa using Heap.get?_push_size _ rfl) fun b hb => ?_)
  · have st' : h.get? _ = some _ := st
    show h'.get? _ = some _
    rw [e', ← e]; exact st'
  · rw [List.mem_singleton.mp hb]; exact Nat.lt_succ_self _

/-- what holds when a comprehension's list goes into a cell -/
def FinC (h₀ : Heap) (L : Addr) (m : Str → Option Value) (s : Shared) (c : Addr) (Q : Flow → Shared → Prop) (ys : List Value) (news : List (Addr × Obj)) : Prop :=
  ∃ oc v f, UpdF c oc news f ∧ oc.data = .cell v ∧ ∀ D h tk o', o'.data = .cell (some (.ref D)) → Fr h₀ L h m → News h₀ L h ((D, lst ys) :: f o') → Off1 D news → Q .next { s with heap := h, toks := tk }
end
section
variable {prog : Program} {w : World} {A : Around} {E : Value → Shared → Prop} {s : Shared} {h₀ : Heap} {L : Addr} {m : Str → Option Value} {env : Env}
theorem comp_evalU {elt iter : PySem.Expr} {x : Str} {px : Pos} {scope : Scope} {cl : List (Str × Addr)} {pos : Pos} {Q : Value → Shared → Prop} (_F₀ : Fr h₀ L s.heap m)
    (hclos : closureFor scope env = pure cl) (hcell : ∀ y ∈ scope.names, y.2 ≠ .cell) (hkind : scope.kind = .function)
    (hnames : ∀ y ∈ scope.names, y.2 = .local → scope.names.lookup y.1 = some .local) (hx : scope.names.lookup x = some .local)
    (h : wpAny (model prog w) A (eval iter env) (SrcU prog w A h₀ L m env elt x scope cl (fun s₂ => FinE h₀ L m s₂ Q)) E s)
    (hs : ∀ x, foldedSetIterable iter env x = pure x := by intro _; rfl) :
    wpAny (model prog w) A (eval (.ListComp elt [⟨.Name x px, iter, [], 0⟩] scope pos) env) Q E s := by
  rw [eval_ListComp]
  refine wpAny_comprehension_free (use := none) rfl hs hclos hkind hnames (wpAny_mono h (fun xv s₁ h₁ => ?_) fun _ _ e => e)
  obtain ⟨n, P, S, news, hz, F, N, hS, it, R⟩ := h₁
  refine it _ _ fun o fp St W hIo hSt h0 hfp => ?_
  refine block_U W hz hIo hSt hcell hkind hx h0 (fun b hb => by show b < (s₁.heap.push _).objs.size; rw [Heap.size_push]; exact hfp b hb)
    (F.keeps fun _ _ e => Heap.get?_push_of_some _ e) (N.grown fun _ _ e => Heap.get?_push_of_some _ e) (Nat.ne_of_lt F.ns.lt) (next_is_new F) (fun p hp => Nat.ne_of_lt (Heap.lt_size (N p hp).1)) hS (R _ ⟨_, rfl⟩) ?_
  intro D C h tk m' ys news' F' N' o1 hn hC₀ hD₀ hCL hDL hCD offC fin
  refine ⟨m', hn, fun h'' hs'' => fin D h'' tk (F'.change hs'' hCL hC₀) (fun p hp => ?_) o1⟩
  refine ⟨hs''.extBut _ _ ?_ (N' p hp).1, (N' p hp).2⟩
  rcases List.mem_cons.mp hp with rfl | hp
  · exact Ne.symm hCD
  · exact offC p hp
theorem comp_evalT {ct elt iter : PySem.Expr} {x : Str} {px : Pos} {scope : Scope} {cl : List (Str × Addr)} {pos : Pos} {Q : Value → Shared → Prop} (_F₀ : Fr h₀ L s.heap m)
    (hclos : closureFor scope env = pure cl) (hcell : ∀ y ∈ scope.names, y.2 ≠ .cell) (hkind : scope.kind = .function)
    (hnames : ∀ y ∈ scope.names, y.2 = .local → scope.names.lookup y.1 = some .local) (hx : scope.names.lookup x = some .local)
    (h : wpAny (model prog w) A (eval iter env) (SrcT prog w A h₀ L m env ct elt x scope cl (fun s₂ => FinE h₀ L m s₂ Q)) E s)
    (hs : ∀ x, foldedSetIterable iter env x = pure x := by intro _; rfl) :
    wpAny (model prog w) A (eval (.ListComp elt [⟨.Name x px, iter, [ct], 0⟩] scope pos) env) Q E s := by
  rw [eval_ListComp]
  refine wpAny_comprehension_free (use := none) rfl hs hclos hkind hnames (wpAny_mono h (fun xv s₁ h₁ => ?_) fun _ _ e => e)
  obtain ⟨n, P, S, news, hz, F, N, hS, it, R⟩ := h₁
  refine it _ _ fun o fp St W hIo hSt h0 hfp => ?_
  refine block_T W hz hIo hSt hcell hkind hx h0 (fun b hb => by show b < (s₁.heap.push _).objs.size; rw [Heap.size_push]; exact hfp b hb)
    (F.keeps fun _ _ e => Heap.get?_push_of_some _ e) (N.grown fun _ _ e => Heap.get?_push_of_some _ e) (Nat.ne_of_lt F.ns.lt) (next_is_new F) (fun p hp => Nat.ne_of_lt (Heap.lt_size (N p hp).1)) hS (R _ ⟨_, rfl⟩) ?_
  intro D C h tk m' ys news' F' N' o1 hn hC₀ hD₀ hCL hDL hCD offC fin
  refine ⟨m', hn, fun h'' hs'' => fin D h'' tk (F'.change hs'' hCL hC₀) (fun p hp => ?_) o1⟩
  refine ⟨hs''.extBut _ _ ?_ (N' p hp).1, (N' p hp).2⟩
  rcases List.mem_cons.mp hp with rfl | hp
  · exact Ne.symm hCD
  · exact offC p hp
theorem comp_assT {ct elt iter : PySem.Expr} {x y : Str} {px py : Pos} {scope : Scope} {cl : List (Str × Addr)} {pos spos : Pos} {Q : Flow → Shared → Prop} (_F₀ : Fr h₀ L s.heap m) (hLe : env.locals = L)
    (hsw : swapsWith (.ListComp elt [⟨.Name x px, iter, [ct], 0⟩] scope pos) (some (.Name y py)) spos.line env = pure true)
    (hclos : closureFor scope env = pure cl) (hcell : ∀ z ∈ scope.names, z.2 ≠ .cell) (hkind : scope.kind = .function)
    (hnames : ∀ z ∈ scope.names, z.2 = .local → scope.names.lookup z.1 = some .local) (hx : scope.names.lookup x = some .local)
    (hy : env.kindOf y = some .local) (hp : (env.scope.kind == .class || (env.scope.kind == .module && env.locals != env.globals)) = false)
    (h : wpAny (model prog w) A (eval iter env) (SrcT prog w A h₀ L m env ct elt x scope cl (fun s₂ => FinA h₀ L m s₂ y Q)) E s)
    (hs : ∀ x, foldedSetIterable iter env x = pure x := by intro _; rfl) :
    wpAny (model prog w) A (exec (.Assign [.Name y py] (.ListComp elt [⟨.Name x px, iter, [ct], 0⟩] scope pos) spos) env) Q E s := by
  subst hLe
  rw [exec_Assign_Name_used _ _ _ _ hsw]
  refine wpAny_bind (wpAny_standAt (wpAny_bind ?_))
  show wpAny _ A (do let _ ← comprehension (.ListComp elt [⟨.Name x px, iter, [ct], 0⟩] scope pos) scope env _ (newList []) false (eval iter env) (some (assign (.Name y py) env))) _ _ s
  refine wpAny_bind (wpAny_mono (wpAny_comprehension_free (use := some (assign (.Name y py) env)) (Q := fun _ s' => Q .next s') rfl hs hclos hkind hnames
    (wpAny_mono h (fun xv s₁ h₁ => ?_) fun _ _ e => e)) (fun _ s' hq => wpAny_pure (wpAny_pure hq)) fun _ _ e => e)
  obtain ⟨n, P, S, news, hz, F, N, hS, it, R⟩ := h₁
  refine it _ _ fun o fp St W hIo hSt h0 hfp => ?_
  refine block_T W hz hIo hSt hcell hkind hx h0 (fun b hb => by show b < (s₁.heap.push _).objs.size; rw [Heap.size_push]; exact hfp b hb)
    (F.keeps fun _ _ e => Heap.get?_push_of_some _ e) (N.grown fun _ _ e => Heap.get?_push_of_some _ e) (Nat.ne_of_lt F.ns.lt) (next_is_new F) (fun p hp => Nat.ne_of_lt (Heap.lt_size (N p hp).1)) hS (R _ ⟨_, rfl⟩) ?_
  intro D C h' tk m' ys news' F' N' o1 hn hC₀ hD₀ hCL hDL hCD offC fin
  show wpAny _ A (assign (.Name y py) env (.ref D)) _ _ _
  refine wpAny_assign_Name (wpAny_storeName_local hy F'.ns (fun h₂ hn₂ hs₂ => ?_) hp)
  have hL₀ : h₀.get? env.locals = none := Heap.get?_none_of_le F'.above
  have F₂ : Fr h₀ env.locals h₂ (fun z => if z = y then some (.ref D) else m z) := ⟨hn₂, fun b o e => hs₂.extBut b o (fun q => by rw [q, hL₀] at e; cases e) (F'.keep b o e), F'.above⟩
  refine ⟨m', hn.sameBut hs₂ hCL, fun h'' hs'' => fin D h'' _ (F₂.change hs'' hCL hC₀) (fun p hp => ?_) o1⟩
  have z : h₂.get? p.1 = some p.2 := hs₂.extBut _ _ (N' p hp).2.1 (N' p hp).1
  refine ⟨hs''.extBut _ _ ?_ z, (N' p hp).2⟩
  rcases List.mem_cons.mp hp with rfl | hp
  · exact Ne.symm hCD
  · exact offC p hp
theorem comp_assC {elt iter : PySem.Expr} {x y : Str} {px py : Pos} {scope : Scope} {cl : List (Str × Addr)} {pos spos : Pos} {Q : Flow → Shared → Prop} {c : Addr} (_F₀ : Fr h₀ L s.heap m)
    (hsw : swapsWith (.ListComp elt [⟨.Name x px, iter, [], 0⟩] scope pos) (some (.Name y py)) spos.line env = pure true)
    (hclos : closureFor scope env = pure cl) (hcell : ∀ z ∈ scope.names, z.2 ≠ .cell) (hkind : scope.kind = .function)
    (hnames : ∀ z ∈ scope.names, z.2 = .local → scope.names.lookup z.1 = some .local) (hx : scope.names.lookup x = some .local)
    (hek : env.scope.kind = .function) (hy : env.kindOf y = some .cell) (hc : env.cells.lookup y = some c)
    (h : wpAny (model prog w) A (eval iter env) (SrcU prog w A h₀ L m env elt x scope cl (fun s₂ => FinC h₀ L m s₂ c Q)) E s)
    (hs : ∀ x, foldedSetIterable iter env x = pure x := by intro _; rfl) :
    wpAny (model prog w) A (exec (.Assign [.Name y py] (.ListComp elt [⟨.Name x px, iter, [], 0⟩] scope pos) spos) env) Q E s := by
  rw [exec_Assign_Name_used _ _ _ _ hsw]
  refine wpAny_bind (wpAny_standAt (wpAny_bind ?_))
  show wpAny _ A (do let _ ← comprehension (.ListComp elt [⟨.Name x px, iter, [], 0⟩] scope pos) scope env _ (newList []) false (eval iter env) (some (assign (.Name y py) env))) _ _ s
  refine wpAny_bind (wpAny_mono (wpAny_comprehension_free (use := some (assign (.Name y py) env)) (Q := fun _ s' => Q .next s') rfl hs hclos hkind hnames
    (wpAny_mono h (fun xv s₁ h₁ => ?_) fun _ _ e => e)) (fun _ s' hq => wpAny_pure (wpAny_pure hq)) fun _ _ e => e)
  obtain ⟨n, P, S, news, hz, F, N, hS, it, R⟩ := h₁
  refine it _ _ fun o fp St W hIo hSt h0 hfp => ?_
  refine block_U W hz hIo hSt hcell hkind hx h0 (fun b hb => by show b < (s₁.heap.push _).objs.size; rw [Heap.size_push]; exact hfp b hb)
    (F.keeps fun _ _ e => Heap.get?_push_of_some _ e) (N.grown fun _ _ e => Heap.get?_push_of_some _ e) (Nat.ne_of_lt F.ns.lt) (next_is_new F) (fun p hp => Nat.ne_of_lt (Heap.lt_size (N p hp).1)) hS (R _ ⟨_, rfl⟩) ?_
  intro D C h' tk m' ys news' F' N' o1 hn hC₀ hD₀ hCL hDL hCD offC fin
  obtain ⟨oc, v, f, U, hd, fin⟩ := fin
  show wpAny _ A (assign (.Name y py) env (.ref D)) _ _ _
  obtain ⟨pre, post, e1, hf, hpre, hpost⟩ := updF_split U
  subst e1
  have hcm : (c, oc) ∈ pre ++ (c, oc) :: post := List.mem_append_right _ (.head _)
  have hcN := N' _ (.tail _ hcm)
  have hCc : C ≠ c := Ne.symm (offC _ hcm)
  have hDc : D ≠ c := Ne.symm (off1_mem o1 _ hcm)
  refine wpAny_assign_Name (wpAny_storeName_cell hek hy hc ⟨oc, hcN.1, hd⟩ fun h₂ hv hs₂ => ?_)
  obtain ⟨o', ho', hd'⟩ := hv
  have F₂ : Fr h₀ L h₂ m := F'.change hs₂ hcN.2.1 hcN.2.2
  refine ⟨m', hn.sameBut hs₂ hCc, fun h'' hs'' => fin D h'' _ o' hd' (F₂.change hs'' hCL hC₀) (fun p hp => ?_) o1⟩
  have other : ∀ q ∈ (D, lst ys) :: (pre ++ (c, oc) :: post), q.1 ≠ c → h''.get? q.1 = some q.2 ∧ q.1 ≠ L ∧ h₀.get? q.1 = none := fun q hq hqc => by
    refine ⟨hs''.extBut _ _ ?_ (hs₂.extBut _ _ hqc (N' q hq).1), (N' q hq).2⟩
    rcases List.mem_cons.mp hq with rfl | hq
    · exact Ne.symm hCD
    · exact offC q hq
  rcases List.mem_cons.mp hp with rfl | hp
  · exact other _ (.head _) hDc
  rw [hf] at hp
  rcases List.mem_append.mp hp with hp | hp
  · exact other _ (.tail _ (List.mem_append_left _ hp)) (hpre p hp)
  · rcases List.mem_cons.mp hp with rfl | hp
    · exact ⟨hs''.extBut _ _ (Ne.symm hCc) ho', hcN.2⟩
    · exact other _ (.tail _ (List.mem_append_right _ (.tail _ hp))) (hpost p hp)
/-- a comprehension with a test by an invariant -/
theorem comp_JT {ct elt : PySem.Expr} {x : Str} {scope : Scope} {cl : List (Str × Addr)} {S : List (Addr × Obj) → Prop} {P : Nat → Value → Prop} {Fin : List Value → List (Addr × Obj) → Prop} {n : Nat} {news : List (Addr × Obj)} (J : Nat → List Value → List (Addr × Obj) → Prop)
    (turn : ∀ i ys news v I oI C oC D m₂ h tk (E' : Value → Shared → Prop), i < n → J i ys news → P i v → NsObj oC m₂ → m₂ x = some v → Fr h₀ L h m → News h₀ L h ((I, oI) :: (C, oC) :: (D, lst ys) :: news) → Off3 I C D news → ((@Ne Nat I C) ∧ (@Ne Nat I D) ∧ (@Ne Nat C D)) →
      wpAny (model prog w) A (isTrue ct (compEnvC scope cl C env) (eval ct (compEnvC scope cl C env))) (fun ok s' => if ok = true then
        wpAny (model prog w) A (eval elt (compEnvC scope cl C env)) (CompEnd h₀ L m { s with heap := h, toks := tk } I oI C oC D (lst ys) S (fun y news' => J (i + 1) (ys ++ [y]) news')) E' s'
        else CompEnd h₀ L m { s with heap := h, toks := tk } I oI C oC D (lst ys) S (fun _ news' => J (i + 1) ys news') Value.none s') E' { s with heap := h, toks := tk })
    (fin : ∀ ys news, J n ys news → Fin ys news) (h0 : J 0 [] news) : CompRestT prog w A h₀ L m env ct elt x scope cl s S P Fin n 0 [] news := by
  have key : ∀ (k i : Nat) (ys : List Value) (news : List (Addr × Obj)), k + i = n → J i ys news → CompRestT prog w A h₀ L m env ct elt x scope cl s S P Fin k i ys news := by
    intro k
    induction k with
    | zero => intro i ys news e hj; exact fin _ _ (by have : i = n := by lia
                                                      exact this ▸ hj)
    | succ k ih =>
      intro i ys news e hj
      refine CompRestT.succ ?_
      intro v I oI C oC D m₂ h tk E' hP hC hx F N off ne
      refine wpAny_mono (turn i ys news v I oI C oC D m₂ h tk E' (by lia) hj hP hC hx F N off ne) (fun ok s₂ hq => ?_) fun _ _ e => e
      cases ok with
      | true =>
        simp only [if_true] at hq ⊢
        refine wpAny_mono hq (fun y s₃ hq => ?_) fun _ _ e => e
        obtain ⟨h', tk', nw, e1, F', N', off', hS, hJ'⟩ := hq
        exact ⟨h', tk', nw, e1, F', N', off', hS, ih (i + 1) _ nw (by lia) hJ'⟩
      | false =>
        simp only [Bool.false_eq_true, if_false] at hq ⊢
        obtain ⟨h', tk', nw, e1, F', N', off', hS, hJ'⟩ := hq
        exact ⟨h', tk', nw, e1, F', N', off', hS, ih (i + 1) _ nw (by lia) hJ'⟩
  exact key n 0 [] news (by lia) h0
end
end Mine
end
section
theorem Mine.none_Loop : True := by
  k_with_none
  w_top off
  trivial
set_option maxRecDepth 100000
open PySem PySem.W PySem.Calls PyProof.Rows PySem.SeqAt
namespace Mine
/-- a mark: what holds of the frame between a loop's turns, and which objects (beside the loop's own) stand on the ledger -/
def UseInv (ns : List Int) (kl : List (Addr × Obj)) (C : List Int → (Str → Option Value) → Prop) : Prop := ns = ns ∧ kl = kl ∧ C = C
theorem UseInv.mk (ns : List Int) (kl : List (Addr × Obj)) (C : List Int → (Str → Option Value) → Prop) : UseInv ns kl C := ⟨rfl, rfl, rfl⟩
def TurnKeep (keep : List (Addr × Obj)) (C : (Str → Option Value) → Prop) (m' : Str → Option Value) (n' : List (Addr × Obj)) : Prop := n' = keep ∧ C m'
theorem subL_refl : ∀ (l all : List (Addr × Obj)), (∀ p ∈ l, p ∈ all) → SubL l all
  | [], _, _ => trivial
  | p :: r, all, h => ⟨h p (.head _), subL_refl r all fun q hq => h q (.tail _ hq)⟩

section
variable {prog : Program} {w : World} {A : Around} {E : Value → Shared → Prop} {s : Shared} {h₀ : Heap} {env : Env} {target : PySem.Expr} {body : List Stmt} {Q : Flow → Shared → Prop}

theorem turn_end {L I : Addr} {s₁ : Shared} {h' : Heap} {tk : Nat} {m' : Str → Option Value} {all keep : List (Addr × Obj)} {o : Obj} {C : (Str → Option Value) → Prop} (F : Fr h₀ L h' m') (N : News h₀ L h' all) (hs : SubL ((I, o) :: keep) all) (ho : ∀ p ∈ keep, p.1 ≠ I) (hc : C m') :
    UnrEndW h₀ L s₁ [(I, o)] (TurnKeep keep C) { s₁ with heap := h', toks := tk } :=
  ⟨h', tk, m', keep, rfl, F, fun p hp => N p (hs.mem p hp), fun p hp q hq => by rw [List.mem_singleton.mp hq]; exact ho p hp, rfl, hc⟩

theorem items_inv {I : Addr} {cls : String} {keep : List (Addr × Obj)} {C : List Int → (Str → Option Value) → Prop} {all : List Int} (hkI : ∀ p ∈ keep, p.1 < I)
    (turn : ∀ (pre : List Int) (n : Int) (post : List Int) (tn : Tok) (m : Str → Option Value) (h : Heap) (tk : Nat) (o : Obj), all = pre ++ n :: post → C pre m → o.cls = .type cls → Fr h₀ env.locals h m → News h₀ env.locals h ((I, o) :: keep) →
      wpAny (model prog w) A (assign target env (.int n tn)) (fun _ s₂ => wpAny (model prog w) A (execs body env) (UnrPostW h₀ env.locals { s with heap := h, toks := tk } [(I, o)] (TurnKeep keep (C (pre ++ [n]))) Q) E s₂) E { s with heap := h, toks := tk })
    (fin : ∀ (m : Str → Option Value) (h : Heap) (tk : Nat), C all m → Fr h₀ env.locals h m → News h₀ env.locals h keep → Q .next { s with heap := h, toks := tk })
    (k1 : List (Addr × Obj)) (hk1 : SubL k1 keep) :
    ∀ {vs : List Value} {post : List Int}, IntsAre vs post → ∀ (pre : List Int) (m : Str → Option Value), pre ++ post = all → C pre m →
      ItemsRest prog w A E h₀ env target body Q s [(I, cls)] k1 (vs.map .val) m keep := by
  intro vs0 post0 H0
  induction H0 with
  | nil => exact fun pre m e hC h tk F N => fin m h tk (by rw [← e, List.append_nil]; exact hC) F N
  | @cons n t vs' post' r ih =>
    intro pre m e hC v h tk ev F
    have ev' : v = .int n t := ev
    subst ev'
    refine AllObj.cons fun o ho => AllObj.nil ?_
    intro N
    refine wpAny_mono (turn pre n _ t m h tk o e.symm hC ho F N) (fun _ s₂ hs₂ => wpAny_mono hs₂ (fun f s₃ hf => ?_) fun _ _ x => x) fun _ _ x => x
    have rest : ∀ s₃, UnrEndW h₀ env.locals { s with heap := h, toks := tk } [(I, o)] (TurnKeep keep (C (pre ++ [n]))) s₃ →
        UnrEndW h₀ env.locals { s with heap := h, toks := tk } [(I, o)] (fun m' n' => SubL k1 n' ∧ ItemsRest prog w A E h₀ env target body Q s [(I, cls)] k1 (List.map Itm.val vs') m' n') s₃ := by
      rintro s₃ ⟨h', tk', m', n', e1, F', N', off, rfl, hC'⟩
      exact ⟨h', tk', m', n', e1, F', N', off, hk1, ih (pre ++ [n]) m' (by rw [List.append_assoc]; exact e) hC'⟩
    cases f with
    | ret v => exact hf
    | brk => exact hf
    | next => exact rest _ hf
    | cont => exact rest _ hf

theorem iter_inv {ax : Addr} {lo : Obj} {vs : List Value} {ns : List Int} {n : Nat} {m₀ : Str → Option Value} {news kl : List (Addr × Obj)} {C : List Int → (Str → Option Value) → Prop} (_ : UseInv ns kl C)
    (hh : A.handled = none) (F : Fr h₀ env.locals s.heap m₀) (N : News h₀ env.locals s.heap news) (hm : (ax, lo) ∈ news) (hc : lo.cls = .type "tuple") (hd : lo.data = .seq vs.toArray n) (hi : IntsAre vs ns)
    (hkl : SubL kl news) (h0 : C [] m₀)
    (turn : ∀ (I : Addr) (pre : List Int) (i : Int) (post : List Int) (tn : Tok) (m : Str → Option Value) (h : Heap) (tk : Nat) (o : Obj), (∀ p ∈ (ax, lo) :: kl, p.1 < I) → ns = pre ++ i :: post → C pre m → o.cls = .type "tuple_iterator" → Fr h₀ env.locals h m → News h₀ env.locals h ((I, o) :: (ax, lo) :: kl) →
      wpAny (model prog w) A (assign target env (.int i tn)) (fun _ s₂ => wpAny (model prog w) A (execs body env) (UnrPostW h₀ env.locals { s with heap := h, toks := tk } [(I, o)] (TurnKeep ((ax, lo) :: kl) (C (pre ++ [i]))) Q) E s₂) E { s with heap := h, toks := tk })
    (fin : ∀ (m : Str → Option Value) (h : Heap) (tk : Nat), C ns m → Fr h₀ env.locals h m → News h₀ env.locals h ((ax, lo) :: kl) → Q .next { s with heap := h, toks := tk }) :
    wpAny (model prog w) A (pyIter (.ref ax)) (fun it s₂ => TurnsAt prog w A h₀ env target body Q E it s₂) E s := by
  have hsub : ∀ p ∈ (ax, lo) :: kl, p ∈ news := fun p hp => by
    rcases List.mem_cons.mp hp with rfl | hp
    · exact hm
    · exact hkl.mem p hp
  have N' : News h₀ env.locals s.heap ((ax, lo) :: kl) := fun p hp => N p (hsub p hp)
  refine iter_tupTurns hh F N' (.head _) hc hd fun I hI => ?_
  exact items_inv hI (fun pre i post tn m h tk o e hC ho F1 N1 => turn I pre i post tn m h tk o hI e hC ho F1 N1) fin [(ax, lo)] ⟨.head _, trivial⟩ hi [] m₀ rfl h0
end
theorem early_mem {pre post : List Int} {i : Int} (h : [64, 32, 16, 8] = pre ++ i :: post) : earlyL i ≠ [] := by
  have hm : i ∈ ([64, 32, 16, 8] : List Int) := by rw [h]; simp
  simp only [List.mem_cons, List.not_mem_nil, or_false] at hm
  rcases hm with rfl | rfl | rfl | rfl <;> decide +kernel
theorem find_split {α : Type} {p : α → Bool} {all pre post : List α} {i : α} (h : all = pre ++ i :: post) (h1 : ∀ k ∈ pre, p k = false) (h2 : p i = true) : all.find? p = some i := by
  rw [h, List.find?_append, List.find?_cons, h2]
  have : pre.find? p = none := List.find?_eq_none.mpr fun k hk => by rw [h1 k hk]; decide
  rw [this]; rfl
theorem find_none {α : Type} {p : α → Bool} {all : List α} (h1 : ∀ k ∈ all, p k = false) : all.find? p = none := List.find?_eq_none.mpr fun k hk => by rw [h1 k hk]; decide
theorem newA {g h : Heap} {L : Addr} {ns r : List (Addr × Obj)} (N : News g L h (ns ++ r)) : New g h ns := new_of N fun _ hp => List.mem_append_left _ hp
section
variable {prog : Program} {w : World} {A : Around} {E : Value → Shared → Prop} {s : Shared} {h₀ : Heap} {env : Env} {target : PySem.Expr} {body : List Stmt} {Q : Flow → Shared → Prop}
theorem iter_invL {ax : Addr} {lo : Obj} {vs : List Value} {ns : List Int} {n : Nat} {m₀ : Str → Option Value} {news kl : List (Addr × Obj)} {C : List Int → (Str → Option Value) → Prop} (_ : UseInv ns kl C)
    (hh : A.handled = none) (F : Fr h₀ env.locals s.heap m₀) (N : News h₀ env.locals s.heap news) (hm : (ax, lo) ∈ news) (hc : lo.cls = .type "list") (hd : lo.data = .seq vs.toArray n) (hi : IntsAre vs ns)
    (hkl : SubL kl news) (h0 : C [] m₀)
    (turn : ∀ (I : Addr) (pre : List Int) (i : Int) (post : List Int) (tn : Tok) (m : Str → Option Value) (h : Heap) (tk : Nat) (o : Obj), (∀ p ∈ (ax, lo) :: kl, p.1 < I) → ns = pre ++ i :: post → C pre m → o.cls = .type "list_iterator" → Fr h₀ env.locals h m → News h₀ env.locals h ((I, o) :: (ax, lo) :: kl) →
      wpAny (model prog w) A (assign target env (.int i tn)) (fun _ s₂ => wpAny (model prog w) A (execs body env) (UnrPostW h₀ env.locals { s with heap := h, toks := tk } [(I, o)] (TurnKeep ((ax, lo) :: kl) (C (pre ++ [i]))) Q) E s₂) E { s with heap := h, toks := tk })
    (fin : ∀ (m : Str → Option Value) (h : Heap) (tk : Nat), C ns m → Fr h₀ env.locals h m → News h₀ env.locals h ((ax, lo) :: kl) → Q .next { s with heap := h, toks := tk }) :
    wpAny (model prog w) A (pyIter (.ref ax)) (fun it s₂ => TurnsAt prog w A h₀ env target body Q E it s₂) E s := by
  have hsub : ∀ p ∈ (ax, lo) :: kl, p ∈ news := fun p hp => by
    rcases List.mem_cons.mp hp with rfl | hp
    · exact hm
    · exact hkl.mem p hp
  have N' : News h₀ env.locals s.heap ((ax, lo) :: kl) := fun p hp => N p (hsub p hp)
  refine iter_listTurns hh F N' (.head _) hc hd fun I hI => ?_
  exact items_inv hI (fun pre i post tn m h tk o e hC ho F1 N1 => turn I pre i post tn m h tk o hI e hC ho F1 N1) fin [(ax, lo)] ⟨.head _, trivial⟩ hi [] m₀ rfl h0
end
end Mine
end
section
theorem Mine.none_Loop2 : True := by
  k_with_none
  w_top off
  trivial
set_option maxRecDepth 100000
open PySem PySem.W PySem.Calls PyProof.Rows PySem.SeqAt
namespace Mine
theorem AllObj.mono' : ∀ {ws : List (Addr × String)} {k k' : List (Addr × Obj) → Prop}, (∀ its, k its → k' its) → AllObj ws k → AllObj ws k'
  | [], _, _, h, x => h _ x
  | _ :: r, _, _, h, x => fun o ho => AllObj.mono' (ws := r) (fun its y => h _ y) (x o ho)
section
variable {prog : Program} {w : World} {A : Around} {E : Value → Shared → Prop} {s : Shared} {h₀ : Heap} {env : Env} {target : PySem.Expr} {body : List Stmt} {Q : Flow → Shared → Prop}
/-- a loop by an invariant on frame and ledger -/
theorem items_J {ws : List (Addr × String)} {keep : List (Addr × Obj)} {all : List Itm} {J : Nat → (Str → Option Value) → List (Addr × Obj) → Prop} (hJ : ∀ i m n, J i m n → SubL keep n)
    (turn : ∀ (i : Nat) (a : Itm) (v : Value) (h : Heap) (tk : Nat) (m : Str → Option Value) (n : List (Addr × Obj)), all[i]? = some a → a.Is v h → J i m n → Fr h₀ env.locals h m → AllObj ws (fun its => News h₀ env.locals h (its ++ n) →
      wpAny (model prog w) A (assign target env v) (fun _ s₂ => wpAny (model prog w) A (execs body env) (UnrPostW h₀ env.locals { s with heap := h, toks := tk } its (J (i + 1)) Q) E s₂) E { s with heap := h, toks := tk }))
    (fin : ∀ (m : Str → Option Value) (n : List (Addr × Obj)) (h : Heap) (tk : Nat), J all.length m n → Fr h₀ env.locals h m → News h₀ env.locals h n → Q .next { s with heap := h, toks := tk }) :
    ∀ (post : List Itm) (i : Nat) (m : Str → Option Value) (n : List (Addr × Obj)), all.drop i = post → i ≤ all.length → J i m n → ItemsRest prog w A E h₀ env target body Q s ws keep post m n
  | [] => fun i m n e hi hj h tk F N => by
    have : i = all.length := Nat.le_antisymm hi (List.drop_eq_nil_iff.mp e)
    subst this
    exact fin m n h tk hj F N
  | a :: post => fun i m n e hi hj v h tk ev F => by
    have hlt : i < all.length := by
      rcases Nat.lt_or_ge i all.length with q | q
      · exact q
      · rw [List.drop_eq_nil_iff.mpr q] at e; cases e
    have e2 := List.drop_eq_getElem_cons hlt
    rw [e] at e2
    have ea : all[i]? = some a := by rw [List.getElem?_eq_getElem hlt, (List.cons.inj e2).1]
    have ep : all.drop (i + 1) = post := (List.cons.inj e2).2.symm
    refine AllObj.mono' (fun its y N => ?_) (turn i a v h tk m n ea ev hj F)
    refine wpAny_mono (y N) (fun _ s₂ hs₂ => wpAny_mono hs₂ (fun f s₃ hf => ?_) fun _ _ x => x) fun _ _ x => x
    have rest : ∀ s₃, UnrEndW h₀ env.locals { s with heap := h, toks := tk } its (J (i + 1)) s₃ →
        UnrEndW h₀ env.locals { s with heap := h, toks := tk } its (fun m' n' => SubL keep n' ∧ ItemsRest prog w A E h₀ env target body Q s ws keep post m' n') s₃ := by
      rintro s₃ ⟨h', tk', m', n', e1, F', N', off, hJ'⟩
      exact ⟨h', tk', m', n', e1, F', N', off, hJ _ _ _ hJ', items_J hJ turn fin post (i + 1) m' n' ep hlt hJ'⟩
    cases f with
    | ret v => exact hf
    | brk => exact hf
    | next => exact rest _ hf
    | cont => exact rest _ hf
end
section
variable {prog : Program} {w : World} {A : Around} {s : Shared} {h₀ : Heap} {L : Addr} {m : Str → Option Value} {env : Env}
/-- a list comprehension by an invariant on what is made and the ledger -/
theorem comp_J {elt : PySem.Expr} {x : Str} {scope : Scope} {cl : List (Str × Addr)} {S : List (Addr × Obj) → Prop} {P : Nat → Value → Prop} {Fin : List Value → List (Addr × Obj) → Prop} {n : Nat} {news : List (Addr × Obj)} (J : Nat → List Value → List (Addr × Obj) → Prop)
    (turn : ∀ i ys news v I oI C oC D m₂ h tk (E' : Value → Shared → Prop), i < n → J i ys news → P i v → LCg.NsObj oC m₂ → m₂ x = some v → Fr h₀ L h m → News h₀ L h ((I, oI) :: (C, oC) :: (D, LCg.lst ys) :: news) → LCg.Off3 I C D news → ((@Ne Nat I C) ∧ (@Ne Nat I D) ∧ (@Ne Nat C D)) →
      wpAny (model prog w) A (eval elt (compEnvC scope cl C env)) (LCg.CompEnd h₀ L m { s with heap := h, toks := tk } I oI C oC D (LCg.lst ys) S (fun y news' => J (i + 1) (ys ++ [y]) news')) E' { s with heap := h, toks := tk })
    (fin : ∀ ys news, J n ys news → Fin ys news) (h0 : J 0 [] news) : LCg.CompRest prog w A h₀ L m env elt x scope cl s S P Fin n 0 [] news := by
  have key : ∀ (k i : Nat) (ys : List Value) (news : List (Addr × Obj)), k + i = n → J i ys news → LCg.CompRest prog w A h₀ L m env elt x scope cl s S P Fin k i ys news := by
    intro k
    induction k with
    | zero => intro i ys news e hj; exact fin _ _ (by have : i = n := by lia
                                                      exact this ▸ hj)
    | succ k ih =>
      intro i ys news e hj
      refine LCg.CompRest.succ ?_
      intro v I oI C oC D m₂ h tk E' hP hC hx F N off ne
      refine wpAny_mono (turn i ys news v I oI C oC D m₂ h tk E' (by lia) hj hP hC hx F N off ne) (fun y s₂ hq => ?_) fun _ _ e => e
      obtain ⟨h', tk', nw, e1, F', N', off', hS, hJ'⟩ := hq
      exact ⟨h', tk', nw, e1, F', N', off', hS, ih (i + 1) _ nw (by lia) hJ'⟩
  exact key n 0 [] news (by lia) h0
end
end Mine
end
section
theorem Mine.none_Tab : True := by
  k_with_none
  w_top off
  trivial
set_option maxRecDepth 100000
open PySem PySem.W PySem.Calls PyProof.Rows PySem.SeqAt
namespace Mine
/-- an entry of the law's table: name, kind, number, size -/
abbrev Ent := Str × Str × Int × Int
def TupIs (o : Obj) (e : Str × Int × Int) : Prop := o.cls = .type "tuple" ∧ ∃ tk tn tz ep, o.data = .seq #[.str e.1 tk, .int e.2.1 tn, .int e.2.2 tz] ep
inductive KnownIs (ts : List (Addr × Obj)) : List Ent → List (Str × Value) → Prop
  | nil : KnownIs ts [] []
  | cons {x : Str} {e : Str × Int × Int} {es : List Ent} {kvs : List (Str × Value)} {T : Addr} {o : Obj} : (T, o) ∈ ts → TupIs o e → KnownIs ts es kvs → KnownIs ts ((x, e) :: es) ((x, .ref T) :: kvs)
theorem KnownIs.more {ts ts' : List (Addr × Obj)} (hs : ∀ p ∈ ts, p ∈ ts') {es : List Ent} {kvs : List (Str × Value)} (h : KnownIs ts es kvs) : KnownIs ts' es kvs := by
  induction h with
  | nil => exact .nil
  | cons hm ht _ ih => exact .cons (hs _ hm) ht ih
theorem KnownIs.keys {ts : List (Addr × Obj)} {es : List Ent} {kvs : List (Str × Value)} (h : KnownIs ts es kvs) : kvs.map (·.1) = es.map (·.1) := by
  induction h with
  | nil => rfl
  | cons _ _ _ ih => simp [ih]
theorem KnownIs.length {ts : List (Addr × Obj)} {es : List Ent} {kvs : List (Str × Value)} (h : KnownIs ts es kvs) : kvs.length = es.length := by
  have := congrArg List.length h.keys
  simpa using this
theorem KnownIs.add {ts : List (Addr × Obj)} {es : List Ent} {kvs : List (Str × Value)} {x : Str} {e : Str × Int × Int} {T : Addr} {o : Obj} (h : KnownIs ts es kvs) (hm : (T, o) ∈ ts) (ht : TupIs o e) (hx : x ∉ es.map (·.1)) : KnownIs ts (es ++ [(x, e)]) (stored kvs x (.ref T)) := by
  have hk : kvs.any (fun kv => kv.1 = x) = false := by
    rw [List.any_eq_false]
    intro kv hkv
    have : kv.1 ∈ es.map (·.1) := h.keys ▸ List.mem_map.mpr ⟨kv, hkv, rfl⟩
    have hne : kv.1 ≠ x := fun e => hx (e ▸ this)
    simpa using hne
  unfold stored
  rw [hk]
  simp only [Bool.false_eq_true, if_false]
  clear hk hx
  induction h with
  | nil => exact .cons hm ht .nil
  | cons hm' ht' _ ih => exact .cons hm' ht' ih
/-- a list of texts as entries of one kind and size, numbered from b -/
def entsOf (kind : Str) (size : Int) : Int → List Str → List Ent
  | _, [] => []
  | b, x :: r => (x, kind, b, size) :: entsOf kind size (b + 1) r
theorem entsOf_append {kind : Str} {size : Int} : ∀ {b : Int} {xs ys : List Str}, entsOf kind size b (xs ++ ys) = entsOf kind size b xs ++ entsOf kind size (b + xs.length) ys
  | b, [], ys => by simp [entsOf]
  | b, x :: r, ys => by
    simp only [List.cons_append, entsOf, List.length_cons]
    rw [entsOf_append]
    have : b + 1 + (r.length : Int) = b + ((r.length + 1 : Nat) : Int) := by lia
    rw [this]
theorem entsOf_names {kind : Str} {size : Int} : ∀ {b : Int} {xs : List Str}, (entsOf kind size b xs).map (·.1) = xs
  | _, [] => rfl
  | b, x :: r => congrArg (x :: ·) entsOf_names
end Mine
namespace Mine
section
variable {prog : Program} {w : World} {A : Around} {E : Value → Shared → Prop} {s : Shared} {h₀ : Heap} {env : Env} {body : List Stmt} {Q : Flow → Shared → Prop}
/-- the state of the law's table between turns -/
def TabJ (prog : Program) (w : World) (K : Addr) (kl kb : List (Addr × Obj)) (C : (Str → Option Value) → Prop) (es : List Ent) (m : Str → Option Value) (n : List (Addr × Obj)) : Prop :=
  ∃ o ts kvs, n = (K, o) :: (kl ++ ts) ∧ o.IsDictOf (strKind prog w) kvs ∧ (∀ p ∈ ts, p.2.cls = .type "tuple") ∧ KnownIs (kb ++ ts) es kvs ∧ (∀ p ∈ ts, ∀ q ∈ kl, p.1 ≠ q.1) ∧ C m
/-- a mark: what the table's loop keeps -/
def UseTab (K : Addr) (xs : List Str) (kind : Str) (size b : Int) (es0 : List Ent) (C : (Str → Option Value) → Prop) : Prop := K = K ∧ xs = xs ∧ kind = kind ∧ size = size ∧ b = b ∧ es0 = es0 ∧ C = C
theorem UseTab.mk (K : Addr) (xs : List Str) (kind : Str) (size b : Int) (es0 : List Ent) (C : (Str → Option Value) → Prop) : UseTab K xs kind size b es0 C := ⟨rfl, rfl, rfl, rfl, rfl, rfl, rfl⟩
theorem strsAre_split {vs : List Value} {xs : List Str} (H : StrsAre vs xs) : ∀ i v, vs[i]? = some v → ∃ pre x post t, xs = pre ++ x :: post ∧ pre.length = i ∧ v = .str x t := by
  induction H with
  | nil => intro i v h; simp at h
  | cons k t r ih =>
    intro i v h
    cases i with
    | zero => exact ⟨[], k, _, t, rfl, rfl, by simpa using h.symm⟩
    | succ i =>
      obtain ⟨pre, x, post, t', e, e2, e3⟩ := ih i v (by simpa using h)
      exact ⟨k :: pre, x, post, t', by rw [e]; rfl, by simp [e2], e3⟩
theorem strsAre_length : ∀ {vs : List Value} {xs : List Str}, StrsAre vs xs → vs.length = xs.length
  | _, _, .nil => rfl
  | _, _, .cons _ _ r => congrArg (· + 1) (strsAre_length r)
theorem enumItems_at : ∀ (vs : List Value) (a i : Nat) {x : Itm}, (enumItems a vs)[i]? = some x → ∃ v, vs[i]? = some v ∧ x = .pair (fun t => .int ((a + i : Nat) : Int) t) v
  | [], _, _, _, h => by simp [enumItems] at h
  | y :: r, a, 0, x, h => ⟨y, rfl, by simpa [enumItems] using h.symm⟩
  | y :: r, a, i + 1, x, h => by
    obtain ⟨v, h1, h2⟩ := enumItems_at r (a + 1) i (x := x) (by simpa [enumItems] using h)
    exact ⟨v, by simpa using h1, by rw [h2]; congr 1; funext t; congr 2; lia⟩
/-- the ledger but one object -/
inductive OutF (K : Addr) (o : Obj) : List (Addr × Obj) → List (Addr × Obj) → Prop
  | head {r} : (∀ p ∈ r, p.1 ≠ K) → OutF K o ((K, o) :: r) r
  | tail {p r g} : p.1 ≠ K → OutF K o r g → OutF K o (p :: r) (p :: g)
theorem OutF.mem {K : Addr} {o : Obj} {l kl : List (Addr × Obj)} (H : OutF K o l kl) : (K, o) ∈ l ∧ (∀ p ∈ kl, p ∈ l) ∧ ∀ p ∈ kl, p.1 ≠ K := by
  induction H with
  | head h => exact ⟨.head _, fun _ hp => .tail _ hp, h⟩
  | tail h r ih =>
    exact ⟨.tail _ ih.1, fun p hp => by
      rcases List.mem_cons.mp hp with rfl | hp
      · exact .head _
      · exact .tail _ (ih.2.1 p hp), fun p hp => by
      rcases List.mem_cons.mp hp with rfl | hp
      · exact h
      · exact ih.2.2 p hp⟩
theorem enum_tab {elts : List PySem.Expr} {k : Nat} {pos : Pos} {l K : Addr} {lo o₀ : Obj} {vs : List Value} {n : Nat} {m₀ : Str → Option Value} {news kl kb : List (Addr × Obj)} {C : (Str → Option Value) → Prop} {xs : List Str} {kind : Str} {size b : Int} {es0 : List Ent} {kvs₀ : List (Str × Value)}
    (_ : UseTab K xs kind size b es0 C)
    (hh : A.handled = none) (F : Fr h₀ env.locals s.heap m₀) (N : News h₀ env.locals s.heap news) (hO : OutF K o₀ news kl) (hm : (l, lo) ∈ kl) (hc : lo.cls = .type "list") (hd : lo.data = .seq vs.toArray n) (hx : StrsAre vs xs)
    (hD : o₀.IsDictOf (strKind prog w) kvs₀) (hI : KnownIs kb es0 kvs₀) (hC : C m₀)
    (turn : ∀ (I T : Addr) (pre : List Str) (x : Str) (post : List Str) (ti tx : Tok) (o it ie : Obj) (ts rest : List (Addr × Obj)) (kvs : List (Str × Value)) (m : Str → Option Value) (h : Heap) (tk : Nat), (@LT.lt Nat _ K I) → (@LT.lt Nat _ K (I + 1)) → (∀ p ∈ kl, p.1 < I) → kl ++ ts = rest → (∀ p ∈ rest, p.1 ≠ K) → xs = pre ++ x :: post → IsTup h T #[.int pre.length ti, .str x tx] → it.cls = .type "list_iterator" → ie.cls = .type "enumerate" →
      o.IsDictOf (strKind prog w) kvs → (∀ p ∈ ts, p.2.cls = .type "tuple") → KnownIs (kb ++ ts) (es0 ++ entsOf kind size b pre) kvs → (∀ p ∈ ts, ∀ q ∈ kl, p.1 ≠ q.1) → C m → Fr h₀ env.locals h m → News h₀ env.locals h ((I + 1, ie) :: (I, it) :: (K, o) :: rest) →
      wpAny (model prog w) A (assign (.Tuple elts k pos) env (.ref T)) (fun _ s₂ => wpAny (model prog w) A (execs body env) (UnrPostW h₀ env.locals { s with heap := h, toks := tk } [(I + 1, ie), (I, it)] (TabJ prog w K kl kb C (es0 ++ entsOf kind size b (pre ++ [x]))) Q) E s₂) E { s with heap := h, toks := tk })
    (fin : ∀ (o : Obj) (ts : List (Addr × Obj)) (kvs : List (Str × Value)) (m : Str → Option Value) (h : Heap) (tk : Nat), o.IsDictOf (strKind prog w) kvs → (∀ p ∈ ts, p.2.cls = .type "tuple") → KnownIs (kb ++ ts) (es0 ++ entsOf kind size b xs) kvs → (∀ p ∈ ts, ∀ q ∈ kl, p.1 ≠ q.1) → C m → Fr h₀ env.locals h m → News h₀ env.locals h ((K, o) :: (kl ++ ts)) → Q .next { s with heap := h, toks := tk }) :
    wpAny (model prog w) A (call (.type "enumerate") [.ref l]) (fun xv s₁ => wpAny (model prog w) A (pyIter xv) (fun it s₂ => TurnsAt prog w A h₀ env (.Tuple elts k pos) body Q E it s₂) E s₁) E s := by
  obtain ⟨hK, hkl, hKk⟩ := hO.mem
  have hsub : ∀ p ∈ (K, o₀) :: (kl ++ []), p ∈ news := fun p hp => by
    rcases List.mem_cons.mp hp with rfl | hp
    · exact hK
    · exact hkl p (by simpa using hp)
  have N' : News h₀ env.locals s.heap ((K, o₀) :: (kl ++ [])) := fun p hp => N p (hsub p hp)
  have hlen := strsAre_length hx
  refine ktu_enum hh F N' (.tail _ (List.mem_append_left _ hm)) hc hd rfl fun I hI' => ?_
  refine items_J (J := fun i m n => TabJ prog w K kl kb C (es0 ++ entsOf kind size b (xs.take i)) m n) (fun i m n hj => ?_) ?_ ?_ _ 0 m₀ _ rfl (Nat.zero_le _) ?_
  · obtain ⟨o, ts, kvs, rfl, _⟩ := hj
    exact ⟨.tail _ (List.mem_append_left _ hm), trivial⟩
  · rintro i a v h tk m n hi hv ⟨o, ts, kvs, rfl, hd', ht', hk', hoff', hc'⟩ F1
    obtain ⟨u, hu, rfl⟩ := enumItems_at vs 0 i hi
    obtain ⟨pre, x, post, tx, e, rfl, rfl⟩ := strsAre_split hx i u hu
    obtain ⟨T, ti, rfl, hT'⟩ := hv
    refine AllObj.cons fun ie hie => AllObj.cons fun it hit => AllObj.nil ?_
    intro N1
    have e1 : xs.take pre.length = pre := by rw [e, List.take_left']; rfl
    have e2 : xs.take (pre.length + 1) = pre ++ [x] := by
      have : xs = (pre ++ [x]) ++ post := by rw [e]; simp
      rw [this, List.take_left']; simp
    rw [e1] at hk'
    rw [e2]
    have hT2 : IsTup h T #[.int pre.length ti, .str x tx] := by
      have := hT'
      simpa using this
    have hKI : K < I := hI' _ (.head _)
    refine turn I T pre x post ti tx o it ie ts _ kvs m h tk hKI (Nat.lt_succ_of_lt hKI) (fun p hp => hI' _ (.tail _ (List.mem_append_left _ hp))) rfl (fun p hp => ?_) e hT2 hit hie hd' ht' hk' hoff' hc' F1 N1
    rcases List.mem_append.mp hp with hp | hp
    · exact hKk p hp
    · intro e
      have h1 := (N1 p (.tail _ (.tail _ (.tail _ (List.mem_append_right _ hp))))).1
      have h2 := (N1 (K, o) (.tail _ (.tail _ (.head _)))).1
      rw [e] at h1
      have h3 : p.2 = o := Option.some.inj (h1.symm.trans h2)
      have h4 := ht' p hp
      obtain ⟨_, _, h5, _⟩ := hd'
      rw [h3, h5.1] at h4
      exact absurd h4 (by decide)
  · rintro m n h tk ⟨o, ts, kvs, rfl, hd', ht', hk', hoff', hc'⟩ F1 N1
    rw [enumItems_length, hlen, List.take_length] at hk'
    exact fin o ts kvs m h tk hd' ht' hk' hoff' hc' F1 N1
  · refine ⟨o₀, [], kvs₀, rfl, hD, fun _ hp => (nomatch hp), ?_, fun _ hp => (nomatch hp), hC⟩
    simpa [entsOf] using hI
end
end Mine
namespace Mine
section
variable {prog : Program} {w : World} {A : Around} {E : Value → Shared → Prop} {s : Shared} {h₀ : Heap} {L : Addr} {m : Str → Option Value} {news : List (Addr × Obj)}
theorem tab_set {K : Addr} {o : Obj} {kvs : List (Str × Value)} {x : Str} {tx : Tok} {v : Value} {Q : Unit → Shared → Prop} (F : Fr h₀ L s.heap m) (N : News h₀ L s.heap news) (hK : (K, o) ∈ news) (hd : o.IsDictOf (strKind prog w) kvs) (hsz : kvs.length ≤ 1000) (r : List (Addr × Obj)) (hr : ∀ p ∈ r, p ∈ news) (hn : ∀ p ∈ r, p.1 ≠ K)
    (h : ∀ h' o', Fr h₀ L h' m → News h₀ L h' ((K, o') :: r) → o'.IsDictOf (strKind prog w) (stored kvs x v) → Q () { s with heap := h', toks := s.toks + 1 }) : wpAny (model prog w) A (setItem (.ref K) (.str x tx) v) Q E s := by
  have N' : News h₀ L s.heap ((K, o) :: r) := fun p hp => by
    rcases List.mem_cons.mp hp with rfl | hp
    · exact N _ hK
    · exact N _ (hr p hp)
  refine kda_set (knd := strKind prog w) F N' (.head hn) hd (strKind_is _ _ _ _) ?_ h
  rw [sizeLine_eq]; lia
theorem dict_cls {o : Obj} {kvs : List (Str × Value)} (hd : o.IsDictOf (strKind prog w) kvs) : o.cls = .type "dict" := by
  obtain ⟨_, _, h, _⟩ := hd
  exact h.1
theorem off_cls {h : Heap} {p q : Addr × Obj} (N : News h₀ L h news) (hp : p ∈ news) (hq : q ∈ news) (hc : p.2.cls ≠ q.2.cls) : p.1 ≠ q.1 := fun e => by
  have h1 := (N _ hp).1
  have h2 := (N _ hq).1
  rw [e] at h1
  exact hc (congrArg Obj.cls (Option.some.inj (h1.symm.trans h2)))
theorem tab_end {I K Tn : Addr} {s₁ : Shared} {h' : Heap} {tk : Nat} {m' : Str → Option Value} {kl kb ts rest all : List (Addr × Obj)} {C : (Str → Option Value) → Prop} {o it ie tup : Obj} {kvs : List (Str × Value)} {es0 : List Ent} {kind x : Str} {size b : Int} {pre : List Str}
    (F : Fr h₀ L h' m') (N₀ : News h₀ L h' all) (hR : kl ++ ts = rest) (hsub : ∀ p ∈ (K, o) :: (Tn, tup) :: (I + 1, ie) :: (I, it) :: rest, p ∈ all) (hI1 : @LT.lt Nat _ K I) (hI2 : ∀ p ∈ kl, p.1 < I) (hit : it.cls = .type "list_iterator") (hie : ie.cls = .type "enumerate")
    (hd : o.IsDictOf (strKind prog w) (stored kvs x (.ref Tn))) (ht : ∀ p ∈ ts, p.2.cls = .type "tuple") (hk : KnownIs (kb ++ ts) (es0 ++ entsOf kind size b pre) kvs) (hx : x ∉ es0.map (·.1) ++ pre) {b' : Int} (hoff : ∀ p ∈ ts, ∀ q ∈ kl, p.1 ≠ q.1) (hIT : @LT.lt Nat _ I Tn) (htup : TupIs tup (kind, b', size)) (hb : b' = b + pre.length) (hC : C m') :
    UnrEndW h₀ L s₁ [(I + 1, ie), (I, it)] (TabJ prog w K kl kb C (es0 ++ entsOf kind size b (pre ++ [x]))) { s₁ with heap := h', toks := tk } := by
  subst hR hb
  have N : News h₀ L h' ((K, o) :: (Tn, tup) :: (I + 1, ie) :: (I, it) :: (kl ++ ts)) := fun p hp => N₀ p (hsub p hp)
  have hI : K < I ∧ ∀ p ∈ kl, p.1 < I := ⟨hI1, hI2⟩
  have ht' : ∀ p ∈ (Tn, tup) :: ts, p.2.cls = .type "tuple" := fun p hp => by
    rcases List.mem_cons.mp hp with rfl | hp
    · exact htup.1
    · exact ht p hp
  have m1 : (I + 1, ie) ∈ (K, o) :: (Tn, tup) :: (I + 1, ie) :: (I, it) :: (kl ++ ts) := .tail _ (.tail _ (.head _))
  have m2 : (I, it) ∈ (K, o) :: (Tn, tup) :: (I + 1, ie) :: (I, it) :: (kl ++ ts) := .tail _ (.tail _ (.tail _ (.head _)))
  have m3 : ∀ p ∈ (Tn, tup) :: ts, p ∈ (K, o) :: (Tn, tup) :: (I + 1, ie) :: (I, it) :: (kl ++ ts) := fun p hp => by
    rcases List.mem_cons.mp hp with rfl | hp
    · exact .tail _ (.head _)
    · exact .tail _ (.tail _ (.tail _ (.tail _ (List.mem_append_right _ hp))))
  have m4 : ∀ p ∈ kl, p ∈ (K, o) :: (Tn, tup) :: (I + 1, ie) :: (I, it) :: (kl ++ ts) := fun p hp => .tail _ (.tail _ (.tail _ (.tail _ (List.mem_append_left _ hp))))
  refine ⟨h', tk, m', (K, o) :: (kl ++ (Tn, tup) :: ts), rfl, F, fun p hp => N p ?_, fun p hp q hq => ?_, o, (Tn, tup) :: ts, _, rfl, hd, ht', ?_, fun p hp q hq => ?_, hC⟩
  · rcases List.mem_append.mp hp with hp | hp
    · rcases List.mem_cons.mp hp with rfl | hp
      · exact m1
      · rw [List.mem_singleton.mp hp]; exact m2
    · rcases List.mem_cons.mp hp with rfl | hp
      · exact .head _
      rcases List.mem_append.mp hp with hp | hp
      · exact m4 p hp
      · exact m3 p hp
  · have hq' : q = (I + 1, ie) ∨ q = (I, it) := by simpa using hq
    have lt : ∀ p : Addr × Obj, p.1 < I → p.1 ≠ q.1 := fun p hp => by
      rcases hq' with rfl | rfl
      · show p.1 ≠ I + 1; exact Nat.ne_of_lt (Nat.lt_succ_of_lt hp)
      · exact Nat.ne_of_lt hp
    rcases List.mem_cons.mp hp with rfl | hp
    · exact lt _ hI.1
    rcases List.mem_append.mp hp with hp | hp
    · exact lt _ (hI.2 p hp)
    · rcases hq' with rfl | rfl
      · refine off_cls N (m3 p hp) m1 ?_
        rw [ht' p hp, hie]; decide
      · refine off_cls N (m3 p hp) m2 ?_
        rw [ht' p hp, hit]; decide
  · have := KnownIs.add (T := Tn) (o := tup) (x := x) (hk.more (ts' := kb ++ (Tn, tup) :: ts) fun p hp => by
      rcases List.mem_append.mp hp with hp | hp
      · exact List.mem_append_left _ hp
      · exact List.mem_append_right _ (.tail _ hp)) (List.mem_append_right _ (.head _)) htup (by
      rw [List.map_append, entsOf_names]; exact hx)
    rw [entsOf_append, ← List.append_assoc]
    exact this
  · rcases List.mem_cons.mp hp with rfl | hp
    · exact Ne.symm (Nat.ne_of_lt (Nat.lt_trans (hI2 q hq) hIT))
    · exact hoff p hp q hq
end
theorem entsOf_length {kind : Str} {size : Int} : ∀ {b : Int} {xs : List Str}, (entsOf kind size b xs).length = xs.length
  | _, [] => rfl
  | _, _ :: _ => congrArg (· + 1) entsOf_length
theorem known_small {ts : List (Addr × Obj)} {es0 : List Ent} {kind x : Str} {size b : Int} {xs pre post : List Str} {kvs : List (Str × Value)} (hk : KnownIs ts (es0 ++ entsOf kind size b pre) kvs) (h1 : es0.length ≤ 100) (h2 : xs.length ≤ 100) (e : xs = pre ++ x :: post) : kvs.length ≤ sizeLine := by
  have := hk.length
  rw [List.length_append, entsOf_length] at this
  have h3 : xs.length = pre.length + (post.length + 1) := by rw [e]; simp
  rw [sizeLine_eq]; lia
theorem fresh_of {es0 : List Ent} {xs pre post : List Str} {x : Str} (h : (es0.map (·.1) ++ xs).Nodup) (e : xs = pre ++ x :: post) : x ∉ es0.map (·.1) ++ pre := by
  subst e
  rw [← List.append_assoc] at h
  intro hm
  have := (List.nodup_append.mp h).2.2 x hm x (.head _)
  exact this rfl
end Mine
end
section
theorem Mine.none_Tab2 : True := by
  k_with_none
  w_top off
  trivial
set_option maxRecDepth 100000
open PySem PySem.W PySem.Calls PyProof.Rows PySem.SeqAt
namespace Mine
theorem strs_app {vs : List Value} {ns : List Str} {us : List Value} {ms : List Str} (H : StrsAre vs ns) (h : StrsAre us ms) : StrsAre (vs ++ us) (ns ++ ms) := by
  induction H with
  | nil => exact h
  | cons y t r ih => exact .cons y t ih
section
variable {prog : Program} {w : World} {A : Around} {E : Value → Shared → Prop} {s : Shared} {h₀ : Heap} {L : Addr} {m : Str → Option Value} {news : List (Addr × Obj)}
theorem add_strsK {a b : Addr} {vs us : List Value} {ns ms : List Str} {k j : Nat} {Q : Value → Shared → Prop} (F : Fr h₀ L s.heap m) (N : News h₀ L s.heap news) (ha : (a, (⟨.type "list", none, .seq vs.toArray k, #[]⟩ : Obj)) ∈ news) (hi : StrsAre vs ns)
    (hb : (b, (⟨.type "list", none, .seq us.toArray j, #[]⟩ : Obj)) ∈ news) (hj : StrsAre us ms) (hz : ns.length + ms.length ≤ 1000)
    (h : ∀ (D : Addr) (ws : List Value) (h' : Heap), Fr h₀ L h' m → News h₀ L h' ((D, W.listOf ws.toArray 0) :: news) → (∀ p ∈ news, p.1 < D) → StrsAre ws (ns ++ ms) → Q (.ref D) { s with heap := h' }) :
    wpAny (model prog w) A (binaryOp .Add (.ref a) (.ref b)) Q E s := by
  refine add_lists F N ⟨_, (N _ ha).1, rfl, _, rfl⟩ ⟨_, (N _ hb).1, rfl, _, rfl⟩ (fun h' F' N' => h _ _ h' F' N' (fun p hp => Heap.lt_size (N p hp).1) (strs_app hi hj)) ?_
  have := strsAre_length hi
  have := strsAre_length hj
  rw [sizeLine_eq]; lia
theorem split_strsK {x y : Str} {t u : Tok} {ys : List Str} {Q : Value → Shared → Prop} (hF : Fr h₀ L s.heap m) (hN : News h₀ L s.heap news) (hy : (y.length == 0) = false) (hs : Txt.split x y = ys) (hz : x.length ≤ 1000)
    (h : ∀ (D : Addr) (vs : List Value) (h' : Heap) (k : Nat), Fr h₀ L h' m → News h₀ L h' ((D, W.listOf vs.toArray 0) :: news) → (∀ p ∈ news, p.1 < D) → StrsAre vs ys → Q (.ref D) { s with heap := h', toks := k }) :
    wpAny (model prog w) A (call (.builtin "str.split") [.str x t, .str y u]) Q E s :=
  KSpl.split1 hF hN hy (fun D l h' k e a F' N' lt => h D _ h' k F' N' lt (by rw [← hs, ← e]; exact a)) (by rw [sizeLine_eq]; lia)
end
section
variable {prog : Program} {w : World} {A : Around} {s : Shared} {h₀ : Heap} {L : Addr} {m : Str → Option Value} {env : Env}
/-- a mark: the texts a comprehension makes -/
def UseComp (g : Nat → Str) (n : Nat) : Prop := g = g ∧ n = n
theorem UseComp.mk (g : Nat → Str) (n : Nat) : UseComp g n := ⟨rfl, rfl⟩
theorem strs_snoc {ys : List Value} {xs : List Str} (h : StrsAre ys xs) (x : Str) (t : Tok) : StrsAre (ys ++ [.str x t]) (xs ++ [x]) := strs_app h (.cons _ _ .nil)
theorem comp_strs {elt : PySem.Expr} {x : Str} {scope : Scope} {cl : List (Str × Addr)} {S : List (Addr × Obj) → Prop} {P : Nat → Value → Prop} {Fin : List Value → List (Addr × Obj) → Prop} {n : Nat} {news : List (Addr × Obj)} {g : Nat → Str} (_ : UseComp g n)
    (turn : ∀ i ys v I oI C oC D m₂ h tk (E' : Value → Shared → Prop), i < n → P i v → LCg.NsObj oC m₂ → m₂ x = some v → Fr h₀ L h m → News h₀ L h ((I, oI) :: (C, oC) :: (D, LCg.lst ys) :: news) → LCg.Off3 I C D news → ((@Ne Nat I C) ∧ (@Ne Nat I D) ∧ (@Ne Nat C D)) →
      wpAny (model prog w) A (eval elt (compEnvC scope cl C env)) (LCg.CompEnd h₀ L m { s with heap := h, toks := tk } I oI C oC D (LCg.lst ys) S (fun y news' => news' = news ∧ ∃ t, y = .str (g i) t)) E' { s with heap := h, toks := tk })
    (fin : ∀ ys, StrsAre ys ((List.range n).map g) → Fin ys news) : LCg.CompRest prog w A h₀ L m env elt x scope cl s S P Fin n 0 [] news := by
  refine comp_J (fun i ys nw => nw = news ∧ StrsAre ys ((List.range i).map g)) ?_ ?_ ⟨rfl, .nil⟩
  · rintro i ys nw v I oI C oC D m₂ h tk E' hi ⟨rfl, hy⟩ hP hC hx F N off ne
    refine wpAny_mono (turn i ys v I oI C oC D m₂ h tk E' hi hP hC hx F N off ne) (fun y s₂ hq => ?_) fun _ _ e => e
    obtain ⟨h', tk', nw', e1, F', N', off', hS, e2, t, e3⟩ := hq
    refine ⟨h', tk', nw', e1, F', N', off', hS, e2, ?_⟩
    rw [e3, List.range_succ, List.map_append]
    exact strs_snoc hy _ _
  · rintro ys nw ⟨rfl, hy⟩
    exact fin ys hy
end
theorem compEnd_strs {h₀ : Heap} {L I C D : Addr} {m : Str → Option Value} {s₁ : Shared} {oI oC oD : Obj} {S : List (Addr × Obj) → Prop} {h' : Heap} {tk : Nat} {all news : List (Addr × Obj)} {z z' : Str} {t : Tok}
    (F : Fr h₀ L h' m) (N : News h₀ L h' all) (off : LCg.Off3 I C D news) (sub : ∀ p ∈ (I, oI) :: (C, oC) :: (D, oD) :: news, p ∈ all) (hS : S news) (e : z = z') :
    LCg.CompEnd h₀ L m s₁ I oI C oC D oD S (fun y nw => nw = news ∧ ∃ t, y = .str z' t) (.str z t) { s₁ with heap := h', toks := tk } := LCg.CompEnd.intro F N news sub off hS ⟨rfl, t, by rw [e]⟩
def lateNames (size : Int) : List Str := (List.range 8).map fun (i : Nat) => Str.ofString "r" ++ Str.ofString (toString (8 + (i : Int))) ++ lateEnd size
def gprNames (size : Int) : List Str := earlyL size ++ lateNames size
def xmmNames : List Str := (List.range 16).map fun (i : Nat) => Str.ofString "xmm" ++ Str.ofString (toString (0 + (i : Int)))
end Mine
end
section
theorem Mine.none_Oct2 : True := by
  k_with_none
  w_top off
  trivial
set_option maxRecDepth 100000
open PySem PySem.W PySem.Calls PyProof.Rows PyProof.Rows.LCg PyProof.Rows.LCt PySem.SeqAt
namespace Mine
theorem figs_len (n : Int) : (figs n).length = 2 := by
  unfold figs
  rw [Str.length_append, Str.length_append, len_item, len_item]; decide
def octText (ks : List Int) : Str := Txt.join (Str.ofString " ") (ks.map figs)
theorem figs_sum (ks : List Int) : ((ks.map figs).map (·.length)).sum = 2 * ks.length := by
  induction ks with
  | nil => rfl
  | cons k r ih =>
    simp only [List.map_cons, List.sum_cons, List.length_cons, figs_len] at ih ⊢
    lia
section
variable {prog : Program} {w : World} {A : Around} {s : Shared} {h₀ : Heap} {L : Addr} {m : Str → Option Value} {env : Env}
def UseOct (b : Array UInt8) (g : Int → Str) : Prop := b = b ∧ g = g
theorem bytes_strs {elt : PySem.Expr} {x : Str} {scope : Scope} {cl : List (Str × Addr)} {S : List (Addr × Obj) → Prop} {Fin : List Value → List (Addr × Obj) → Prop} {b : Array UInt8} {news : List (Addr × Obj)} (g : Int → Str)
    (turn : ∀ (k : Int) t I oI C oC D ys m₂ h tk (E' : Value → Shared → Prop), 0 ≤ k → k < 256 → NsObj oC m₂ → m₂ x = some (.int k t) → Fr h₀ L h m → News h₀ L h ((I, oI) :: (C, oC) :: (D, lst ys) :: news) → Off3 I C D news → ((@Ne Nat I C) ∧ (@Ne Nat I D) ∧ (@Ne Nat C D)) →
      wpAny (model prog w) A (eval elt (compEnvC scope cl C env)) (CompEnd h₀ L m { s with heap := h, toks := tk } I oI C oC D (lst ys) S (fun y news' => news' = news ∧ ∃ t, y = .str (g k) t)) E' { s with heap := h, toks := tk })
    (fin : ∀ ys, StrsAre ys ((KBw.bInts b).map g) → Fin ys news) : CompRest prog w A h₀ L m env elt x scope cl s S (fun i v => ∃ c u, b[i]? = some c ∧ v = .int (c.toNat : Int) u) Fin b.size 0 [] news := by
  refine comp_J (fun i ys nw => nw = news ∧ StrsAre ys (((KBw.bInts b).take i).map g)) ?_ ?_ ⟨rfl, .nil⟩
  · rintro i ys nw v I oI C oC D m₂ h tk E' hi ⟨rfl, hy⟩ ⟨c, u, hc, rfl⟩ hC hx F N off ne
    have h2 := c.toNat_lt
    refine wpAny_mono (turn (c.toNat : Int) u I oI C oC D ys m₂ h tk E' (by lia) (by lia) hC hx F N off ne) (fun y s₂ hq => ?_) fun _ _ e => e
    obtain ⟨h', tk', nw', e1, F', N', off', hS, e2, t, e3⟩ := hq
    refine ⟨h', tk', nw', e1, F', N', off', hS, e2, ?_⟩
    rw [e3, List.take_add_one, KBw.ints_get hc, List.map_append]
    exact strs_snoc hy _ _
  · rintro ys nw ⟨rfl, hy⟩
    refine fin ys ?_
    rw [← KBw.ints_length b, List.take_length] at hy
    exact hy
theorem join_figs {D : Addr} {ys : List Value} {ks : List Int} {t : Tok} {news : List (Addr × Obj)} {E Q : Value → Shared → Prop} (N : News h₀ L s.heap ((D, lst ys) :: news)) (hi : StrsAre ys (ks.map figs)) (hz : ks.length ≤ 1000)
    (h : ∀ t' k, Q (.str (octText ks) t') { s with toks := k }) : wpAny (model prog w) A (call (.builtin "str.join") [.str (Str.ofString " ") t, .ref D]) Q E s := by
  refine join_list (items := ys.toArray) (ys := ks.map figs) ⟨_, (N _ (.head _)).1, rfl, _, rfl⟩ hi ?_ h
  rw [figs_sum, List.length_map]
  have : (Str.ofString " ").length = 1 := by decide
  rw [this]; lia
end
end Mine
end
section
open PySem PySem.W PySem.Calls PyProof.Rows
namespace Mine
theorem rows_C10_1 : True := by
  k_with_none
  k_with "m:on" => skip
  k_with "m:klt" => (intro l0; replace l0 := allLt_of l0; dsimp only [AllLt] at l0; (repeat (have := And.left l0; replace l0 := And.right l0)); revert l0)
  k_with "m:ktr_room" => k_dflt (first | exact rm1 (by with_reducible assumption) rfl | exact rm2 (by with_reducible assumption) rfl | exact rm3 (by with_reducible assumption) rfl)
  k_with "m:ktr_units" => k_dflt (first | exact un0 (by with_reducible assumption) rfl | exact un1 (by with_reducible assumption) rfl | exact un2 (by with_reducible assumption) rfl | exact un3 (by with_reducible assumption) rfl)
  k_with "m:k_ne" => (refine neN ?_; (try dsimp only); first | with_reducible assumption | exact Ne.symm (by with_reducible assumption) | exact Nat.ne_of_lt (by with_reducible assumption) | exact Nat.ne_of_gt (by with_reducible assumption) | lia)
  k_with "m:cell_enter" => (refine' enterGC ?zk1_C10r1 ?zk2_C10r1 ?zk3_C10r1 ?zk4_C10r1 ?zk5_C10r1 ?zk6_C10r1 ?zk7_C10r1 ?zk8_C10r1 ?zk9_C10r1 ?zkB_C10r1 ?zkD_C10r1 ?_ ?zc2_C10r1 ?zc3_C10r1 ?zc4_C10r1; (case zk1_C10r1 => k_asm); (case zk2_C10r1 => k_asm); (case zk3_C10r1 => k_asm); (case zk4_C10r1 => k_asm); (case zk5_C10r1 => k_asm); (case zk6_C10r1 => k_is); (case zk7_C10r1 => k_is); (case zk8_C10r1 => lia); (case zk9_C10r1 => first | exact BindsTo.of_eq rfl | exact binds_K (by k_in) rfl (by k_is) rfl rfl rfl); (case zkB_C10r1 => exact rfl); (case zkD_C10r1 => decide +kernel); (case zc2_C10r1 => exact rfl); (case zc3_C10r1 => exact rfl); (case zc4_C10r1 => exact rfl); k_whole; intro L' h' tk' cells' F' N' Y' l1; (try k_lt l1); k_cells Y'; (try simp only [List.cons_append, List.nil_append, List.append_nil] at N'); (try dsimp only); (try k_fold))
  k_with "m:cell_enter" => (first | (refine' enterG ?zk1_C10r2 ?zk2_C10r2 ?zk3_C10r2 ?zk4_C10r2 ?zk5_C10r2 ?zk6_C10r2 ?zk7_C10r2 ?zk8_C10r2 ?zk9_C10r2 ?zkB_C10r2 ?_ ?zc2_C10r2 ?zc3_C10r2 ?zc4_C10r2 ?zc5_C10r2; (case zk1_C10r2 => k_asm); (case zk2_C10r2 => k_asm); (case zk3_C10r2 => k_asm); (case zk4_C10r2 => k_asm); (case zk5_C10r2 => k_asm); (case zk6_C10r2 => k_is); (case zk7_C10r2 => k_is); (case zk8_C10r2 => lia); (case zk9_C10r2 => first | exact BindsTo.of_eq rfl | exact binds_K (by k_in) rfl (by k_is) rfl rfl rfl); (case zc5_C10r2 => decide); (case zkB_C10r2 => exact locs rfl); (case zc2_C10r2 => exact rfl); (case zc3_C10r2 => exact rfl); (case zc4_C10r2 => exact rfl); k_whole; intro L' h' F' N' l1; (try k_lt l1); (try dsimp only); (try k_fold)) | fail)
  k_with "m:exec Raise some none" => (k_here; (with_reducible show wpAny _ _ (exec (Stmt.Raise (some (Expr.Call (Expr.Name _ _) _ _ _)) none _) _) _ _ _); k_dflt (refine Raise_mint (by exact rfl) ?_))
  k_with "m:call ref" => (k_here; (with_reducible show wpAny _ _ (call (Value.ref _) [Value.str _ _]) (RaisedO _) _ _); k_dflt (refine' mint_callN PySem.F.excBase_Exception ?zX_C10r4 ?zF_C10r4 ?zN_C10r4 ?zC_C10r4 ?zi_C10r4 ?zf_C10r4 ?zc_C10r4 ?_; (case zX_C10r4 => k_asm); (case zF_C10r4 => k_asm); (case zN_C10r4 => k_asm); (case zC_C10r4 => k_is); (case zi_C10r4 => k_is); (case zf_C10r4 => k_is); (case zc_C10r4 => rfl); k_whole); intro e' t' h' F' N' l1 l2; (try k_lt l1); (try k_lt2 l2); k_dflt (refine wpAny_call ?_; k_enter))
  k_with "m:getMethod type:Exception" => (k_here; refine' method_type ?zF_C10r5 ?zX_C10r5 ?zm_C10r5 (by decide +kernel) ?ze_C10r5 ?zh_C10r5 ?_; (case zF_C10r5 => k_asm); (case zX_C10r5 => k_asm); (case zm_C10r5 => exact meta_Exception); (case ze_C10r5 => k_dflt k_is); (case zh_C10r5 => k_handed))
  k_with "m:call builtin:Exception.__init__" => (k_here; k_dflt (refine' exc_initN' PySem.F.excBase_Exception ?zC_C10r6 ?zF_C10r6 ?zN_C10r6 ?zh2_C10r6 ?_; (case zF_C10r6 => k_asm); (case zN_C10r6 => k_asm); (case zC_C10r6 => exact Frag.In.keeps (by k_asm) (Fr.keep (by k_asm)) _ _ (by k_is)); (case zh2_C10r6 => k_all); k_whole); intro D' h' F' N' l1; (try simp only [List.nil_append] at F' N' l1); (try k_lt l1))
  k_with "m:setAttr ref" => (k_here; k_dflt (refine' exc_set2 ?zF_C10r7 ?zX_C10r7 ?zN_C10r7 ?ze_C10r7 ?zU_C10r7 ?zs_C10r7 ?zc_C10r7 ?zm_C10r7 ?zd_C10r7 ?zt_C10r7 ?zn_C10r7 ?zq_C10r7 ?zz_C10r7 ?_; (case zF_C10r7 => k_asm); (case zX_C10r7 => k_asm); (case zN_C10r7 => k_asm); (case ze_C10r7 => k_mem); (case zU_C10r7 => k_upd); (case zs_C10r7 => k_is); (case zc_C10r7 => k_is); (case zm_C10r7 => rfl); (case zd_C10r7 => rfl); (case zt_C10r7 => k_is); (case zn_C10r7 => rfl); (case zq_C10r7 => rfl); (case zz_C10r7 => exact Nat.le_of_ble_eq_true rfl); k_whole); intro h' tk' F' N')
  k_with "m:setAttr ref" => (k_here; k_dflt (refine' exc_set1' ?zF_C10r8 ?zX_C10r8 ?zN_C10r8 ?zh1_C10r8 ?zh2_C10r8 ?zs_C10r8 ?zc_C10r8 ?zm_C10r8 ?zd_C10r8 ?zt_C10r8 ?_; (case zF_C10r8 => k_asm); (case zX_C10r8 => k_asm); (case zN_C10r8 => k_asm); (case zh1_C10r8 => k_ne); (case zh2_C10r8 => k_all); (case zs_C10r8 => k_is); (case zc_C10r8 => k_is); (case zm_C10r8 => rfl); (case zd_C10r8 => rfl); (case zt_C10r8 => k_is); k_whole); intro D' h' tk' F' N' l1; (try simp only [List.cons_append, List.nil_append] at F' N' l1); (try k_lt l1))
  k_with "m:RaisedO" => (k_dflt (refine' raisedO_of ?zX_C10r9 ?zF_C10r9 ?zN_C10r9 ?ze_C10r9 ?zC_C10r9 ?zb_C10r9 ?_; (case zX_C10r9 => k_asm); (case zF_C10r9 => k_asm); (case zN_C10r9 => k_asm); (case ze_C10r9 => k_mem); (case zC_C10r9 => k_is); (case zb_C10r9 => rfl); k_whole))
  k_with "m:leaving ref" => (k_here; k_dflt (refine' leave_mint4 ?zK_C10r10 ?zF_C10r10 ?zN_C10r10 ?zh1_C10r10 ?zh2_C10r10 ?_; (case zK_C10r10 => k_asm); (case zF_C10r10 => k_asm); (case zN_C10r10 => k_asm); (case zh1_C10r10 => k_all); (case zh2_C10r10 => k_all); k_whole); intro h' R' RK' U'; (try dsimp only at R' RK' U' ⊢))
  k_with "m:eval ListComp" => (k_here; k_dflt (refine comp_evalU (by k_asm) (by with_unfolding_all rfl) (by decide) (by rfl) (by decide) (by rfl) ?_))
  k_with "m:SrcU" => (k_here; k_dflt (refine SrcOf.bytes (by rfl) (by k_asm) (by k_asm) (by rw [sizeLine_eq]; lia) (fun g' => ?_); refine bytes_strs figs ?_ ?_); (rotate_left; (intro ys' hs'); rotate_right; (intro k' t' I' oI' C' oC' D' ys' m' h' tk' E' hk0' hk1' hC' hx' F' N' off' ne')))
  k_with "m:call ref" => (k_here; (with_reducible show wpAny _ _ (call (Value.ref 80) [Value.int _ _, Value.int 2 _]) _ _ _); k_dflt (refine' callPure (figs_ok _ _ ?zh1_C10r13 ?zh2_C10r13 _ _) ?zB_C10r13 ?zF_C10r13 ?zX_C10r13 ?zN_C10r13 ?zT_C10r13 ?zA_C10r13 ?zf_C10r13 ?zk_C10r13 ?zd_C10r13 ?zu_C10r13 ?_; (case zh1_C10r13 => k_asm); (case zh2_C10r13 => k_asm); (case zF_C10r13 => k_asm); (case zB_C10r13 => k_asm); (case zX_C10r13 => k_asm); (case zN_C10r13 => k_asm); (case zT_C10r13 => k_asm); (case zA_C10r13 => exact rfl); (case zf_C10r13 => exact rfl); (case zk_C10r13 => exact rfl); (case zd_C10r13 => ktr_room); (case zu_C10r13 => ktr_units); k_whole; intro v' ns' h' tk' P' F' N' l1; obtain ⟨e1, t', e2⟩ := P'; subst e1 e2; (try simp only [List.nil_append] at N')))
  k_with "m:CompEnd" => (k_dflt (refine' compEnd_strs ?zF_C10r14 ?zN_C10r14 ?zoff_C10r14 ?zsub_C10r14 ?zS_C10r14 ?zr_C10r14; (case zF_C10r14 => k_asm); (case zN_C10r14 => k_asm); (case zr_C10r14 => exact rfl); (case zS_C10r14 => exact trivial)); (case zoff_C10r14 => k_asm); (case zsub_C10r14 => (intro p hp; exact hp)))
  k_with "m:FinE" => ((unfold LCg.FinE); intro D' h' tk' F' N' o1'; clear o1')
  k_with "m:call builtin:str.join" => (k_here; k_dflt (refine' join_figs ?zN_C10r16 ?zi_C10r16 ?zz_C10r16 ?_; (case zN_C10r16 => k_asm); (case zi_C10r16 => k_asm); (case zz_C10r16 => (rw [KBw.ints_length]; lia))); intro t' k')
  trivial

set_option maxRecDepth 100000 in
set_option maxHeartbeats 2000000 in
theorem octt_ok (w : World) (b : Array UInt8) (t : Tok) (hb : b.size ≤ 4) : Pure w 3 85 [.bytes b t] (fun v ns => ns = [] ∧ ∃ t', v = .str (octText (KBw.bInts b)) t') := by
  w_top off
  dsimp only [FnG, Pure]; k_fill; intros; rename_i hret
  cell_enter
  k_steps
  all_goals (try dsimp only)
  all_goals exact hret _ _ _ _ (Fr.keep (by assumption)) New.nil ⟨rfl, _, rfl⟩

end Mine
end
section
theorem Mine.none_Oct3 : True := by
  k_with_none
  w_top off
  trivial
set_option maxRecDepth 100000
open PySem PySem.W PySem.Calls PyProof.Rows PyProof.Rows.LCg PyProof.Rows.LCt PySem.SeqAt
namespace Mine
/-- a small figure's worth -/
def hvL (c : Nat) : Int := if 48 ≤ c ∧ c ≤ 57 then (c : Int) - 48 else if 97 ≤ c ∧ c ≤ 102 then (c : Int) - 87 else -1
def sgs (cs : List Nat) : List Nat := cs.filter fun c => !(c == 32)
def RunL (cs : List Nat) (ks : List Int) : Prop := (∀ c ∈ sgs cs, 0 ≤ hvL c) ∧ ks = (sgs cs).map hvL
theorem RunL.nil : RunL [] [] := ⟨List.forall_mem_nil _, rfl⟩
theorem sgs_snoc (cs : List Nat) (c : Nat) : sgs (cs ++ [c]) = if c = 32 then sgs cs else sgs cs ++ [c] := by
  unfold sgs
  rw [List.filter_append]
  by_cases h : c = 32
  · simp [h]
  · have : (c == 32) = false := by simpa using h
    simp [h, this]
theorem RunL.blank {cs : List Nat} {ks : List Int} (h : RunL cs ks) : RunL (cs ++ [32]) ks := by
  unfold RunL at h ⊢
  rw [sgs_snoc, if_pos rfl]; exact h
theorem RunL.snoc {cs : List Nat} {ks : List Int} {c : Nat} (h : RunL cs ks) (hc : c ≠ 32) (h0 : 0 ≤ hvL c) : RunL (cs ++ [c]) (ks ++ [hvL c]) := by
  unfold RunL at h ⊢
  rw [sgs_snoc, if_neg hc]
  refine ⟨fun d hd => ?_, by rw [h.2, List.map_append]; rfl⟩
  rcases List.mem_append.mp hd with hd | hd
  · exact h.1 d hd
  · rw [List.mem_singleton.mp hd]; exact h0
section
variable {prog : Program} {w : World} {A : Around} {E : Value → Shared → Prop} {s : Shared} {h₀ : Heap} {env : Env} {x : Str} {body : List Stmt} {Q : Flow → Shared → Prop}
theorem strRest_J {all : List Str} {J : Nat → (Str → Option Value) → List (Addr × Obj) → Prop} {I : Addr}
    (turn : ∀ i c m n u it h tk, all[i]? = some c → J i m n → Fr h₀ env.locals h (fun y => if y = x then some (.str c u) else m y) → News h₀ env.locals h ((I, it) :: n) →
      wpAny (model prog w) A (execs body env) (UnrPost h₀ env.locals { s with heap := h, toks := tk } I it (J (i + 1)) Q) E { s with heap := h, toks := tk })
    (fin : ∀ m n h tk, J all.length m n → Fr h₀ env.locals h m → News h₀ env.locals h n → Q .next { s with heap := h, toks := tk }) :
    ∀ (post : List Str) (i : Nat) (m : Str → Option Value) (n : List (Addr × Obj)), all.drop i = post → i ≤ all.length → J i m n → StrRest prog w A E h₀ env x body Q s I post m n
  | [] => fun i m n e hi hj h tk F N => by
    have : i = all.length := Nat.le_antisymm hi (List.drop_eq_nil_iff.mp e)
    subst this
    exact fin m n h tk hj F N
  | a :: post => fun i m n e hi hj u it h tk F N => by
    have hlt : i < all.length := by
      rcases Nat.lt_or_ge i all.length with q | q
      · exact q
      · rw [List.drop_eq_nil_iff.mpr q] at e; cases e
    have e2 := List.drop_eq_getElem_cons hlt
    rw [e] at e2
    have ea : all[i]? = some a := by rw [List.getElem?_eq_getElem hlt, (List.cons.inj e2).1]
    have ep : all.drop (i + 1) = post := (List.cons.inj e2).2.symm
    refine wpAny_mono (turn i a m n u it h tk ea hj F N) (fun f s₃ hf => ?_) fun _ _ x => x
    have rest : ∀ s₃, UnrEnd h₀ env.locals { s with heap := h, toks := tk } I it (J (i + 1)) s₃ → UnrEnd h₀ env.locals { s with heap := h, toks := tk } I it (StrRest prog w A E h₀ env x body Q s I post) s₃ := by
      rintro s₃ ⟨h', tk', m', n', e1, F', N', off, hJ'⟩
      exact ⟨h', tk', m', n', e1, F', N', off, strRest_J turn fin post (i + 1) m' n' ep hlt hJ'⟩
    cases f with
    | ret v => exact hf
    | brk => exact hf
    | next => exact rest _ hf
    | cont => exact rest _ hf
def OctJ (tx : Str) (D c : Addr) (oc : Obj) (i : Nat) (_ : Str → Option Value) (n : List (Addr × Obj)) : Prop :=
  ∃ vs ks ep, n = [(D, W.listOf vs.toArray ep), (c, oc)] ∧ IntsAre vs ks ∧ RunL (tx.cps.toList.take i) ks ∧ ks.length ≤ i
theorem iter_octs {tx : Str} {t : Tok} {D c : Addr} {oc : Obj} {ep : Nat} {m₀ : Str → Option Value} (hh : A.handled = none) (F : Fr h₀ env.locals s.heap m₀) (N : News h₀ env.locals s.heap [(D, W.listOf #[] ep), (c, oc)])
    (turn : ∀ (I : Addr) (i cp : Nat) (u : Tok) (it : Obj) (vs : List Value) (ks : List Int) (ep : Nat) (m : Str → Option Value) (h : Heap) (tk : Nat), (@LT.lt Nat _ D I) → (@LT.lt Nat _ c I) → tx.cps.toList[i]? = some cp → IntsAre vs ks → RunL (tx.cps.toList.take i) ks → ks.length ≤ i → i < tx.length →
      Fr h₀ env.locals h (fun y => if y = x then some (.str ⟨#[cp]⟩ u) else m y) → News h₀ env.locals h [(I, it), (D, W.listOf vs.toArray ep), (c, oc)] →
      wpAny (model prog w) A (execs body env) (UnrPost h₀ env.locals { s with heap := h, toks := tk } I it (OctJ tx D c oc (i + 1)) Q) E { s with heap := h, toks := tk })
    (fin : ∀ (vs : List Value) (ks : List Int) (ep : Nat) (m : Str → Option Value) (h : Heap) (tk : Nat), IntsAre vs ks → RunL tx.cps.toList ks → ks.length ≤ tx.length → Fr h₀ env.locals h m → News h₀ env.locals h [(D, W.listOf vs.toArray ep), (c, oc)] → Q .next { s with heap := h, toks := tk }) :
    wpAny (model prog w) A (pyIter (.str tx t)) (fun it s₂ => LoopAtV prog w A h₀ env x body Q E it s₂) E s := by
  refine iter_strUnr (l := tx.cps.toList.map fun c => ⟨#[c]⟩) hh F N rfl fun I hI => ?_
  refine strRest_J (J := OctJ tx D c oc) (all := tx.cps.toList.map fun c => ⟨#[c]⟩) ?_ ?_ _ 0 m₀ _ rfl (Nat.zero_le _) ⟨[], [], ep, rfl, .nil, RunL.nil, Nat.le_refl _⟩
  · rintro i cs m n u it h tk hi ⟨vs, ks, ep, rfl, hv, hr, hl⟩ F1 N1
    rw [List.getElem?_map] at hi
    cases e : tx.cps.toList[i]? with
    | none => rw [e] at hi; cases hi
    | some cp =>
      rw [e] at hi
      have ec := Option.some.inj hi
      subst ec
      have hlt : i < tx.length := by
        have := (List.getElem?_eq_some_iff.mp e).1
        simpa [Str.length] using this
      exact turn I i cp u it vs ks ep m h tk (hI _ (.head _)) (hI _ (.tail _ (.head _))) e hv hr hl hlt F1 N1
  · rintro m n h tk ⟨vs, ks, ep, rfl, hv, hr, hl⟩ F1 N1
    rw [List.length_map, List.take_length] at hr
    rw [List.length_map] at hl
    exact fin vs ks ep m h tk hv hr (by simpa [Str.length] using hl) F1 N1
theorem octs_blank {tx : Str} {D c I : Addr} {oc it : Obj} {i cp ep : Nat} {vs : List Value} {ks : List Int} {L : Addr} {s₁ : Shared} {h' : Heap} {tk : Nat} {m' : Str → Option Value} (F : Fr h₀ L h' m') (N : News h₀ L h' [(I, it), (D, W.listOf vs.toArray ep), (c, oc)])
    (hD : @LT.lt Nat _ D I) (hc : @LT.lt Nat _ c I) (hcp : tx.cps.toList[i]? = some cp) (hv : IntsAre vs ks) (hr : RunL (tx.cps.toList.take i) ks) (hl : ks.length ≤ i) (hs : cp = 32) :
    UnrEnd h₀ L s₁ I it (OctJ tx D c oc (i + 1)) { s₁ with heap := h', toks := tk } := by
  refine ⟨h', tk, m', _, rfl, F, N, fun p hp => ?_, vs, ks, ep, rfl, hv, ?_, by lia⟩
  · rcases List.mem_cons.mp hp with rfl | hp
    · exact Nat.ne_of_lt hD
    · rw [List.mem_singleton.mp hp]; exact Nat.ne_of_lt hc
  · rw [List.take_add_one, hcp, hs]; exact hr.blank
theorem ints_snoc {vs : List Value} {ks : List Int} (h : IntsAre vs ks) (k : Int) (t : Tok) : IntsAre (vs ++ [.int k t]) (ks ++ [k]) := by
  induction h with
  | nil => exact .cons _ _ .nil
  | cons n t _ ih => exact .cons _ _ ih
theorem octs_fig {tx : Str} {D c I : Addr} {oc it : Obj} {i cp ep : Nat} {vs : List Value} {ks : List Int} {L : Addr} {s₁ : Shared} {h' : Heap} {tk : Nat} {m' : Str → Option Value} {k : Int} {t : Tok} {us : Array Value} (F : Fr h₀ L h' m') (N : News h₀ L h' [(I, it), (D, W.listOf us ep), (c, oc)]) (hus : us = (vs ++ [Value.int k t]).toArray)
    (hD : @LT.lt Nat _ D I) (hc : @LT.lt Nat _ c I) (hcp : tx.cps.toList[i]? = some cp) (hv : IntsAre vs ks) (hr : RunL (tx.cps.toList.take i) ks) (hl : ks.length ≤ i) (hs : cp ≠ 32) (hk : k = hvL cp) (h0 : 0 ≤ k) :
    UnrEnd h₀ L s₁ I it (OctJ tx D c oc (i + 1)) { s₁ with heap := h', toks := tk } := by
  subst hus
  refine ⟨h', tk, m', _, rfl, F, N, fun p hp => ?_, _, ks ++ [k], ep, rfl, ints_snoc hv k t, ?_, by simp; lia⟩
  · rcases List.mem_cons.mp hp with rfl | hp
    · exact Nat.ne_of_lt hD
    · rw [List.mem_singleton.mp hp]; exact Nat.ne_of_lt hc
  · rw [List.take_add_one, hcp]
    subst hk
    exact hr.snoc hs h0
end
end Mine
end
section
theorem Mine.none_Exc3 : True := by
  k_with_none
  w_top off
  trivial
set_option maxRecDepth 100000
open PySem PySem.W PySem.Calls PyProof.Rows
namespace Mine
theorem mem_env {env : Env} {L b : Addr} {outer : List Env} (hf : env.frame = some L) (hm : b ∈ (env :: outer).filterMap (·.frame)) : b = L ∨ b ∈ outer.filterMap (·.frame) := by
  obtain ⟨ev, he, hfe⟩ := List.mem_filterMap.mp hm
  rcases List.mem_cons.mp he with rfl | he
  · exact .inl (Option.some.inj (hf.symm.trans hfe)).symm
  · exact .inr (List.mem_filterMap.mpr ⟨ev, he, hfe⟩)
section
variable {M : Model} {A : Around} {E : Value → Shared → Prop} {s' : Shared} {base g : Heap} {outer : List Env} {L e t : Addr} {m : Str → Option Value} {env : Env} {Q : Unit → Shared → Prop} {news news' : List (Addr × Obj)}
theorem leave_mintE {C : Addr} {vs : List Value} {n : Nat} {od : Option Addr} {sl : Array (Option Value)} (K : Below A base outer g) (F : Fr g L s'.heap m) (N : News g L s'.heap news)
    (he : (e, (⟨.ref C, od, .fields #[.ref t, .none, .none, .none, .bool false, .none], sl⟩ : Obj)) ∈ news) (ht : (t, ({ cls := .type "tuple", data := .seq vs.toArray n } : Obj)) ∈ news)
    (hn : ∀ p ∈ news', p ∈ news ∧ p.1 ≠ e ∧ p.1 ≠ t)
    (hQ : ∀ h', RaisedS base g outer e (.ref C) t vs news' h' → RaisedK base outer e (.ref C) t vs news' h' → g.UpToSlots h' → Q () { s' with heap := h' }) (hf : env.frame = some L) (hk : env.scope.kind = .function) :
    wpAny M (A.deeper env) (leaving env (.ref e)) Q E s' := by
  have K' := pushX K F hf hk
  have hin : ∀ ev ∈ (env :: outer), ∀ b, ev.frame = some b → b ∈ (env :: outer).filterMap (·.frame) ++ [e, t] := fun ev he b hb => List.mem_append_left _ (List.mem_filterMap.mpr ⟨ev, he, hb⟩)
  have gE := (N _ he).2.2
  have gT := (N _ ht).2.2
  have st : base.StaysIn (hideAll s'.heap ((env :: outer).filterMap (·.frame) ++ [e, t])) := fun b o q => hideAll_get _ (K'.stays b o q) fun hm => by
    rcases List.mem_append.mp hm with hm | hm
    · rw [(K'.frames.mem hm).1] at q; cases q
    · have := fresh_of_stays K.stays gE
      have := fresh_of_stays K.stays gT
      simp only [List.mem_cons, List.not_mem_nil, or_false] at hm
      rcases hm with rfl | rfl <;> simp_all
  have sg : ∀ b o, g.get? b = some o → b ∉ outer.filterMap (·.frame) → (hideAll s'.heap ((env :: outer).filterMap (·.frame) ++ [e, t])).get? b = some o := fun b o q nm => hideAll_get _ (F.keep b o q) fun hm => by
    rcases List.mem_append.mp hm with hm | hm
    · rcases mem_env hf hm with z | z
      · rw [z, kts_self F] at q
        cases q
      · exact nm z
    · simp only [List.mem_cons, List.not_mem_nil, or_false] at hm
      rcases hm with rfl | rfl <;> simp_all
  have hl : ∀ q ∈ news', (hideAll s'.heap ((env :: outer).filterMap (·.frame) ++ [e, t])).get? q.1 = some q.2 ∧ g.get? q.1 = none ∧ base.get? q.1 = none := fun q hq => by
    obtain ⟨hq, n1, n2⟩ := hn q hq
    refine ⟨hideAll_get _ (N q hq).1 fun hm => ?_, (N q hq).2.2, fresh_of_stays K.stays (N q hq).2.2⟩
    rcases List.mem_append.mp hm with hm | hm
    · obtain ⟨ev, he, hfe⟩ := List.mem_filterMap.mp hm
      rcases List.mem_cons.mp he with rfl | he
      · exact (N q hq).2.1 (Option.some.inj (hf.symm.trans hfe)).symm
      · obtain ⟨o, ho, _⟩ := (K.frames.mem (List.mem_filterMap.mpr ⟨ev, he, hfe⟩)).2
        rw [(N q hq).2.2] at ho; cases ho
    · simp only [List.mem_cons, List.not_mem_nil, or_false] at hm
      rcases hm with z | z
      · exact n1 z
      · exact n2 z
  have hE' := (N _ he).1
  have hT' := (N _ ht).1
  have bE : (hideAll s'.heap ((env :: outer).filterMap (·.frame) ++ [e, t])).get? e = none := hideAll_none _ (by simp)
  have bT : (hideAll s'.heap ((env :: outer).filterMap (·.frame) ++ [e, t])).get? t = none := hideAll_none _ (by simp)
  refine wpAny_leaving_firstW (base := hideAll s'.heap ((env :: outer).filterMap (·.frame) ++ [e, t])) (a0 := .ref t) K'.stack (funFrames_hide K'.frames hin) hf hE' (fun b o q => of_hideAll _ q) bE rfl rfl rfl fun h' hL => ?_
  obtain ⟨k1, ⟨_, _, k2⟩, k3, k4⟩ := hL
  have R : RaisedS base g outer e (.ref C) t vs news' h' := ⟨⟨_, st, sg, hl, ⟨k1, bE, k2, k3⟩, bT⟩, Heap.TupAt.of_slots ⟨_, n, hT', rfl, rfl⟩ k4⟩
  exact hQ h' R R.toK ((Heap.UpToSlots.of_keeps F.keep).trans k4)

theorem leave_mint4E {C D t₀ : Addr} {oD o₀ : Obj} {vs : List Value} {n : Nat} {od : Option Addr} {sl : Array (Option Value)} {rest : List (Addr × Obj)} (K : Below A base outer g) (F : Fr g L s'.heap m)
    (N : News g L s'.heap ((D, oD) :: (t, ({ cls := .type "tuple", data := .seq vs.toArray n } : Obj)) :: (e, (⟨.ref C, od, .fields #[.ref t, .none, .none, .none, .bool false, .none], sl⟩ : Obj)) :: (t₀, o₀) :: rest))
    (h1 : ∀ p ∈ rest, p.1 ≠ e) (h2 : ∀ p ∈ rest, p.1 ≠ t)
    (hQ : ∀ h', RaisedS base g outer e (.ref C) t vs rest h' → RaisedK base outer e (.ref C) t vs rest h' → g.UpToSlots h' → Q () { s' with heap := h' }) (hf : env.frame = some L) (hk : env.scope.kind = .function) :
    wpAny M (A.deeper env) (leaving env (.ref e)) Q E s' :=
  leave_mintE K F N (.tail _ (.tail _ (.head _))) (.tail _ (.head _)) (fun p hp => ⟨.tail _ (.tail _ (.tail _ (.tail _ hp))), h1 p hp, h2 p hp⟩) hQ hf hk

end
end Mine
end
section
theorem Mine.none_Oct4 : True := by
  k_with_none
  w_top off
  trivial
set_option maxRecDepth 100000
open PySem PySem.W PySem.Calls PyProof.Rows PyProof.Rows.LCg PyProof.Rows.LCt PySem.SeqAt
namespace Mine
theorem findF_eq {c : Nat} (h : c < 128) : Txt.find (Str.ofString "0123456789abcdef") ⟨#[c]⟩ = hvL c := by
  have : ∀ d < 128, Txt.find (Str.ofString "0123456789abcdef") ⟨#[d]⟩ = hvL d := by decide +kernel
  exact this c h
theorem sign_blank {c : Nat} : ((⟨#[c]⟩ : Str) == Str.ofString " ") = (c == 32) := by
  by_cases h : c = 32
  · subst h; decide
  · have h1 : (c == 32) = false := by simpa using h
    rw [h1]
    have : ¬ ((⟨#[c]⟩ : Str) = Str.ofString " ") := fun e => by
      have := congrArg Str.cps e
      have e2 : (Str.ofString " ").cps = #[32] := by decide
      rw [e2] at this
      exact h (by simpa using this)
    simpa using this
/-- the worth of every two figures -/
def pairsL (ks : List Int) : List Int := (List.range (ks.length / 2)).map fun i => 16 * ks.getD (2 * i) 0 + ks.getD (2 * i + 1) 0
def GoodL (cs : List Nat) : Prop := (∀ c ∈ sgs cs, 0 ≤ hvL c) ∧ (sgs cs).length % 2 = 0
def ValL (cs : List Nat) : List Int := pairsL ((sgs cs).map hvL)
theorem hvL_in (c : Nat) : hvL c < 16 := by
  unfold hvL
  repeat' split
  all_goals lia
theorem run_in {cs : List Nat} {ks : List Int} (h : RunL cs ks) : ∀ k ∈ ks, 0 ≤ k ∧ k < 16 := fun k hk => by
  rw [h.2] at hk
  obtain ⟨c, hc, rfl⟩ := List.mem_map.mp hk
  exact ⟨h.1 c hc, hvL_in c⟩
theorem getD_in {ks : List Int} (h : ∀ k ∈ ks, 0 ≤ k ∧ k < 16) (i : Nat) : 0 ≤ ks.getD i 0 ∧ ks.getD i 0 < 16 := by
  rw [List.getD_eq_getElem?_getD]
  cases e : ks[i]? with
  | none => simp
  | some k => exact h k (List.mem_of_getElem? e)
theorem pairs_in {ks : List Int} (h : ∀ k ∈ ks, 0 ≤ k ∧ k < 16) : ∀ k ∈ pairsL ks, 0 ≤ k ∧ k < 256 := fun k hk => by
  obtain ⟨i, _, rfl⟩ := List.mem_map.mp hk
  have h1 := getD_in h (2 * i)
  have h2 := getD_in h (2 * i + 1)
  lia
theorem small_two {n : Nat} (h : n ≤ 100000) : Builtin.Range.small 0 (n : Int) 2 = true := by
  have hz : 0 ≤ Builtin.Range.rangeSize 0 (n : Int) 2 ∧ Builtin.Range.rangeSize 0 (n : Int) 2 ≤ 100000 := by
    unfold Builtin.Range.rangeSize
    rw [if_pos (by decide)]
    split <;> lia
  unfold Builtin.Range.small
  revert hz
  generalize Builtin.Range.rangeSize 0 (n : Int) 2 = z
  intro hz
  have f1 : Builtin.Range.rangeFitsLong 0 = true := by decide
  have fz : ∀ k : Int, -300000 ≤ k → k ≤ 300000 → Builtin.Range.rangeFitsLong k = true := fun k h1 h2 => by
    unfold Builtin.Range.rangeFitsLong
    rw [decide_eq_true (by lia), decide_eq_true (by lia)]; rfl
  rw [f1, fz _ (by lia) (by lia), fz 2 (by lia) (by lia), fz z (by lia) (by lia), if_pos (by decide), fz _ (by lia) (by lia)]
  cases z == 0 <;> rfl
theorem even_of {n : Nat} (h : (n : Int).fmod 2 ≠ 1) : n % 2 = 0 := by
  rw [Int.fmod_eq_emod_of_nonneg _ (by decide)] at h
  lia
theorem odd_of {n : Nat} (h : (n : Int).fmod 2 = 1) : n % 2 = 1 := by
  rw [Int.fmod_eq_emod_of_nonneg _ (by decide)] at h
  lia
theorem two_at (i : Nat) : ((i : Int) * 2).toNat = 2 * i ∧ ((i : Int) * 2 + 1).toNat = 2 * i + 1 := by constructor <;> lia
section
variable {prog : Program} {w : World} {A : Around} {E : Value → Shared → Prop} {s : Shared} {h₀ : Heap} {L : Addr} {m : Str → Option Value} {env : Env} {news : List (Addr × Obj)}
theorem octs_blank2 {tx : Str} {D c I : Addr} {oc it : Obj} {i cp ep : Nat} {vs : List Value} {ks : List Int} {L : Addr} {s₁ : Shared} {h' : Heap} {tk : Nat} {m' : Str → Option Value} (hs : ((⟨#[cp]⟩ : Str) == Str.ofString " ") = true) (F : Fr h₀ L h' m') (N : News h₀ L h' [(I, it), (D, W.listOf vs.toArray ep), (c, oc)])
    (hD : @LT.lt Nat _ D I) (hc : @LT.lt Nat _ c I) (hcp : tx.cps.toList[i]? = some cp) (hv : IntsAre vs ks) (hr : RunL (tx.cps.toList.take i) ks) (hl : ks.length ≤ i) :
    UnrEnd h₀ L s₁ I it (OctJ tx D c oc (i + 1)) { s₁ with heap := h', toks := tk } :=
  octs_blank F N hD hc hcp hv hr hl (by rw [sign_blank] at hs; simpa using hs)
theorem octs_fig2 {tx : Str} {D c I : Addr} {oc it : Obj} {i cp ep : Nat} {vs : List Value} {ks : List Int} {L : Addr} {s₁ : Shared} {h' : Heap} {tk : Nat} {m' : Str → Option Value} {t : Tok} (hs : ((⟨#[cp]⟩ : Str) == Str.ofString " ") = false) (F : Fr h₀ L h' m') (N : News h₀ L h' [(I, it), (D, W.listOf (vs.toArray.push (.int (Txt.find (Str.ofString "0123456789abcdef") ⟨#[cp]⟩) t)) ep), (c, oc)])
    (hD : @LT.lt Nat _ D I) (hc : @LT.lt Nat _ c I) (hcp : tx.cps.toList[i]? = some cp) (hv : IntsAre vs ks) (hr : RunL (tx.cps.toList.take i) ks) (hl : ks.length ≤ i)
    (h0 : ¬ Txt.find (Str.ofString "0123456789abcdef") ⟨#[cp]⟩ < 0) (hsg : Signs (· < 128) tx) :
    UnrEnd h₀ L s₁ I it (OctJ tx D c oc (i + 1)) { s₁ with heap := h', toks := tk } := by
  have h128 : cp < 128 := hsg cp (List.mem_of_getElem? hcp)
  refine octs_fig (t := t) F N (by simp) hD hc hcp hv hr hl (by rw [sign_blank] at hs; simpa using hs) (findF_eq h128) ?_
  lia
theorem len_intsK {a : Addr} {vs : List Value} {ks : List Int} {ep : Nat} {Q : Value → Shared → Prop} (N : News h₀ L s.heap news) (hl : (a, W.listOf vs.toArray ep) ∈ news) (hi : IntsAre vs ks) (hz : ks.length ≤ 100000)
    (h : ∀ t' k, Q (.int (ks.length : Int) t') { s with toks := k }) : wpAny (model prog w) A (call (.builtin "len") [.ref a]) Q E s := by
  have e := hi.length
  refine call_len_list (items := vs.toArray) ⟨_, (N _ hl).1, rfl, _, rfl⟩ ?_ ?_
  · simp; lia
  · simp only [List.size_toArray, e]; exact h _ _
theorem item_intsK {value slice : PySem.Expr} {a : Addr} {vs : List Value} {ks : List Int} {k : Int} {u : Tok} {ep : Nat} {Q : Value → Shared → Prop} (N : News h₀ L s.heap news) (hl : (a, W.listOf vs.toArray ep) ∈ news) (hi : IntsAre vs ks)
    (h0 : 0 ≤ k) (hk : k.toNat < ks.length) (hfit : k < 2 ^ 62) (hr : ∀ k ∈ ks, 0 ≤ k ∧ k < 16) (h : ∀ t', 0 ≤ ks.getD k.toNat 0 → ks.getD k.toNat 0 < 16 → Q (.int (ks.getD k.toNat 0) t') s)
    (hs : subscripted slice false (.ref a) (.int k u) = operate [.ref a, .int k u] (getItem (.ref a) (.int k u)) := by with_unfolding_all rfl) (hg : ∀ r, letTemporaryGo value (.ref a) r = pure () := by intro _; with_unfolding_all rfl) :
    wpAny (model prog w) A (subscriptTail value slice (.ref a) (.int k u)) Q E s := by
  have e : ∀ {vs : List Value} {ks : List Int} (_ : IntsAre vs ks) (n : Nat), n < ks.length → ∃ t, vs[n]? = some (.int (ks.getD n 0) t) := by
    intro vs ks hi
    induction hi with
    | nil => intro n hn; exact absurd hn (Nat.not_lt_zero _)
    | cons x t _ ih =>
      intro n hn
      cases n with
      | zero => exact ⟨t, rfl⟩
      | succ n => obtain ⟨t', e⟩ := ih n (by simpa using hn); exact ⟨t', by simpa using e⟩
  obtain ⟨t, ht⟩ := e hi k.toNat hk
  have hb := getD_in hr k.toNat
  exact item_listL ⟨_, (N _ hl).1, rfl, _, rfl⟩ h0 (by lia) ht (h t hb.1 hb.2) hs hg
theorem comp_pairs {elt : PySem.Expr} {x : Str} {scope : Scope} {cl : List (Str × Addr)} {S : List (Addr × Obj) → Prop} {Fin : List Value → List (Addr × Obj) → Prop} (ks : List Int)
    (turn : ∀ i ys t I oI C oC D m₂ h tk (E' : Value → Shared → Prop), i < ks.length / 2 → NsObj oC m₂ → m₂ x = some (.int ((i : Int) * 2) t) → Fr h₀ L h m → News h₀ L h ((I, oI) :: (C, oC) :: (D, lst ys) :: news) → Off3 I C D news → ((@Ne Nat I C) ∧ (@Ne Nat I D) ∧ (@Ne Nat C D)) →
      wpAny (model prog w) A (eval elt (compEnvC scope cl C env)) (CompEnd h₀ L m { s with heap := h, toks := tk } I oI C oC D (lst ys) S (fun y news' => news' = news ∧ ∃ t, y = .int (16 * ks.getD (2 * i) 0 + ks.getD (2 * i + 1) 0) t)) E' { s with heap := h, toks := tk })
    (fin : ∀ ys, IntsAre ys (pairsL ks) → Fin ys news) : CompRest prog w A h₀ L m env elt x scope cl s S (fun i v => ∃ t, v = .int (0 + (i : Int) * 2) t) Fin (ks.length / 2) 0 [] news := by
  refine comp_J (fun i ys nw => nw = news ∧ IntsAre ys ((List.range i).map fun i => 16 * ks.getD (2 * i) 0 + ks.getD (2 * i + 1) 0)) ?_ ?_ ⟨rfl, .nil⟩
  · rintro i ys nw v I oI C oC D m₂ h tk E' hi ⟨rfl, hy⟩ ⟨t, rfl⟩ hC hx F N off ne
    rw [Int.zero_add] at hx
    refine wpAny_mono (turn i ys t I oI C oC D m₂ h tk E' hi hC hx F N off ne) (fun y s₂ hq => ?_) fun _ _ e => e
    obtain ⟨h', tk', nw', e1, F', N', off', hS, e2, t, e3⟩ := hq
    refine ⟨h', tk', nw', e1, F', N', off', hS, e2, ?_⟩
    rw [e3, List.range_succ, List.map_append]
    exact ints_snoc hy _ _
  · rintro ys nw ⟨rfl, hy⟩
    exact fin ys hy
theorem pairsEnd {I C D : Addr} {s₁ : Shared} {oI oC oD : Obj} {S : List (Addr × Obj) → Prop} {h' : Heap} {tk : Nat} {all : List (Addr × Obj)} {a z : Int} {t : Tok}
    (F : Fr h₀ L h' m) (N : News h₀ L h' all) (off : Off3 I C D news) (sub : ∀ p ∈ (I, oI) :: (C, oC) :: (D, oD) :: news, p ∈ all) (hS : S news) (e : a = z) :
    CompEnd h₀ L m s₁ I oI C oC D oD S (fun y nw => nw = news ∧ ∃ t, y = .int z t) (.int a t) { s₁ with heap := h', toks := tk } := CompEnd.intro F N news sub off hS ⟨rfl, t, by rw [e]⟩
theorem range2 (n : Nat) (h : n % 2 = 0) : Builtin.Range.rangeSize 0 (n : Int) 2 = ((n / 2 : Nat) : Int) := by
  unfold Builtin.Range.rangeSize
  simp
  lia
theorem bytes_pairs {l : Addr} {ys : List Value} {ks : List Int} {Q : Value → Shared → Prop} (N : News h₀ L s.heap ((l, lst ys) :: news)) (hi : IntsAre ys (pairsL ks)) (hr : ∀ k ∈ ks, 0 ≤ k ∧ k < 16) (hz : ks.length ≤ 100000) (hh : A.handled = none) (F : Fr h₀ L s.heap m)
    (h : ∀ t h' k, Fr h₀ L h' m → News h₀ L h' ((l, lst ys) :: news) → Q (.bytes (byteArr (pairsL ks)) t) { s with heap := h', toks := k }) : wpAny (model prog w) A (call (.type "bytes") [.ref l]) Q E s := by
  have hlen : ys.length = (pairsL ks).length := hi.length
  have hl2 : (pairsL ks).length = ks.length / 2 := by simp [pairsL]
  exact call_bytes_ints ⟨_, (N _ (.head _)).1, rfl, _, rfl⟩ hi (pairs_in hr) (by rw [sizeLine_eq]; lia) hh fun h' t k hk => h t h' k (F.keeps hk) (fun q hq => ⟨hk _ _ (N q hq).1, (N q hq).2⟩)
end
theorem bad_sign {tx : Str} {i cp : Nat} (hsg : Signs (· < 128) tx) (hcp : tx.cps.toList[i]? = some cp) (hs : ((⟨#[cp]⟩ : Str) == Str.ofString " ") = false) (hneg : Txt.find (Str.ofString "0123456789abcdef") ⟨#[cp]⟩ < 0) : ¬ GoodL tx.cps.toList := fun hg => by
  have hm := List.mem_of_getElem? hcp
  rw [findF_eq (hsg cp hm)] at hneg
  rw [sign_blank] at hs
  have := hg.1 cp (List.mem_filter.mpr ⟨hm, by rw [hs]; rfl⟩)
  lia
theorem odd_bad {cs : List Nat} {ks : List Int} (hr : RunL cs ks) (h : (ks.length : Int).fmod 2 = 1) : ¬ GoodL cs := fun hg => by
  have := odd_of h
  rw [hr.2, List.length_map] at this
  have := hg.2
  lia
theorem good_run {cs : List Nat} {ks : List Int} (hr : RunL cs ks) (h : (ks.length : Int).fmod 2 ≠ 1) : GoodL cs := by
  refine ⟨hr.1, ?_⟩
  have := even_of h
  rw [hr.2, List.length_map] at this
  exact this
theorem val_run {cs : List Nat} {ks : List Int} (hr : RunL cs ks) : pairsL ks = ValL cs := by rw [hr.2]; rfl
theorem db1 {i n : Nat} (h : i < n / 2) : ((i : Int) * 2).toNat < n := Nat.lt_of_lt_of_le (Nat.mul_lt_mul_of_pos_right h (by decide)) (Nat.div_mul_le_self n 2)
theorem db2 {i n : Nat} (h : i < n / 2) : ((i : Int) * 2 + 1).toNat < n := by
  have := Nat.mul_le_mul_right 2 h
  rw [Nat.succ_mul] at this
  exact Nat.lt_of_lt_of_le (Nat.lt_succ_self (i * 2 + 1)) (Nat.le_trans this (Nat.div_mul_le_self n 2))
theorem db0 {m : Nat} (h : m < 1000) : (m : Int) < 2 ^ 62 := Int.lt_of_lt_of_le (Int.ofNat_lt.mpr h) (by decide)
theorem dbx {i n x : Nat} (h : i < n / 2) (c : n ≤ x) (a : x ≤ 300) : i * 2 + 1 < 1000 := Nat.lt_of_lt_of_le (show ((i : Int) * 2 + 1).toNat < n from db2 h) (Nat.le_trans c (Nat.le_trans a (by decide)))
theorem db3 {i n l x : Nat} (h : i < n / 2) (c : n ≤ l) (b : l ≤ 3 * x) (a : x ≤ 100) : (i : Int) * 2 < 2 ^ 62 := db0 (m := i * 2) (Nat.lt_of_succ_lt (dbx h c (Nat.le_trans b (Nat.mul_le_mul_left 3 a))))
theorem db4 {i n l x : Nat} (h : i < n / 2) (c : n ≤ l) (b : l ≤ 3 * x) (a : x ≤ 100) : (i : Int) * 2 + 1 < 2 ^ 62 := db0 (m := i * 2 + 1) (dbx h c (Nat.le_trans b (Nat.mul_le_mul_left 3 a)))
theorem db5 {i n x : Nat} (h : i < n / 2) (c : n ≤ x) (a : x ≤ 100) : (i : Int) * 2 < 2 ^ 62 := db0 (m := i * 2) (Nat.lt_of_succ_lt (dbx h c (Nat.le_trans a (by decide))))
theorem db6 {i n x : Nat} (h : i < n / 2) (c : n ≤ x) (a : x ≤ 100) : (i : Int) * 2 + 1 < 2 ^ 62 := db0 (m := i * 2 + 1) (dbx h c (Nat.le_trans a (by decide)))
theorem db7 {n l x : Nat} (c : n ≤ l) (b : l ≤ 3 * x) (a : x ≤ 100) : n ≤ 16777216 := Nat.le_trans c (Nat.le_trans b (Nat.le_trans (Nat.mul_le_mul_left 3 a) (by decide)))
theorem db8 {n l x : Nat} (c : n ≤ l) (b : l ≤ 3 * x) (a : x ≤ 100) : n ≤ 100000 := Nat.le_trans c (Nat.le_trans b (Nat.le_trans (Nat.mul_le_mul_left 3 a) (by decide)))
theorem db9 {n l x : Nat} (c : n ≤ l) (b : l ≤ 3 * x) (a : x ≤ 100) : n / 2 ≤ 16777216 := Nat.le_trans (Nat.div_le_self n 2) (db7 c b a)
theorem dbA {n i l x : Nat} (c : n ≤ i) (d : i < l) (b : l ≤ 3 * x) (a : x ≤ 100) : n ≤ 16777216 := db7 (Nat.le_trans c (Nat.le_of_lt d)) b a
theorem dbB {n x : Nat} (c : n ≤ x) (a : x ≤ 100) : n / 2 ≤ 16777216 := Nat.le_trans (Nat.div_le_self n 2) (Nat.le_trans c (Nat.le_trans a (by decide)))
end Mine
end
section
open PySem PySem.W PySem.Calls PyProof.Rows
namespace Mine
theorem rows_C12_1 : True := by
  k_with_none
  k_with "m:on" => skip
  k_with "m:klt" => (intro l0; replace l0 := allLt_of l0; dsimp only [AllLt] at l0; (repeat (have := And.left l0; replace l0 := And.right l0)); revert l0)
  k_with "m:oq" => first | with_reducible (first | exact db1 (by assumption) | exact db2 (by assumption) | exact db3 (by assumption) (by assumption) (by assumption) (by assumption) | exact db4 (by assumption) (by assumption) (by assumption) (by assumption) | exact db5 (by assumption) (by assumption) (by assumption) | exact db6 (by assumption) (by assumption) (by assumption) | exact db7 (by assumption) (by assumption) (by assumption) | exact db8 (by assumption) (by assumption) (by assumption) | exact db9 (by assumption) (by assumption) (by assumption) | exact dbA (by assumption) (by assumption) (by assumption) (by assumption) | exact dbB (by assumption) (by assumption)) | k_dflt lia
  k_with "m:ktr_room" => k_dflt (first | exact rm1 (by with_reducible assumption) rfl | exact rm2 (by with_reducible assumption) rfl | exact rm3 (by with_reducible assumption) rfl)
  k_with "m:ktr_units" => k_dflt (first | exact un0 (by with_reducible assumption) rfl | exact un1 (by with_reducible assumption) rfl | exact un2 (by with_reducible assumption) rfl | exact un3 (by with_reducible assumption) rfl)
  k_with "m:k_ne" => (refine neN ?_; (try dsimp only); first | with_reducible assumption | exact Ne.symm (by with_reducible assumption) | exact Nat.ne_of_lt (by with_reducible assumption) | exact Nat.ne_of_gt (by with_reducible assumption) | k_extra "m:oq")
  k_with "m:cell_enter" => (refine' enterGC ?zk1_C12r1 ?zk2_C12r1 ?zk3_C12r1 ?zk4_C12r1 ?zk5_C12r1 ?zk6_C12r1 ?zk7_C12r1 ?zk8_C12r1 ?zk9_C12r1 ?zkB_C12r1 ?zkD_C12r1 ?_ ?zc2_C12r1 ?zc3_C12r1 ?zc4_C12r1; (case zk1_C12r1 => k_asm); (case zk2_C12r1 => k_asm); (case zk3_C12r1 => k_asm); (case zk4_C12r1 => k_asm); (case zk5_C12r1 => k_asm); (case zk6_C12r1 => k_is); (case zk7_C12r1 => k_is); (case zk8_C12r1 => k_extra "m:oq"); (case zk9_C12r1 => first | exact BindsTo.of_eq rfl | exact binds_K (by k_in) rfl (by k_is) rfl rfl rfl); (case zkB_C12r1 => exact rfl); (case zkD_C12r1 => decide +kernel); (case zc2_C12r1 => exact rfl); (case zc3_C12r1 => exact rfl); (case zc4_C12r1 => exact rfl); k_whole; intro L' h' tk' cells' F' N' Y' l1; (try k_lt l1); k_cells Y'; (try simp only [List.cons_append, List.nil_append, List.append_nil] at N'); (try dsimp only); (try k_fold))
  k_with "m:cell_enter" => (first | (refine' enterG ?zk1_C12r2 ?zk2_C12r2 ?zk3_C12r2 ?zk4_C12r2 ?zk5_C12r2 ?zk6_C12r2 ?zk7_C12r2 ?zk8_C12r2 ?zk9_C12r2 ?zkB_C12r2 ?_ ?zc2_C12r2 ?zc3_C12r2 ?zc4_C12r2 ?zc5_C12r2; (case zk1_C12r2 => k_asm); (case zk2_C12r2 => k_asm); (case zk3_C12r2 => k_asm); (case zk4_C12r2 => k_asm); (case zk5_C12r2 => k_asm); (case zk6_C12r2 => k_is); (case zk7_C12r2 => k_is); (case zk8_C12r2 => k_extra "m:oq"); (case zk9_C12r2 => first | exact BindsTo.of_eq rfl | exact binds_K (by k_in) rfl (by k_is) rfl rfl rfl); (case zc5_C12r2 => decide); (case zkB_C12r2 => exact locs rfl); (case zc2_C12r2 => exact rfl); (case zc3_C12r2 => exact rfl); (case zc4_C12r2 => exact rfl); k_whole; intro L' h' F' N' l1; (try k_lt l1); (try dsimp only); (try k_fold)) | fail)
  k_with "m:exec Raise some none" => (k_here; (with_reducible show wpAny _ _ (exec (Stmt.Raise (some (Expr.Call (Expr.Name _ _) _ _ _)) none _) _) _ _ _); k_dflt (refine Raise_mint (by exact rfl) ?_))
  k_with "m:call ref" => (k_here; (with_reducible show wpAny _ _ (call (Value.ref _) [Value.str _ _]) (RaisedO _) _ _); k_dflt (refine' mint_callN PySem.F.excBase_Exception ?zX_C12r4 ?zF_C12r4 ?zN_C12r4 ?zC_C12r4 ?zi_C12r4 ?zf_C12r4 ?zc_C12r4 ?_; (case zX_C12r4 => k_asm); (case zF_C12r4 => k_asm); (case zN_C12r4 => k_asm); (case zC_C12r4 => k_is); (case zi_C12r4 => k_is); (case zf_C12r4 => k_is); (case zc_C12r4 => rfl); k_whole); intro e' t' h' F' N' l1 l2; (try k_lt l1); (try k_lt2 l2); k_dflt (refine wpAny_call ?_; k_enter))
  k_with "m:getMethod type:Exception" => (k_here; refine' method_type ?zF_C12r5 ?zX_C12r5 ?zm_C12r5 (by decide +kernel) ?ze_C12r5 ?zh_C12r5 ?_; (case zF_C12r5 => k_asm); (case zX_C12r5 => k_asm); (case zm_C12r5 => exact meta_Exception); (case ze_C12r5 => k_dflt k_is); (case zh_C12r5 => k_handed))
  k_with "m:call builtin:Exception.__init__" => (k_here; k_dflt (refine' exc_initN' PySem.F.excBase_Exception ?zC_C12r6 ?zF_C12r6 ?zN_C12r6 ?zh2_C12r6 ?_; (case zF_C12r6 => k_asm); (case zN_C12r6 => k_asm); (case zC_C12r6 => exact Frag.In.keeps (by k_asm) (Fr.keep (by k_asm)) _ _ (by k_is)); (case zh2_C12r6 => k_all); k_whole); intro D' h' F' N' l1; (try simp only [List.nil_append] at F' N' l1); (try k_lt l1))
  k_with "m:setAttr ref" => (k_here; k_dflt (refine' exc_set2 ?zF_C12r7 ?zX_C12r7 ?zN_C12r7 ?ze_C12r7 ?zU_C12r7 ?zs_C12r7 ?zc_C12r7 ?zm_C12r7 ?zd_C12r7 ?zt_C12r7 ?zn_C12r7 ?zq_C12r7 ?zz_C12r7 ?_; (case zF_C12r7 => k_asm); (case zX_C12r7 => k_asm); (case zN_C12r7 => k_asm); (case ze_C12r7 => k_mem); (case zU_C12r7 => k_upd); (case zs_C12r7 => k_is); (case zc_C12r7 => k_is); (case zm_C12r7 => rfl); (case zd_C12r7 => rfl); (case zt_C12r7 => k_is); (case zn_C12r7 => rfl); (case zq_C12r7 => rfl); (case zz_C12r7 => exact Nat.le_of_ble_eq_true rfl); k_whole); intro h' tk' F' N')
  k_with "m:setAttr ref" => (k_here; k_dflt (refine' exc_set1' ?zF_C12r8 ?zX_C12r8 ?zN_C12r8 ?zh1_C12r8 ?zh2_C12r8 ?zs_C12r8 ?zc_C12r8 ?zm_C12r8 ?zd_C12r8 ?zt_C12r8 ?_; (case zF_C12r8 => k_asm); (case zX_C12r8 => k_asm); (case zN_C12r8 => k_asm); (case zh1_C12r8 => k_ne); (case zh2_C12r8 => k_all); (case zs_C12r8 => k_is); (case zc_C12r8 => k_is); (case zm_C12r8 => rfl); (case zd_C12r8 => rfl); (case zt_C12r8 => k_is); k_whole); intro D' h' tk' F' N' l1; (try simp only [List.cons_append, List.nil_append] at F' N' l1); (try k_lt l1))
  k_with "m:RaisedO" => (k_dflt (refine' raisedO_of ?zX_C12r9 ?zF_C12r9 ?zN_C12r9 ?ze_C12r9 ?zC_C12r9 ?zb_C12r9 ?_; (case zX_C12r9 => k_asm); (case zF_C12r9 => k_asm); (case zN_C12r9 => k_asm); (case ze_C12r9 => k_mem); (case zC_C12r9 => k_is); (case zb_C12r9 => rfl); k_whole))
  k_with "m:leaving ref" => (k_here; k_dflt (refine' leave_mint4 ?zK_C12r10 ?zF_C12r10 ?zN_C12r10 ?zh1_C12r10 ?zh2_C12r10 ?_; (case zK_C12r10 => k_asm); (case zF_C12r10 => k_asm); (case zN_C12r10 => k_asm); (case zh1_C12r10 => first | with_reducible assumption | k_all); (case zh2_C12r10 => first | with_reducible assumption | k_all); k_whole); intro h' R' RK' U'; (try dsimp only at R' RK' U' ⊢))
  k_with "m:pyIter str" => (k_here; k_dflt (refine' iter_octs ?zh_C12r11 ?zF_C12r11 ?zN_C12r11 ?_ ?_; (case zh_C12r11 => exact rfl); (case zF_C12r11 => k_asm); (case zN_C12r11 => k_asm)); rotate_left; (intro vs' ks' ep' m' h' tk' hv' hr' hl' F' N'); (have hin' := run_in hr'); rotate_right; (intro I' i' cp' u' it' vs' ks' ep' m' h' tk' hDI' hcI' hcp' hv' hr' hl' hi' F' N'))
  k_with "m:UnrEnd" => (k_dflt (first | (refine' octs_blank2 ?zs_C12r12 ?zF_C12r12 ?zN_C12r12 ?zD_C12r12 ?zc_C12r12 ?zcp_C12r12 ?zv_C12r12 ?zr_C12r12 ?zl_C12r12; (case zs_C12r12 => k_asm); (case zF_C12r12 => k_asm); (case zN_C12r12 => k_asm); (case zD_C12r12 => k_asm); (case zc_C12r12 => k_asm); (case zcp_C12r12 => k_asm); (case zv_C12r12 => k_asm); (case zr_C12r12 => k_asm); (case zl_C12r12 => k_asm)) | (refine' octs_fig2 ?zs_C12r12 ?zF_C12r12 ?zN_C12r12 ?zD_C12r12 ?zc_C12r12 ?zcp_C12r12 ?zv_C12r12 ?zr_C12r12 ?zl_C12r12 ?z0_C12r12 ?zsg_C12r12; (case zs_C12r12 => k_asm); (case zF_C12r12 => k_asm); (case zN_C12r12 => k_asm); (case zD_C12r12 => k_asm); (case zc_C12r12 => k_asm); (case zcp_C12r12 => k_asm); (case zv_C12r12 => k_asm); (case zr_C12r12 => k_asm); (case zl_C12r12 => k_asm); (case z0_C12r12 => k_asm); (case zsg_C12r12 => k_asm))))
  k_with "m:leaving ref" => (k_here; k_dflt (refine' leave_mint4E ?zK_C12r13 ?zF_C12r13 ?zN_C12r13 ?zh1_C12r13 ?zh2_C12r13 ?_ ?zf_C12r13 ?zk_C12r13; (case zK_C12r13 => k_asm); (case zF_C12r13 => k_asm); (case zN_C12r13 => k_asm); (case zf_C12r13 => exact rfl); (case zk_C12r13 => exact rfl); (case zh1_C12r13 => first | with_reducible assumption | k_all); (case zh2_C12r13 => first | with_reducible assumption | k_all); k_whole); intro h' R' RK' U'; (try dsimp only at R' RK' U' ⊢))
  k_with "m:call builtin:len" => (k_here; (with_reducible show wpAny _ _ (call (Value.builtin "len") [Value.ref _]) _ _ _); k_dflt (refine' len_intsK ?zN_C12r14 ?zl_C12r14 ?zi_C12r14 ?zz_C12r14 ?_; (case zN_C12r14 => k_asm); (case zl_C12r14 => k_mem)); (case zi_C12r14 => k_asm); (case zz_C12r14 => k_extra "m:oq"); intro t' k')
  k_with "m:eval ListComp" => (k_here; k_dflt (refine comp_evalU (by k_asm) (by with_unfolding_all rfl) (by decide) (by rfl) (by decide) (by rfl) ?_))
  k_with "m:SrcU" => (k_here; k_dflt (refine SrcOf.range (by rfl) (by k_asm) (by k_asm) (by assumption) ?zsm_C12r16 (range2 _ (even_of (by assumption))) (by rw [sizeLine_eq]; k_extra "m:oq") (fun g' => ?_); (case zsm_C12r16 => exact small_two (by k_extra "m:oq")); refine comp_pairs _ ?_ ?_); (rotate_left; (intro ys' hs'); rotate_right; (intro i' ys' t' I' oI' C' oC' D' m' h' tk' E' hi' hC' hx' F' N' off' ne')))
  k_with "m:subscriptTail Name Name ref int" => (k_here; k_dflt (refine' item_intsK ?zN_C12r17 ?zl_C12r17 ?zi_C12r17 ?z0_C12r17 ?zk_C12r17 ?zf_C12r17 ?zr_C12r17 ?_ ?zs_C12r17 ?zg_C12r17; (case zN_C12r17 => k_asm); (case zl_C12r17 => k_mem); (case zs_C12r17 => with_unfolding_all rfl); (case zg_C12r17 => (intro _; with_unfolding_all rfl))); (case zi_C12r17 => k_asm); (case z0_C12r17 => k_extra "m:oq"); (case zk_C12r17 => k_extra "m:oq"); (case zf_C12r17 => k_extra "m:oq"); (case zr_C12r17 => k_asm); intro t' hn1' hn2')
  k_with "m:subscriptTail Name BinOp ref int" => (k_here; k_dflt (refine' item_intsK ?zN_C12r18 ?zl_C12r18 ?zi_C12r18 ?z0_C12r18 ?zk_C12r18 ?zf_C12r18 ?zr_C12r18 ?_ ?zs_C12r18 ?zg_C12r18; (case zN_C12r18 => k_asm); (case zl_C12r18 => k_mem); (case zs_C12r18 => with_unfolding_all rfl); (case zg_C12r18 => (intro _; with_unfolding_all rfl))); (case zi_C12r18 => k_asm); (case z0_C12r18 => k_extra "m:oq"); (case zk_C12r18 => k_extra "m:oq"); (case zf_C12r18 => k_extra "m:oq"); (case zr_C12r18 => k_asm); intro t' hn1' hn2')
  k_with "m:FinE" => ((unfold LCg.FinE); intro D' h' tk' F' N' o1'; clear o1')
  k_with "m:CompEnd" => (k_dflt (refine' pairsEnd ?zF_C12r20 ?zN_C12r20 ?zoff_C12r20 ?zsub_C12r20 ?zS_C12r20 ?zr_C12r20; (case zF_C12r20 => k_asm); (case zN_C12r20 => k_asm); (case zS_C12r20 => exact trivial)); (case zoff_C12r20 => k_asm); (case zsub_C12r20 => (intro p hp; exact hp)); (case zr_C12r20 => (simp only [two_at])))
  k_with "m:call type:bytes" => (k_here; k_dflt (refine' bytes_pairs ?zN_C12r21 ?zi_C12r21 ?zr_C12r21 ?zz_C12r21 ?zh_C12r21 ?zF_C12r21 ?_; (case zN_C12r21 => k_asm); (case zF_C12r21 => k_asm); (case zh_C12r21 => exact rfl)); (case zi_C12r21 => k_asm); (case zr_C12r21 => k_asm); (case zz_C12r21 => k_extra "m:oq"); intro t' h' k' F' N')
  k_with "m:call ref" => (k_here; (with_reducible show wpAny _ _ (call (Value.ref _) [Value.str _ _]) (RaisedO _) _ _); k_dflt (refine' mint_new ?zc_MN ?zB_MN ?zF_MN ?zX_MN ?zN_MN ?zT_MN ?zA_MN ?zf_MN ?zk_MN ?zd_MN ?zu_MN ?_; (case zc_MN => first | exact .inl rfl | exact .inr rfl); (case zF_MN => k_asm); (case zB_MN => k_asm); (case zX_MN => k_asm); (case zN_MN => k_asm); (case zT_MN => k_asm); (case zA_MN => exact rfl); (case zf_MN => exact rfl); (case zk_MN => exact rfl); (case zd_MN => ktr_room); (case zu_MN => ktr_units); k_whole; intro e' t' t0' D' oD' o0' n' od' sl' h' tk' F' N' l1' l2'))
  trivial

set_option maxRecDepth 100000 in
set_option maxHeartbeats 4000000 in
theorem octs_ok (w : World) (x : Str) (t : Tok) (hx : x.length ≤ 100) (hsg : Signs (fun c => c < 128) (Txt.lower x)) :
    May w 3 90 [.str x t] (GoodL (Txt.lower x).cps.toList) (fun v ns => ns = [] ∧ ∃ t', v = .bytes (byteArr (ValL (Txt.lower x).cps.toList)) t') 59 := by
  w_top off
  dsimp only [FnG, May]; k_fill; intros; rename_i hret
  cell_enter
  k_steps
  all_goals (try dsimp only)
  · exact hret.2 (bad_sign hsg (by assumption) (by assumption) (by assumption)) _ _ _ _ _ (raisedS_nil (by assumption)) (raisedK_nil (by assumption)) (by assumption)
  · exact hret.2 (odd_bad (by assumption) (by assumption)) _ _ _ _ _ (raisedS_nil (by assumption)) (raisedK_nil (by assumption)) (by assumption)
  · exact hret.1 (good_run (by assumption) (by assumption)) _ _ _ _ (Fr.keep (by assumption)) New.nil ⟨rfl, _, by rw [val_run (by assumption)]⟩

end Mine
end
section
theorem Mine.none_FnT : True := by
  k_with_none
  w_top off
  trivial
set_option maxRecDepth 100000
open PySem PySem.W PySem.Calls PyProof.Rows
namespace Mine
/-- a def that catches: the frames' own slots may turn -/
abbrev FnT (w : World) (lv : Nat) (f : Addr) (vs : List Value) (us : List (Addr × Obj)) (P : Value → List (Addr × Obj) → Prop) : Prop :=
  ∀ (p : Program) (loose : List Str) (mean : ExcName → Option Value) (mg mb : Str → Option Value) (dp un : Nat) (gd : Option (List Code)) (outer : List Env) (base g : Heap) (s : Shared) (R : Result → Shared → Prop),
    (Mine.hd.heap_39 w.params).In base → Top p loose mean mg mb base → KtsDicts (outer.filterMap (·.frame)) g →
    Below (A0 dp un gd outer) base outer g → (Mine.hd.heap_39 w.params).In g → Top p loose mean mg mb g → g.StaysIn s.heap → g.objs.size ≤ s.heap.objs.size → (∀ u ∈ us, s.heap.get? u.1 = some u.2 ∧ g.get? u.1 = none) →
    dp + 2 * lv < recursionLimit → un + 10 * lv + 100 < cLine → (∀ v ns g' h' tk', KtsTurn (outer.filterMap (·.frame)) g g' → g'.StaysIn h' → New g' h' ns → P v ns → R (.ok (.ret v)) { s with heap := h', toks := tk' }) →
    codeAny (model Challenge.rw_qz0048_01.row.prog w) (A0 dp un gd outer) (.call (.ref f) ⟨vs, []⟩) R s
end Mine
end
section
open PySem PySem.W PySem.Calls PyProof.Rows
namespace Mine
theorem rows_C13_1 : True := by
  k_with_none
  k_with "m:on" => skip
  k_with "m:klt" => (intro l0; replace l0 := allLt_of l0; dsimp only [AllLt] at l0; (repeat (have := And.left l0; replace l0 := And.right l0)); revert l0)
  k_with "m:ktr_room" => k_dflt (first | exact rm1 (by with_reducible assumption) rfl | exact rm2 (by with_reducible assumption) rfl | exact rm3 (by with_reducible assumption) rfl)
  k_with "m:ktr_units" => k_dflt (first | exact un0 (by with_reducible assumption) rfl | exact un1 (by with_reducible assumption) rfl | exact un2 (by with_reducible assumption) rfl | exact un3 (by with_reducible assumption) rfl)
  k_with "m:k_ne" => (refine neN ?_; (try dsimp only); first | with_reducible assumption | exact Ne.symm (by with_reducible assumption) | exact Nat.ne_of_lt (by with_reducible assumption) | exact Nat.ne_of_gt (by with_reducible assumption) | lia)
  k_with "m:cell_enter" => (refine' enterGC ?zk1_C13r1 ?zk2_C13r1 ?zk3_C13r1 ?zk4_C13r1 ?zk5_C13r1 ?zk6_C13r1 ?zk7_C13r1 ?zk8_C13r1 ?zk9_C13r1 ?zkB_C13r1 ?zkD_C13r1 ?_ ?zc2_C13r1 ?zc3_C13r1 ?zc4_C13r1; (case zk1_C13r1 => k_asm); (case zk2_C13r1 => k_asm); (case zk3_C13r1 => k_asm); (case zk4_C13r1 => k_asm); (case zk5_C13r1 => k_asm); (case zk6_C13r1 => k_is); (case zk7_C13r1 => k_is); (case zk8_C13r1 => lia); (case zk9_C13r1 => first | exact BindsTo.of_eq rfl | exact binds_K (by k_in) rfl (by k_is) rfl rfl rfl); (case zkB_C13r1 => exact rfl); (case zkD_C13r1 => decide +kernel); (case zc2_C13r1 => exact rfl); (case zc3_C13r1 => exact rfl); (case zc4_C13r1 => exact rfl); k_whole; intro L' h' tk' cells' F' N' Y' l1; (try k_lt l1); k_cells Y'; (try simp only [List.cons_append, List.nil_append, List.append_nil] at N'); (try dsimp only); (try k_fold))
  k_with "m:cell_enter" => (first | (refine' enterG ?zk1_C13r2 ?zk2_C13r2 ?zk3_C13r2 ?zk4_C13r2 ?zk5_C13r2 ?zk6_C13r2 ?zk7_C13r2 ?zk8_C13r2 ?zk9_C13r2 ?zkB_C13r2 ?_ ?zc2_C13r2 ?zc3_C13r2 ?zc4_C13r2 ?zc5_C13r2; (case zk1_C13r2 => k_asm); (case zk2_C13r2 => k_asm); (case zk3_C13r2 => k_asm); (case zk4_C13r2 => k_asm); (case zk5_C13r2 => k_asm); (case zk6_C13r2 => k_is); (case zk7_C13r2 => k_is); (case zk8_C13r2 => lia); (case zk9_C13r2 => first | exact BindsTo.of_eq rfl | exact binds_K (by k_in) rfl (by k_is) rfl rfl rfl); (case zc5_C13r2 => decide); (case zkB_C13r2 => exact locs rfl); (case zc2_C13r2 => exact rfl); (case zc3_C13r2 => exact rfl); (case zc4_C13r2 => exact rfl); k_whole; intro L' h' F' N' l1; (try k_lt l1); (try dsimp only); (try k_fold)) | fail)
  k_with "m:exec Raise some none" => (k_here; (with_reducible show wpAny _ _ (exec (Stmt.Raise (some (Expr.Call (Expr.Name _ _) _ _ _)) none _) _) _ _ _); k_dflt (refine Raise_mint (by exact rfl) ?_))
  k_with "m:call ref" => (k_here; (with_reducible show wpAny _ _ (call (Value.ref _) [Value.str _ _]) (RaisedO _) _ _); k_dflt (refine' mint_callN PySem.F.excBase_Exception ?zX_C13r4 ?zF_C13r4 ?zN_C13r4 ?zC_C13r4 ?zi_C13r4 ?zf_C13r4 ?zc_C13r4 ?_; (case zX_C13r4 => k_asm); (case zF_C13r4 => k_asm); (case zN_C13r4 => k_asm); (case zC_C13r4 => k_is); (case zi_C13r4 => k_is); (case zf_C13r4 => k_is); (case zc_C13r4 => rfl); k_whole); intro e' t' h' F' N' l1 l2; (try k_lt l1); (try k_lt2 l2); k_dflt (refine wpAny_call ?_; k_enter))
  k_with "m:getMethod type:Exception" => (k_here; refine' method_type ?zF_C13r5 ?zX_C13r5 ?zm_C13r5 (by decide +kernel) ?ze_C13r5 ?zh_C13r5 ?_; (case zF_C13r5 => k_asm); (case zX_C13r5 => k_asm); (case zm_C13r5 => exact meta_Exception); (case ze_C13r5 => k_dflt k_is); (case zh_C13r5 => k_handed))
  k_with "m:call builtin:Exception.__init__" => (k_here; k_dflt (refine' exc_initN' PySem.F.excBase_Exception ?zC_C13r6 ?zF_C13r6 ?zN_C13r6 ?zh2_C13r6 ?_; (case zF_C13r6 => k_asm); (case zN_C13r6 => k_asm); (case zC_C13r6 => exact Frag.In.keeps (by k_asm) (Fr.keep (by k_asm)) _ _ (by k_is)); (case zh2_C13r6 => k_all); k_whole); intro D' h' F' N' l1; (try simp only [List.nil_append] at F' N' l1); (try k_lt l1))
  k_with "m:setAttr ref" => (k_here; k_dflt (refine' exc_set2 ?zF_C13r7 ?zX_C13r7 ?zN_C13r7 ?ze_C13r7 ?zU_C13r7 ?zs_C13r7 ?zc_C13r7 ?zm_C13r7 ?zd_C13r7 ?zt_C13r7 ?zn_C13r7 ?zq_C13r7 ?zz_C13r7 ?_; (case zF_C13r7 => k_asm); (case zX_C13r7 => k_asm); (case zN_C13r7 => k_asm); (case ze_C13r7 => k_mem); (case zU_C13r7 => k_upd); (case zs_C13r7 => k_is); (case zc_C13r7 => k_is); (case zm_C13r7 => rfl); (case zd_C13r7 => rfl); (case zt_C13r7 => k_is); (case zn_C13r7 => rfl); (case zq_C13r7 => rfl); (case zz_C13r7 => exact Nat.le_of_ble_eq_true rfl); k_whole); intro h' tk' F' N')
  k_with "m:setAttr ref" => (k_here; k_dflt (refine' exc_set1' ?zF_C13r8 ?zX_C13r8 ?zN_C13r8 ?zh1_C13r8 ?zh2_C13r8 ?zs_C13r8 ?zc_C13r8 ?zm_C13r8 ?zd_C13r8 ?zt_C13r8 ?_; (case zF_C13r8 => k_asm); (case zX_C13r8 => k_asm); (case zN_C13r8 => k_asm); (case zh1_C13r8 => k_ne); (case zh2_C13r8 => k_all); (case zs_C13r8 => k_is); (case zc_C13r8 => k_is); (case zm_C13r8 => rfl); (case zd_C13r8 => rfl); (case zt_C13r8 => k_is); k_whole); intro D' h' tk' F' N' l1; (try simp only [List.cons_append, List.nil_append] at F' N' l1); (try k_lt l1))
  k_with "m:RaisedO" => (k_dflt (refine' raisedO_of ?zX_C13r9 ?zF_C13r9 ?zN_C13r9 ?ze_C13r9 ?zC_C13r9 ?zb_C13r9 ?_; (case zX_C13r9 => k_asm); (case zF_C13r9 => k_asm); (case zN_C13r9 => k_asm); (case ze_C13r9 => k_mem); (case zC_C13r9 => k_is); (case zb_C13r9 => rfl); k_whole))
  k_with "m:leaving ref" => (k_here; k_dflt (refine' leave_mint4 ?zK_C13r10 ?zF_C13r10 ?zN_C13r10 ?zh1_C13r10 ?zh2_C13r10 ?_; (case zK_C13r10 => k_asm); (case zF_C13r10 => k_asm); (case zN_C13r10 => k_asm); (case zh1_C13r10 => k_all); (case zh2_C13r10 => k_all); k_whole); intro h' R' RK' U'; (try dsimp only at R' RK' U' ⊢))
  k_with "m:call ref" => (k_here; (with_reducible show wpAny _ _ (call (Value.ref 90) [Value.str _ _]) _ _ _); k_dflt (refine' callMay (octs_ok _ _ _ ?zh_C13r11 ?zh2_C13r11) ?zB_C13r11 ?zF_C13r11 ?zX_C13r11 ?zN_C13r11 ?zT_C13r11 ?zA_C13r11 ?zf_C13r11 ?zk_C13r11 ?zd_C13r11 ?zu_C13r11 ?_ ?_; (case zF_C13r11 => k_asm); (case zB_C13r11 => k_asm); (case zX_C13r11 => k_asm); (case zN_C13r11 => k_asm); (case zT_C13r11 => k_asm); (case zA_C13r11 => exact rfl); (case zf_C13r11 => exact rfl); (case zk_C13r11 => exact rfl); (case zd_C13r11 => ktr_room); (case zu_C13r11 => ktr_units); (case zh_C13r11 => k_asm); (case zh2_C13r11 => k_asm); k_whole; (all_goals first | (intro hz v' ns' h' tk' P' F' N' l1; obtain ⟨e1, t', e2⟩ := P'; subst e1 e2; clear l1; (try simp only [List.nil_append] at N')) | (intro hz e' t' ws' h' tk' R' RK' U'))))
  k_with "m:noteFrame ref" => (k_here; k_dflt (refine' caught_SO0 ?zR_C13r12 ?zF_C13r12 ?zK_C13r12 ?zU_C13r12 ?zXB_C13r12 ?zTB_C13r12 ?zD_C13r12 ?zT0_C13r12 ?zex_C13r12 ?zq_C13r12 ?_; (case zR_C13r12 => k_asm); (case zF_C13r12 => k_asm); (case zK_C13r12 => k_asm); (case zU_C13r12 => k_asm); (case zXB_C13r12 => k_asm); (case zTB_C13r12 => k_asm); (case zD_C13r12 => k_asm); (case zT0_C13r12 => exact KtsTurn.refl); (case zex_C13r12 => k_is); (case zq_C13r12 => k_is); k_whole); intro h' g' news' T' F' N' G' N2' K' X' P' D')
  trivial

/-- figures read: octets, or None -/
def HeardP (y : List Nat) (v : Value) : Prop := (GoodL y ∧ ∃ t', v = .bytes (byteArr (ValL y)) t') ∨ (¬ GoodL y ∧ v = .none)
set_option maxRecDepth 100000 in
set_option maxHeartbeats 4000000 in
theorem heard_ok (w : World) (x : Str) (t : Tok) (hx : x.length ≤ 100) (hsg : Signs (fun c => c < 128) (Txt.lower x)) :
    FnT w 4 273 [.str x t] [] (fun v ns => ns = [] ∧ HeardP (Txt.lower x).cps.toList v) := by
  w_top off
  dsimp only [FnT]; k_fill; intros; rename_i hret
  cell_enter
  k_steps
  all_goals (try dsimp only)
  · exact hret _ [] _ _ _ KtsTurn.refl (Fr.keep (by assumption)) New.nil ⟨rfl, .inl ⟨by assumption, _, rfl⟩⟩
  · exact hret _ [] _ _ _ (by assumption) (Fr.keep (by assumption)) New.nil ⟨rfl, .inr ⟨by assumption, rfl⟩⟩

end Mine
end
section
theorem Mine.none_Oct5 : True := by
  k_with_none
  w_top off
  trivial
set_option maxRecDepth 100000
open PySem PySem.W PySem.Calls PyProof.Rows PyProof.Rows.LCg PyProof.Rows.LCt PySem.SeqAt
namespace Mine
def sg (c : Nat) : Str := ⟨#[c]⟩
section
variable {prog : Program} {w : World} {A : Around} {E : Value → Shared → Prop} {s : Shared} {h₀ : Heap} {L : Addr} {m : Str → Option Value} {env : Env} {news : List (Addr × Obj)}
/-- the signs of a text that are no blanks -/
theorem comp_signs {ct elt : PySem.Expr} {x : Str} {scope : Scope} {cl : List (Str × Addr)} {S : List (Addr × Obj) → Prop} {Fin : List Value → List (Addr × Obj) → Prop} {tx : Str}
    (turn : ∀ (i c : Nat) ys t I oI C oC D m₂ h tk (E' : Value → Shared → Prop), i < tx.cps.size → tx.cps.toList[i]? = some c → NsObj oC m₂ → m₂ x = some (.str (sg c) t) → Fr h₀ L h m → News h₀ L h ((I, oI) :: (C, oC) :: (D, lst ys) :: news) → Off3 I C D news → ((@Ne Nat I C) ∧ (@Ne Nat I D) ∧ (@Ne Nat C D)) →
      wpAny (model prog w) A (isTrue ct (compEnvC scope cl C env) (eval ct (compEnvC scope cl C env))) (fun ok s' => if ok = true then
        wpAny (model prog w) A (eval elt (compEnvC scope cl C env)) (CompEnd h₀ L m { s with heap := h, toks := tk } I oI C oC D (lst ys) S (fun y news' => c ≠ 32 ∧ news' = news ∧ ∃ t, y = .str (sg c) t)) E' s'
        else CompEnd h₀ L m { s with heap := h, toks := tk } I oI C oC D (lst ys) S (fun _ news' => c = 32 ∧ news' = news) Value.none s') E' { s with heap := h, toks := tk })
    (fin : ∀ ys, StrsAre ys ((sgs tx.cps.toList).map sg) → (sgs tx.cps.toList).length ≤ tx.cps.size → Fin ys news) : CompRestT prog w A h₀ L m env ct elt x scope cl s S (SignAt tx) Fin tx.cps.size 0 [] news := by
  refine comp_JT (fun i ys nw => nw = news ∧ StrsAre ys ((sgs (tx.cps.toList.take i)).map sg)) ?_ ?_ ⟨rfl, .nil⟩
  · rintro i ys nw v I oI C oC D m₂ h tk E' hi ⟨rfl, hy⟩ ⟨c, u, hc, rfl⟩ hC hx F N off ne
    have hc' : tx.cps.toList[i]? = some c := by simpa using hc
    have et : tx.cps.toList.take (i + 1) = tx.cps.toList.take i ++ [c] := by rw [List.take_add_one, hc']; rfl
    refine wpAny_mono (turn i c ys u I oI C oC D m₂ h tk E' hi hc' hC hx F N off ne) (fun ok s₂ hq => ?_) fun _ _ e => e
    cases ok with
    | true =>
      simp only [if_true] at hq ⊢
      refine wpAny_mono hq (fun y s₃ hq => ?_) fun _ _ e => e
      obtain ⟨h', tk', nw', e1, F', N', off', hS, hc3, e2, t, e3⟩ := hq
      refine ⟨h', tk', nw', e1, F', N', off', hS, e2, ?_⟩
      rw [e3, et, sgs_snoc, if_neg hc3, List.map_append]
      exact strs_snoc hy _ _
    | false =>
      simp only [Bool.false_eq_true, if_false] at hq ⊢
      obtain ⟨h', tk', nw', e1, F', N', off', hS, hc3, e2⟩ := hq
      refine ⟨h', tk', nw', e1, F', N', off', hS, e2, ?_⟩
      rw [et, sgs_snoc, if_pos hc3]
      exact hy
  · rintro ys nw ⟨rfl, hy⟩
    rw [show tx.cps.toList.take tx.cps.size = tx.cps.toList from by rw [← Array.length_toList, List.take_length]] at hy
    exact fin ys hy (by have := List.length_filter_le (fun c => !(c == 32)) tx.cps.toList; simpa [sgs] using this)
/-- the texts of a list that pass a test -/
theorem comp_filt {ct elt : PySem.Expr} {x : Str} {scope : Scope} {cl : List (Str × Addr)} {S : List (Addr × Obj) → Prop} {Fin : List Value → List (Addr × Obj) → Prop} {cs : List Nat} {vs : List Value} (hv : StrsAre vs (cs.map sg)) (b : Nat → Bool)
    (turn : ∀ (i c : Nat) ys t I oI C oC D m₂ h tk (E' : Value → Shared → Prop), cs[i]? = some c → c ∈ cs → NsObj oC m₂ → m₂ x = some (.str (sg c) t) → Fr h₀ L h m → News h₀ L h ((I, oI) :: (C, oC) :: (D, lst ys) :: news) → Off3 I C D news → ((@Ne Nat I C) ∧ (@Ne Nat I D) ∧ (@Ne Nat C D)) →
      wpAny (model prog w) A (isTrue ct (compEnvC scope cl C env) (eval ct (compEnvC scope cl C env))) (fun ok s' => if ok = true then
        wpAny (model prog w) A (eval elt (compEnvC scope cl C env)) (CompEnd h₀ L m { s with heap := h, toks := tk } I oI C oC D (lst ys) S (fun y news' => b c = true ∧ news' = news ∧ ∃ t, y = .str (sg c) t)) E' s'
        else CompEnd h₀ L m { s with heap := h, toks := tk } I oI C oC D (lst ys) S (fun _ news' => b c = false ∧ news' = news) Value.none s') E' { s with heap := h, toks := tk })
    (fin : ∀ ys, StrsAre ys ((cs.filter b).map sg) → Fin ys news) : CompRestT prog w A h₀ L m env ct elt x scope cl s S (fun i v => vs.toArray[i]? = some v) Fin vs.toArray.size 0 [] news := by
  have hl : vs.toArray.size = cs.length := by
    have := strsAre_length hv
    simpa using this
  refine comp_JT (fun i ys nw => nw = news ∧ StrsAre ys (((cs.take i).filter b).map sg)) ?_ ?_ ⟨rfl, .nil⟩
  · rintro i ys nw v I oI C oC D m₂ h tk E' hi ⟨rfl, hy⟩ hP hC hx F N off ne
    have hlt : i < cs.length := by lia
    have hc : cs[i]? = some cs[i] := List.getElem?_eq_getElem hlt
    obtain ⟨t, ht⟩ := hv.at (j := i) (y := sg cs[i]) (by rw [List.getElem?_map, hc]; rfl)
    have ev : v = .str (sg cs[i]) t := by
      have : vs[i]? = some v := by simpa using hP
      rw [ht] at this
      exact (Option.some.inj this).symm
    subst ev
    have et : cs.take (i + 1) = cs.take i ++ [cs[i]] := by rw [List.take_add_one, hc]; rfl
    refine wpAny_mono (turn i cs[i] ys t I oI C oC D m₂ h tk E' hc (List.getElem_mem hlt) hC hx F N off ne) (fun ok s₂ hq => ?_) fun _ _ e => e
    cases ok with
    | true =>
      simp only [if_true] at hq ⊢
      refine wpAny_mono hq (fun y s₃ hq => ?_) fun _ _ e => e
      obtain ⟨h', tk', nw', e1, F', N', off', hS, hc3, e2, t, e3⟩ := hq
      refine ⟨h', tk', nw', e1, F', N', off', hS, e2, ?_⟩
      rw [e3, et, List.filter_append, List.map_append, List.filter_cons_of_pos hc3]
      exact strs_snoc hy _ _
    | false =>
      simp only [Bool.false_eq_true, if_false] at hq ⊢
      obtain ⟨h', tk', nw', e1, F', N', off', hS, hc3, e2⟩ := hq
      refine ⟨h', tk', nw', e1, F', N', off', hS, e2, ?_⟩
      rw [et, List.filter_append, List.filter_cons_of_neg (by rw [hc3]; decide)]
      simpa using hy
  · rintro ys nw ⟨rfl, hy⟩
    rw [hl, List.take_length] at hy
    exact fin ys hy
/-- the worths of a list's signs -/
theorem comp_worths {elt : PySem.Expr} {x : Str} {scope : Scope} {cl : List (Str × Addr)} {S : List (Addr × Obj) → Prop} {Fin : List Value → List (Addr × Obj) → Prop} {cs : List Nat} {vs : List Value} (hv : StrsAre vs (cs.map sg)) (g : Nat → Int)
    (turn : ∀ (i c : Nat) ys t I oI C oC D m₂ h tk (E' : Value → Shared → Prop), cs[i]? = some c → c ∈ cs → NsObj oC m₂ → m₂ x = some (.str (sg c) t) → Fr h₀ L h m → News h₀ L h ((I, oI) :: (C, oC) :: (D, lst ys) :: news) → Off3 I C D news → ((@Ne Nat I C) ∧ (@Ne Nat I D) ∧ (@Ne Nat C D)) →
        wpAny (model prog w) A (eval elt (compEnvC scope cl C env)) (CompEnd h₀ L m { s with heap := h, toks := tk } I oI C oC D (lst ys) S (fun y news' => news' = news ∧ ∃ t, y = .int (g c) t)) E' { s with heap := h, toks := tk })
    (fin : ∀ ys, IntsAre ys (cs.map g) → Fin ys news) : CompRest prog w A h₀ L m env elt x scope cl s S (fun i v => vs.toArray[i]? = some v) Fin vs.toArray.size 0 [] news := by
  have hl : vs.toArray.size = cs.length := by
    have := strsAre_length hv
    simpa using this
  refine comp_J (fun i ys nw => nw = news ∧ IntsAre ys ((cs.take i).map g)) ?_ ?_ ⟨rfl, .nil⟩
  · rintro i ys nw v I oI C oC D m₂ h tk E' hi ⟨rfl, hy⟩ hP hC hx F N off ne
    have hlt : i < cs.length := by lia
    have hc : cs[i]? = some cs[i] := List.getElem?_eq_getElem hlt
    obtain ⟨t, ht⟩ := hv.at (j := i) (y := sg cs[i]) (by rw [List.getElem?_map, hc]; rfl)
    have ev : v = .str (sg cs[i]) t := by
      have : vs[i]? = some v := by simpa using hP
      rw [ht] at this
      exact (Option.some.inj this).symm
    subst ev
    have et : cs.take (i + 1) = cs.take i ++ [cs[i]] := by rw [List.take_add_one, hc]; rfl
    refine wpAny_mono (turn i cs[i] ys t I oI C oC D m₂ h tk E' hc (List.getElem_mem hlt) hC hx F N off ne) (fun y s₂ hq => ?_) fun _ _ e => e
    obtain ⟨h', tk', nw', e1, F', N', off', hS, e2, t, e3⟩ := hq
    refine ⟨h', tk', nw', e1, F', N', off', hS, e2, ?_⟩
    rw [e3, et, List.map_append]
    exact ints_snoc hy _ _
  · rintro ys nw ⟨rfl, hy⟩
    rw [hl, List.take_length] at hy
    exact fin ys hy
end
theorem sg_ne {c : Nat} (h : (sg c != Str.ofString " ") = true) : c ≠ 32 := fun e => by
  subst e; revert h; decide
theorem sg_eq {c : Nat} (h : (sg c != Str.ofString " ") = false) : c = 32 := by
  have : (sg c == Str.ofString " ") = true := by
    cases e : (sg c == Str.ofString " ") with
    | true => rfl
    | false => unfold bne at h; rw [e] at h; cases h
  rw [show sg c = (⟨#[c]⟩ : Str) from rfl, sign_blank] at this
  simpa using this
section
variable {h₀ : Heap} {L I C D : Addr} {m : Str → Option Value} {s₁ : Shared} {oI oC oD : Obj} {S : List (Addr × Obj) → Prop} {h' : Heap} {tk : Nat} {all news : List (Addr × Obj)} {c : Nat} {t : Tok} {b : Nat → Bool} {y : Value}
theorem endYes {p : Prop} (hp : p) (F : Fr h₀ L h' m) (N : News h₀ L h' all) (off : Off3 I C D news) (sub : ∀ p ∈ (I, oI) :: (C, oC) :: (D, oD) :: news, p ∈ all) (hS : S news) :
    CompEnd h₀ L m s₁ I oI C oC D oD S (fun y nw => p ∧ nw = news ∧ ∃ t, y = .str (sg c) t) (.str (sg c) t) { s₁ with heap := h', toks := tk } := CompEnd.intro F N news sub off hS ⟨hp, rfl, t, rfl⟩
theorem endNo {p : Prop} (hp : p) (F : Fr h₀ L h' m) (N : News h₀ L h' all) (off : Off3 I C D news) (sub : ∀ p ∈ (I, oI) :: (C, oC) :: (D, oD) :: news, p ∈ all) (hS : S news) :
    CompEnd h₀ L m s₁ I oI C oC D oD S (fun _ nw => p ∧ nw = news) y { s₁ with heap := h', toks := tk } := CompEnd.intro F N news sub off hS ⟨hp, rfl⟩
end
/-- a sign's worth -/
def hvU (c : Nat) : Int := if 0 ≤ hvL c then hvL c else if 65 ≤ c ∧ c ≤ 70 then (c : Int) - 55 else -1
def badU (c : Nat) : Bool := decide (hvU c < 0)
theorem occ_bad {c : Nat} (h : c < 128) : (Builtin.Str.occurrences (Str.ofString "0123456789abcdefABCDEF") (sg c) 0 (Str.ofString "0123456789abcdefABCDEF").length 1).isEmpty = badU c := by
  have : ∀ d < 128, (Builtin.Str.occurrences (Str.ofString "0123456789abcdefABCDEF") (sg d) 0 (Str.ofString "0123456789abcdefABCDEF").length 1).isEmpty = badU d := by decide +kernel
  exact this c h
theorem occ_bad' {x : Str} {c : Nat} {b : Bool} (hs : Signs (· < 128) x) (hm : c ∈ sgs x.cps.toList) (h : (Builtin.Str.occurrences (Str.ofString "0123456789abcdefABCDEF") (sg c) 0 (Str.ofString "0123456789abcdefABCDEF").length 1).isEmpty = b) : badU c = b := by
  rw [← h, occ_bad (hs c (List.mem_filter.mp hm).1)]
theorem sg_ok {cs : List Nat} (h : ∀ c ∈ cs, c < 128) : (cs.map sg).all PyData.strOk = true := by
  rw [List.all_eq_true]
  intro y hy
  obtain ⟨c, hc, rfl⟩ := List.mem_map.mp hy
  have : ∀ d < 128, PyData.strOk (sg d) = true := by decide +kernel
  exact this c (h c hc)
section
variable {prog : Program} {w : World} {A : Around} {E : Value → Shared → Prop} {s : Shared} {h₀ : Heap} {L : Addr} {news : List (Addr × Obj)}
theorem ne_nilK {x : Str} {a b : Addr} {ys : List Value} {ep : Nat} {Q : Value → Shared → Prop} (N : News h₀ L s.heap news) (hl : (a, lst ys) ∈ news) (hl' : (b, W.listOf #[] ep) ∈ news) (hi : StrsAre ys (((sgs x.cps.toList).filter badU).map sg)) (hs : Signs (· < 128) x) (hu : A.units + 64 < cLine)
    (h : Q (.bool (!decide ((sgs x.cps.toList).filter badU = []))) s) : wpAny (model prog w) A (compareOp .NotEq (.ref a) (.ref b)) Q E s := by
  refine ne_dataH (reads_of_strs (vs := ys) ⟨_, (N _ hl).1, rfl, _, rfl⟩ hi) (reads_of_strs (vs := []) (ns := []) ⟨_, (N _ hl').1, rfl, _, rfl⟩ .nil) (shaped_strs _ (sg_ok fun c hc => hs c (List.mem_filter.mp (List.mem_filter.mp hc).1).1)) (shaped_strs _ rfl) hu ?_
  simp only [PyData.eqv]
  rw [eqvAll_strs]
  have e : decide ((((sgs x.cps.toList).filter badU).map sg) = []) = decide ((sgs x.cps.toList).filter badU = []) := by simp
  rw [e]
  exact h
theorem len_strsL {a : Addr} {ys : List Value} {xs : List Str} {Q : Value → Shared → Prop} (N : News h₀ L s.heap news) (hl : (a, lst ys) ∈ news) (hi : StrsAre ys xs) (hz : xs.length ≤ 100000)
    (h : ∀ t' k, Q (.int (xs.length : Int) t') { s with toks := k }) : wpAny (model prog w) A (call (.builtin "len") [.ref a]) Q E s := by
  have e := strsAre_length hi
  refine call_len_list (items := ys.toArray) ⟨_, (N _ hl).1, rfl, _, rfl⟩ ?_ ?_
  · simp; lia
  · simp only [List.size_toArray, e]; exact h _ _
end
/-- all figures, and whole octets -/
def GoodU (cs : List Nat) : Prop := (∀ c ∈ sgs cs, 0 ≤ hvU c) ∧ (sgs cs).length % 2 = 0
def ValU (cs : List Nat) : List Int := pairsL ((sgs cs).map hvU)
def ReadP (cs : List Nat) (v : Value) : Prop := (GoodU cs ∧ ∃ t', v = .bytes (byteArr (ValU cs)) t') ∨ (¬ GoodU cs ∧ v = .none)
theorem bad_read {cs : List Nat} (h : ¬ List.filter badU (sgs cs) = []) : ¬ GoodU cs := fun hg => h (by
  rw [List.filter_eq_nil_iff]
  intro c hc
  have := hg.1 c hc
  simp only [badU, decide_eq_true_eq]
  lia)
theorem odd_read {cs : List Nat} (h : ((List.map sg (sgs cs)).length : Int).fmod 2 = 1) : ¬ GoodU cs := fun hg => by
  have := odd_of h
  rw [List.length_map] at this
  have := hg.2
  lia
theorem good_read {cs : List Nat} (h : List.filter badU (sgs cs) = []) (h2 : ((List.map sg (sgs cs)).length : Int).fmod 2 ≠ 1) : GoodU cs := by
  refine ⟨fun c hc => ?_, ?_⟩
  · rw [List.filter_eq_nil_iff] at h
    have := h c hc
    simp only [badU, decide_eq_true_eq] at this
    lia
  · have := even_of h2
    rwa [List.length_map] at this
theorem llen_le {vs : List Value} {xs : List Str} (h : StrsAre vs xs) (hz : xs.length ≤ 1000) : vs.toArray.size ≤ sizeLine := by
  rw [List.size_toArray, strsAre_length h, sizeLine_eq]; lia
section
variable {prog : Program} {w : World} {A : Around} {E : Value → Shared → Prop} {s : Shared}
theorem index_dig {x : Str} {c : Nat} {t u : Tok} {Q : Value → Shared → Prop} (hs : Signs (· < 128) x) (hm : c ∈ sgs x.cps.toList) (hd : (Builtin.Str.occurrences (Str.ofString "0123456789abcdef") (sg c) 0 (Str.ofString "0123456789abcdef").length 1).isEmpty = false)
    (h : ∀ t' k, Q (.int (hvU c) t') { s with toks := k }) : wpAny (model prog w) A (call (.builtin "str.index") [.str (Str.ofString "0123456789abcdef") t, .str (sg c) u]) Q E s := by
  have hc : c < 128 := hs c (List.mem_filter.mp hm).1
  have key : ∀ d < 128, (Builtin.Str.occurrences (Str.ofString "0123456789abcdef") (sg d) 0 (Str.ofString "0123456789abcdef").length 1).isEmpty = false → (Builtin.Str.occurrences (Str.ofString "0123456789abcdef") (sg d) 0 (Str.ofString "0123456789abcdef").length 1).map (fun (i : Nat) => (i : Int)) = [hvU d] := by decide +kernel
  have k := key c hc hd
  cases ho : Builtin.Str.occurrences (Str.ofString "0123456789abcdef") (sg c) 0 (Str.ofString "0123456789abcdef").length 1 with
  | nil => rw [ho] at k; cases k
  | cons i rest =>
    rw [ho] at k
    refine SC.index ho ?_
    have e : (i : Int) = hvU c := by simpa using (List.cons.inj k).1
    rw [e]
    exact h _ _
theorem index_cap {x : Str} {c : Nat} {t u : Tok} {Q : Value → Shared → Prop} (hs : Signs (· < 128) x) (hm : c ∈ sgs x.cps.toList) (hd : (Builtin.Str.occurrences (Str.ofString "0123456789abcdef") (sg c) 0 (Str.ofString "0123456789abcdef").length 1).isEmpty = true) (h0 : List.filter badU (sgs x.cps.toList) = [])
    (h : ∀ t' k, Q (.int (hvU c - 10) t') { s with toks := k }) : wpAny (model prog w) A (call (.builtin "str.index") [.str (Str.ofString "ABCDEF") t, .str (sg c) u]) Q E s := by
  have hc : c < 128 := hs c (List.mem_filter.mp hm).1
  have hb : badU c = false := by
    rw [List.filter_eq_nil_iff] at h0
    have := h0 c hm
    simpa using this
  have key : ∀ d < 128, badU d = false → (Builtin.Str.occurrences (Str.ofString "0123456789abcdef") (sg d) 0 (Str.ofString "0123456789abcdef").length 1).isEmpty = true → (Builtin.Str.occurrences (Str.ofString "ABCDEF") (sg d) 0 (Str.ofString "ABCDEF").length 1).map (fun (i : Nat) => (i : Int)) = [hvU d - 10] := by decide +kernel
  have k := key c hc hb hd
  cases ho : Builtin.Str.occurrences (Str.ofString "ABCDEF") (sg c) 0 (Str.ofString "ABCDEF").length 1 with
  | nil => rw [ho] at k; cases k
  | cons i rest =>
    rw [ho] at k
    refine SC.index ho ?_
    have e : (i : Int) = hvU c - 10 := by simpa using (List.cons.inj k).1
    rw [e]
    exact h _ _
end
section
variable {prog : Program} {w : World} {A : Around} {E : Value → Shared → Prop} {s : Shared} {h₀ : Heap} {L : Addr} {news : List (Addr × Obj)}
theorem item_intsL {value slice : PySem.Expr} {a : Addr} {vs : List Value} {ks : List Int} {k : Int} {u : Tok} {Q : Value → Shared → Prop} (N : News h₀ L s.heap news) (hl : (a, lst vs) ∈ news) (hi : IntsAre vs ks)
    (h0 : 0 ≤ k) (hk : k.toNat < ks.length) (hfit : k < 2 ^ 62) (hr : ∀ k ∈ ks, 0 ≤ k ∧ k < 16) (h : ∀ t', 0 ≤ ks.getD k.toNat 0 → ks.getD k.toNat 0 < 16 → Q (.int (ks.getD k.toNat 0) t') s)
    (hs : subscripted slice false (.ref a) (.int k u) = operate [.ref a, .int k u] (getItem (.ref a) (.int k u)) := by with_unfolding_all rfl) (hg : ∀ r, letTemporaryGo value (.ref a) r = pure () := by intro _; with_unfolding_all rfl) :
    wpAny (model prog w) A (subscriptTail value slice (.ref a) (.int k u)) Q E s := item_intsK (vs := vs) (ep := vs.length) N hl hi h0 hk hfit hr h hs hg
end
theorem worths_in {cs : List Nat} (h : List.filter badU (sgs cs) = []) : ∀ k ∈ (sgs cs).map hvU, 0 ≤ k ∧ k < 16 := fun k hk => by
  obtain ⟨c, hc, rfl⟩ := List.mem_map.mp hk
  rw [List.filter_eq_nil_iff] at h
  have h1 := h c hc
  simp only [badU, decide_eq_true_eq] at h1
  have h2 := hvL_in c
  refine ⟨by lia, ?_⟩
  unfold hvU
  repeat' split
  all_goals lia
theorem even_map {cs : List Nat} (h : ((List.map sg cs).length : Int).fmod 2 ≠ 1) : (cs.map hvU).length % 2 = 0 := by
  have := even_of h
  simpa using this
end Mine
end
section
open PySem PySem.W PySem.Calls PyProof.Rows
namespace Mine
theorem rows_C14_1 : True := by
  k_with_none
  k_with "m:on" => skip
  k_with "m:klt" => (intro l0; replace l0 := allLt_of l0; dsimp only [AllLt] at l0; (repeat (have := And.left l0; replace l0 := And.right l0)); revert l0)
  k_with "m:oq" => first | with_reducible (first | exact db1 (by assumption) | exact db2 (by assumption) | exact db3 (by assumption) (by assumption) (by assumption) (by assumption) | exact db4 (by assumption) (by assumption) (by assumption) (by assumption) | exact db5 (by assumption) (by assumption) (by assumption) | exact db6 (by assumption) (by assumption) (by assumption) | exact db7 (by assumption) (by assumption) (by assumption) | exact db8 (by assumption) (by assumption) (by assumption) | exact db9 (by assumption) (by assumption) (by assumption) | exact dbA (by assumption) (by assumption) (by assumption) (by assumption) | exact dbB (by assumption) (by assumption)) | k_dflt lia
  k_with "m:ktr_room" => k_dflt (first | exact rm1 (by with_reducible assumption) rfl | exact rm2 (by with_reducible assumption) rfl | exact rm3 (by with_reducible assumption) rfl)
  k_with "m:ktr_units" => k_dflt (first | exact un0 (by with_reducible assumption) rfl | exact un1 (by with_reducible assumption) rfl | exact un2 (by with_reducible assumption) rfl | exact un3 (by with_reducible assumption) rfl)
  k_with "m:k_ne" => (refine neN ?_; (try dsimp only); first | with_reducible assumption | exact Ne.symm (by with_reducible assumption) | exact Nat.ne_of_lt (by with_reducible assumption) | exact Nat.ne_of_gt (by with_reducible assumption) | k_extra "m:oq")
  k_with "m:cell_enter" => (refine' enterGC ?zk1_C14r1 ?zk2_C14r1 ?zk3_C14r1 ?zk4_C14r1 ?zk5_C14r1 ?zk6_C14r1 ?zk7_C14r1 ?zk8_C14r1 ?zk9_C14r1 ?zkB_C14r1 ?zkD_C14r1 ?_ ?zc2_C14r1 ?zc3_C14r1 ?zc4_C14r1; (case zk1_C14r1 => k_asm); (case zk2_C14r1 => k_asm); (case zk3_C14r1 => k_asm); (case zk4_C14r1 => k_asm); (case zk5_C14r1 => k_asm); (case zk6_C14r1 => k_is); (case zk7_C14r1 => k_is); (case zk8_C14r1 => k_extra "m:oq"); (case zk9_C14r1 => first | exact BindsTo.of_eq rfl | exact binds_K (by k_in) rfl (by k_is) rfl rfl rfl); (case zkB_C14r1 => exact rfl); (case zkD_C14r1 => decide +kernel); (case zc2_C14r1 => exact rfl); (case zc3_C14r1 => exact rfl); (case zc4_C14r1 => exact rfl); k_whole; intro L' h' tk' cells' F' N' Y' l1; (try k_lt l1); k_cells Y'; (try simp only [List.cons_append, List.nil_append, List.append_nil] at N'); (try dsimp only); (try k_fold))
  k_with "m:cell_enter" => (first | (refine' enterG ?zk1_C14r2 ?zk2_C14r2 ?zk3_C14r2 ?zk4_C14r2 ?zk5_C14r2 ?zk6_C14r2 ?zk7_C14r2 ?zk8_C14r2 ?zk9_C14r2 ?zkB_C14r2 ?_ ?zc2_C14r2 ?zc3_C14r2 ?zc4_C14r2 ?zc5_C14r2; (case zk1_C14r2 => k_asm); (case zk2_C14r2 => k_asm); (case zk3_C14r2 => k_asm); (case zk4_C14r2 => k_asm); (case zk5_C14r2 => k_asm); (case zk6_C14r2 => k_is); (case zk7_C14r2 => k_is); (case zk8_C14r2 => k_extra "m:oq"); (case zk9_C14r2 => first | exact BindsTo.of_eq rfl | exact binds_K (by k_in) rfl (by k_is) rfl rfl rfl); (case zc5_C14r2 => decide); (case zkB_C14r2 => exact locs rfl); (case zc2_C14r2 => exact rfl); (case zc3_C14r2 => exact rfl); (case zc4_C14r2 => exact rfl); k_whole; intro L' h' F' N' l1; (try k_lt l1); (try dsimp only); (try k_fold)) | fail)
  k_with "m:exec Raise some none" => (k_here; (with_reducible show wpAny _ _ (exec (Stmt.Raise (some (Expr.Call (Expr.Name _ _) _ _ _)) none _) _) _ _ _); k_dflt (refine Raise_mint (by exact rfl) ?_))
  k_with "m:call ref" => (k_here; (with_reducible show wpAny _ _ (call (Value.ref _) [Value.str _ _]) (RaisedO _) _ _); k_dflt (refine' mint_callN PySem.F.excBase_Exception ?zX_C14r4 ?zF_C14r4 ?zN_C14r4 ?zC_C14r4 ?zi_C14r4 ?zf_C14r4 ?zc_C14r4 ?_; (case zX_C14r4 => k_asm); (case zF_C14r4 => k_asm); (case zN_C14r4 => k_asm); (case zC_C14r4 => k_is); (case zi_C14r4 => k_is); (case zf_C14r4 => k_is); (case zc_C14r4 => rfl); k_whole); intro e' t' h' F' N' l1 l2; (try k_lt l1); (try k_lt2 l2); k_dflt (refine wpAny_call ?_; k_enter))
  k_with "m:getMethod type:Exception" => (k_here; refine' method_type ?zF_C14r5 ?zX_C14r5 ?zm_C14r5 (by decide +kernel) ?ze_C14r5 ?zh_C14r5 ?_; (case zF_C14r5 => k_asm); (case zX_C14r5 => k_asm); (case zm_C14r5 => exact meta_Exception); (case ze_C14r5 => k_dflt k_is); (case zh_C14r5 => k_handed))
  k_with "m:call builtin:Exception.__init__" => (k_here; k_dflt (refine' exc_initN' PySem.F.excBase_Exception ?zC_C14r6 ?zF_C14r6 ?zN_C14r6 ?zh2_C14r6 ?_; (case zF_C14r6 => k_asm); (case zN_C14r6 => k_asm); (case zC_C14r6 => exact Frag.In.keeps (by k_asm) (Fr.keep (by k_asm)) _ _ (by k_is)); (case zh2_C14r6 => k_all); k_whole); intro D' h' F' N' l1; (try simp only [List.nil_append] at F' N' l1); (try k_lt l1))
  k_with "m:setAttr ref" => (k_here; k_dflt (refine' exc_set2 ?zF_C14r7 ?zX_C14r7 ?zN_C14r7 ?ze_C14r7 ?zU_C14r7 ?zs_C14r7 ?zc_C14r7 ?zm_C14r7 ?zd_C14r7 ?zt_C14r7 ?zn_C14r7 ?zq_C14r7 ?zz_C14r7 ?_; (case zF_C14r7 => k_asm); (case zX_C14r7 => k_asm); (case zN_C14r7 => k_asm); (case ze_C14r7 => k_mem); (case zU_C14r7 => k_upd); (case zs_C14r7 => k_is); (case zc_C14r7 => k_is); (case zm_C14r7 => rfl); (case zd_C14r7 => rfl); (case zt_C14r7 => k_is); (case zn_C14r7 => rfl); (case zq_C14r7 => rfl); (case zz_C14r7 => exact Nat.le_of_ble_eq_true rfl); k_whole); intro h' tk' F' N')
  k_with "m:setAttr ref" => (k_here; k_dflt (refine' exc_set1' ?zF_C14r8 ?zX_C14r8 ?zN_C14r8 ?zh1_C14r8 ?zh2_C14r8 ?zs_C14r8 ?zc_C14r8 ?zm_C14r8 ?zd_C14r8 ?zt_C14r8 ?_; (case zF_C14r8 => k_asm); (case zX_C14r8 => k_asm); (case zN_C14r8 => k_asm); (case zh1_C14r8 => k_ne); (case zh2_C14r8 => k_all); (case zs_C14r8 => k_is); (case zc_C14r8 => k_is); (case zm_C14r8 => rfl); (case zd_C14r8 => rfl); (case zt_C14r8 => k_is); k_whole); intro D' h' tk' F' N' l1; (try simp only [List.cons_append, List.nil_append] at F' N' l1); (try k_lt l1))
  k_with "m:RaisedO" => (k_dflt (refine' raisedO_of ?zX_C14r9 ?zF_C14r9 ?zN_C14r9 ?ze_C14r9 ?zC_C14r9 ?zb_C14r9 ?_; (case zX_C14r9 => k_asm); (case zF_C14r9 => k_asm); (case zN_C14r9 => k_asm); (case ze_C14r9 => k_mem); (case zC_C14r9 => k_is); (case zb_C14r9 => rfl); k_whole))
  k_with "m:leaving ref" => (k_here; k_dflt (refine' leave_mint4 ?zK_C14r10 ?zF_C14r10 ?zN_C14r10 ?zh1_C14r10 ?zh2_C14r10 ?_; (case zK_C14r10 => k_asm); (case zF_C14r10 => k_asm); (case zN_C14r10 => k_asm); (case zh1_C14r10 => k_all); (case zh2_C14r10 => k_all); k_whole); intro h' R' RK' U'; (try dsimp only at R' RK' U' ⊢))
  k_with "m:exec Assign cons ListComp" => (k_here; (with_reducible show wpAny _ _ (exec (Stmt.Assign [_] (Expr.ListComp _ [Comprehension.mk _ _ (_ :: _) _] _ _) _) _) _ _ _); k_dflt (refine comp_assT (by k_asm) (by rfl) (by with_unfolding_all rfl) (by with_unfolding_all rfl) (by decide) (by rfl) (by decide) (by rfl) (by rfl) (by rfl) ?_))
  k_with "m:exec Assign cons ListComp" => (k_here; (with_reducible show wpAny _ _ (exec (Stmt.Assign [_] (Expr.ListComp _ [Comprehension.mk _ _ [] _] _ _) _) _) _ _ _); k_dflt (refine comp_assC (by k_asm) (by with_unfolding_all rfl) (by with_unfolding_all rfl) (by decide) (by rfl) (by decide) (by rfl) (by rfl) (by rfl) (by rfl) ?_))
  k_with "m:eval ListComp" => (k_here; (with_reducible show wpAny _ _ (eval (Expr.ListComp _ [Comprehension.mk _ _ (_ :: _) _] _ _) _) _ _ _); k_dflt (refine comp_evalT (by k_asm) (by with_unfolding_all rfl) (by decide) (by rfl) (by decide) (by rfl) ?_))
  k_with "m:eval ListComp" => (k_here; (with_reducible show wpAny _ _ (eval (Expr.ListComp _ [Comprehension.mk _ _ [] _] _ _) _) _ _ _); k_dflt (refine comp_evalU (by k_asm) (by with_unfolding_all rfl) (by decide) (by rfl) (by decide) (by rfl) ?_))
  k_with "m:SrcT" => (k_here; k_dflt (refine SrcOf.text (by rfl) (by k_asm) (by k_asm) (by rw [sizeLine_eq]; k_extra "m:oq") (fun g' => ?_); refine comp_signs ?_ ?_); (rotate_left; (intro ys' hs' hsl'); rotate_right; (intro i' c' ys' t' I' oI' C' oC' D' m' h' tk' E' hi' hci' hC' hx' F' N' off' ne')))
  k_with "m:SrcT" => (k_here; k_dflt (refine SrcOf.list (by rfl) (by k_asm) (by k_asm) (by k_mem) ?zsz_C14r16 (fun g' => ?_); (case zsz_C14r16 => (refine' llen_le ?za_C14r16 ?zb_C14r16; (case za_C14r16 => k_asm); (case zb_C14r16 => (rw [List.length_map]; k_extra "m:oq")))); refine comp_filt (by assumption) badU ?_ ?_); (rotate_left; (intro ys' hs'); rotate_right; (intro i' c' ys' t' I' oI' C' oC' D' m' h' tk' E' hci' hcm' hC' hx' F' N' off' ne')))
  k_with "m:my_llen" => (rw [sizeLine_eq]; have hll' := strsAre_length (by assumption); simp only [List.length_map] at hll'; k_extra "m:oq")
  k_with "m:CompEnd" => (k_dflt (first | (refine' endYes ?zp_C14r18 ?zF_C14r18 ?zN_C14r18 ?zoff_C14r18 ?zsub_C14r18 ?zS_C14r18; (case zF_C14r18 => k_asm); (case zN_C14r18 => k_asm); (case zS_C14r18 => first | exact trivial | exact .inr ⟨_, by k_mem, rfl, _, rfl⟩)) | (refine' endNo ?zp_C14r18 ?zF_C14r18 ?zN_C14r18 ?zoff_C14r18 ?zsub_C14r18 ?zS_C14r18; (case zF_C14r18 => k_asm); (case zN_C14r18 => k_asm); (case zS_C14r18 => first | exact trivial | exact .inr ⟨_, by k_mem, rfl, _, rfl⟩))); (case zoff_C14r18 => k_asm); (case zsub_C14r18 => (intro p hp; exact hp)); (case zp_C14r18 => first | exact sg_ne (by assumption) | exact sg_eq (by assumption) | (refine' occ_bad' ?zq1_C14r18 ?zq2_C14r18 ?zq3_C14r18; (case zq2_C14r18 => k_asm); (case zq1_C14r18 => k_asm); (case zq3_C14r18 => k_asm))))
  k_with "m:FinE" => ((unfold LCg.FinE); intro D' h' tk' F' N' o1'; (try simp only [LCg.Off1, and_true] at o1'))
  k_with "m:SrcU" => (k_here; k_dflt (refine SrcOf.range (by rfl) (by k_asm) (by k_asm) (by assumption) ?zsm_C14r20 (range2 _ (even_map (by assumption))) (by rw [sizeLine_eq, List.length_map]; k_extra "m:oq") (fun g' => ?_); (case zsm_C14r20 => exact small_two (by rw [List.length_map]; k_extra "m:oq")); refine comp_pairs _ ?_ ?_); (rotate_left; (intro ys' hs'); rotate_right; (intro i' ys' t' I' oI' C' oC' D' m' h' tk' E' hi' hC' hx' F' N' off' ne'; (try simp only [List.length_map] at hi'))))
  k_with "m:SrcU" => (k_here; k_dflt (refine SrcOf.list (by rfl) (by k_asm) (by k_asm) (by k_mem) ?zsz_C14r21 (fun g' => ?_); (case zsz_C14r21 => (refine' llen_le ?za_C14r21 ?zb_C14r21; (case za_C14r21 => k_asm); (case zb_C14r21 => (rw [List.length_map]; k_extra "m:oq")))); refine comp_worths (by assumption) hvU ?_ ?_); (rotate_left; (intro ys' hs'); rotate_right; (intro i' c' ys' t' I' oI' C' oC' D' m' h' tk' E' hci' hcm' hC' hx' F' N' off' ne')))
  k_with "m:FinC" => (k_dflt (refine ⟨_, _, _, ?zU_C14r22, ?zd_C14r22, ?_⟩; (case zU_C14r22 => k_updF); (case zd_C14r22 => k_asm)); intro D' h' tk' o' hd' F' N' o1'; (try dsimp only at N'))
  k_with "m:compareOp NotEq ref ref" => (k_here; k_dflt (refine' ne_nilK ?zN_C14r23 ?zl_C14r23 ?zl2_C14r23 ?zi_C14r23 ?zs_C14r23 ?zu_C14r23 ?_; (case zN_C14r23 => k_asm); (case zl_C14r23 => k_mem); (case zl2_C14r23 => k_mem); (case zu_C14r23 => ktr_units)); (case zi_C14r23 => k_asm); (case zs_C14r23 => k_asm))
  k_with "m:call builtin:len" => (k_here; (with_reducible show wpAny _ _ (call (Value.builtin "len") [Value.ref _]) _ _ _); k_dflt (refine' len_strsL ?zN_C14r24 ?zl_C14r24 ?zi_C14r24 ?zz_C14r24 ?_; (case zN_C14r24 => k_asm); (case zl_C14r24 => k_mem)); (case zi_C14r24 => k_asm); (case zz_C14r24 => (rw [List.length_map]; k_extra "m:oq")); intro t' k')
  k_with "m:call builtin:str.index" => (k_here; k_dflt (first | (refine' index_dig ?zs_C14r25 ?zm_C14r25 ?zd_C14r25 ?_; (case zs_C14r25 => k_asm); (case zm_C14r25 => k_asm); (case zd_C14r25 => k_asm); intro t' k') | (refine' index_cap ?zs_C14r25 ?zm_C14r25 ?zd_C14r25 ?z0_C14r25 ?_; (case zs_C14r25 => k_asm); (case zm_C14r25 => k_asm); (case zd_C14r25 => k_asm); (case z0_C14r25 => k_asm); intro t' k')))
  k_with "m:CompEnd" => (k_dflt (refine' pairsEnd ?zF_C14r26 ?zN_C14r26 ?zoff_C14r26 ?zsub_C14r26 ?zS_C14r26 ?zr_C14r26; (case zF_C14r26 => k_asm); (case zN_C14r26 => k_asm); (case zS_C14r26 => first | exact trivial | exact .inr ⟨_, by k_mem, rfl, _, rfl⟩)); (case zoff_C14r26 => k_asm); (case zsub_C14r26 => (intro p hp; exact hp)); (case zr_C14r26 => first | exact rfl | k_extra "m:oq" | (simp only [two_at])))
  k_with "m:CompEnd" => ((with_reducible show LCg.CompEnd _ _ _ _ _ _ _ _ _ _ _ _ (Value.str _ _) _); k_dflt (refine' endYes ?zp_C14r27 ?zF_C14r27 ?zN_C14r27 ?zoff_C14r27 ?zsub_C14r27 ?zS_C14r27; (case zF_C14r27 => k_asm); (case zN_C14r27 => k_asm); (case zS_C14r27 => first | exact trivial | exact .inr ⟨_, by k_mem, rfl, _, rfl⟩)); (case zoff_C14r27 => k_asm); (case zsub_C14r27 => (intro p hp; exact hp)); (case zp_C14r27 => first | exact sg_ne (by assumption) | exact sg_eq (by assumption) | (refine' occ_bad' ?zq1_C14r27 ?zq2_C14r27 ?zq3_C14r27; (case zq2_C14r27 => k_asm); (case zq1_C14r27 => k_asm); (case zq3_C14r27 => k_asm))))
  k_with "m:CompEnd" => ((with_reducible show LCg.CompEnd _ _ _ _ _ _ _ _ _ _ _ _ Value.none _); k_dflt (refine' endNo ?zp_C14r28 ?zF_C14r28 ?zN_C14r28 ?zoff_C14r28 ?zsub_C14r28 ?zS_C14r28; (case zF_C14r28 => k_asm); (case zN_C14r28 => k_asm); (case zS_C14r28 => first | exact trivial | exact .inr ⟨_, by k_mem, rfl, _, rfl⟩)); (case zoff_C14r28 => k_asm); (case zsub_C14r28 => (intro p hp; exact hp)); (case zp_C14r28 => first | exact sg_ne (by assumption) | exact sg_eq (by assumption) | (refine' occ_bad' ?zq1_C14r28 ?zq2_C14r28 ?zq3_C14r28; (case zq2_C14r28 => k_asm); (case zq1_C14r28 => k_asm); (case zq3_C14r28 => k_asm))))
  k_with "m:subscriptTail Name Name ref int" => (k_here; k_dflt (refine' item_intsL ?zN_C14r29 ?zl_C14r29 ?zi_C14r29 ?z0_C14r29 ?zk_C14r29 ?zf_C14r29 ?zr_C14r29 ?_ ?zs_C14r29 ?zg_C14r29; (case zN_C14r29 => k_asm); (case zl_C14r29 => k_mem); (case zs_C14r29 => with_unfolding_all rfl); (case zg_C14r29 => (intro _; with_unfolding_all rfl))); (case zi_C14r29 => k_asm); (case z0_C14r29 => k_extra "m:oq"); (case zk_C14r29 => first | k_extra "m:oq" | (rw [List.length_map]; k_extra "m:oq")); (case zf_C14r29 => k_extra "m:oq"); (case zr_C14r29 => first | with_reducible assumption | assumption | exact worths_in (by assumption)); intro t' hn1' hn2')
  k_with "m:subscriptTail Name BinOp ref int" => (k_here; k_dflt (refine' item_intsL ?zN_C14r30 ?zl_C14r30 ?zi_C14r30 ?z0_C14r30 ?zk_C14r30 ?zf_C14r30 ?zr_C14r30 ?_ ?zs_C14r30 ?zg_C14r30; (case zN_C14r30 => k_asm); (case zl_C14r30 => k_mem); (case zs_C14r30 => with_unfolding_all rfl); (case zg_C14r30 => (intro _; with_unfolding_all rfl))); (case zi_C14r30 => k_asm); (case z0_C14r30 => k_extra "m:oq"); (case zk_C14r30 => first | k_extra "m:oq" | (rw [List.length_map]; k_extra "m:oq")); (case zf_C14r30 => k_extra "m:oq"); (case zr_C14r30 => first | with_reducible assumption | assumption | exact worths_in (by assumption)); intro t' hn1' hn2')
  k_with "m:call type:bytes" => (k_here; k_dflt (refine' bytes_pairs ?zN_C14r31 ?zi_C14r31 ?zr_C14r31 ?zz_C14r31 ?zh_C14r31 ?zF_C14r31 ?_; (case zN_C14r31 => k_asm); (case zF_C14r31 => k_asm); (case zh_C14r31 => exact rfl)); (case zi_C14r31 => k_asm); (case zr_C14r31 => first | with_reducible assumption | assumption | exact worths_in (by assumption)); (case zz_C14r31 => first | k_extra "m:oq" | (rw [List.length_map]; k_extra "m:oq")); intro t' h' k' F' N')
  trivial

set_option maxRecDepth 100000 in
set_option maxHeartbeats 4000000 in
theorem read_ok (w : World) (x : Str) (t : Tok) (hx : x.length ≤ 100) (hx2 : x.cps.size ≤ 100) (hsg : Signs (fun c => c < 128) x) :
    Pure w 2 278 [.str x t] (fun v ns => ns = [] ∧ ReadP x.cps.toList v) := by
  w_top off
  dsimp only [FnG, Pure]; k_fill; intros; rename_i hret
  cell_enter
  k_steps
  all_goals (try dsimp only)
  · exact hret _ [] _ _ (Fr.keep (by assumption)) New.nil ⟨rfl, .inr ⟨odd_read (by assumption), rfl⟩⟩
  · exact hret _ [] _ _ (Fr.keep (by assumption)) New.nil ⟨rfl, .inl ⟨good_read (by assumption) (by assumption), _, rfl⟩⟩
  · exact hret _ [] _ _ (Fr.keep (by assumption)) New.nil ⟨rfl, .inr ⟨bad_read (by assumption), rfl⟩⟩

end Mine
end
section
theorem Mine.none_Plain1 : True := by
  k_with_none
  w_top off
  trivial
set_option maxRecDepth 100000
open PySem PySem.W PySem.Calls PyProof.Rows PyProof.Rows.LCg PyProof.Rows.LCt PySem.SeqAt
namespace Mine
theorem lower_codes {x : Str} (h : Signs (fun c => c < 128) x) : (Txt.lower x).cps.toList = x.cps.toList.map lo1 := by
  rw [lower_ascii h]
  simp
theorem lo1_lt {c : Nat} (h : c < 128) : lo1 c < 128 ∧ ((lo1 c == 32) = (c == 32)) ∧ hvL (lo1 c) = hvU c := by
  have : ∀ d < 128, lo1 d < 128 ∧ ((lo1 d == 32) = (d == 32)) ∧ hvL (lo1 d) = hvU d := by decide +kernel
  exact this c h
theorem lower_signs {x : Str} (h : Signs (fun c => c < 128) x) : Signs (fun c => c < 128) (Txt.lower x) := fun c hc => by
  rw [lower_codes h] at hc
  obtain ⟨d, hd, rfl⟩ := List.mem_map.mp hc
  exact (lo1_lt (h d hd)).1
theorem sgs_low {cs : List Nat} (h : ∀ c ∈ cs, c < 128) : sgs (cs.map lo1) = (sgs cs).map lo1 := by
  induction cs with
  | nil => rfl
  | cons c r ih =>
    have ih := ih fun d hd => h d (.tail _ hd)
    unfold sgs at ih ⊢
    rw [List.map_cons, List.filter_cons, List.filter_cons, (lo1_lt (h c (.head _))).2.1, ih]
    split <;> rfl
theorem low_val {cs : List Nat} (h : ∀ c ∈ cs, c < 128) : (GoodL (cs.map lo1) ↔ GoodU cs) ∧ ValL (cs.map lo1) = ValU cs := by
  have hm : ∀ c ∈ sgs cs, c < 128 := fun c hc => h c (List.mem_filter.mp hc).1
  have e : (sgs (cs.map lo1)).map hvL = (sgs cs).map hvU := by
    rw [sgs_low h, List.map_map]
    exact List.map_congr_left fun c hc => (lo1_lt (hm c hc)).2.2
  refine ⟨⟨fun g => ⟨fun c hc => ?_, ?_⟩, fun g => ⟨fun c hc => ?_, ?_⟩⟩, ?_⟩
  · rw [← (lo1_lt (hm c hc)).2.2]
    exact g.1 _ (by rw [sgs_low h]; exact List.mem_map.mpr ⟨c, hc, rfl⟩)
  · have := g.2
    rwa [sgs_low h, List.length_map] at this
  · rw [sgs_low h] at hc
    obtain ⟨d, hd, rfl⟩ := List.mem_map.mp hc
    rw [(lo1_lt (hm d hd)).2.2]
    exact g.1 d hd
  · rw [sgs_low h, List.length_map]
    exact g.2
  · unfold ValL ValU
    rw [e]
/-- heard and read answer alike -/
theorem heard_read {x : Str} (h : Signs (fun c => c < 128) x) {v : Value} (hv : HeardP (Txt.lower x).cps.toList v) : ReadP x.cps.toList v := by
  rw [lower_codes h] at hv
  obtain ⟨h1, h2⟩ := low_val h
  rcases hv with ⟨g, t, e⟩ | ⟨g, e⟩
  · exact .inl ⟨h1.mp g, t, by rw [e, h2]⟩
  · exact .inr ⟨fun g' => g (h1.mpr g'), e⟩
/-- a figure's code -/
def fcode (i : Int) : Nat := (Txt.item (Str.ofString "0123456789abcdef") i).cps.toList.headD 0
theorem fcode_of {i : Int} (h0 : 0 ≤ i) (h1 : i < 16) : (Txt.item (Str.ofString "0123456789abcdef") i).cps.toList = [fcode i] ∧ fcode i ≠ 32 ∧ fcode i < 128 ∧ hvU (fcode i) = i := by
  have : ∀ n < 16, (Txt.item (Str.ofString "0123456789abcdef") ((n : Nat) : Int)).cps.toList = [fcode n] ∧ fcode n ≠ 32 ∧ fcode n < 128 ∧ hvU (fcode n) = n := by decide +kernel
  have := this i.toNat (by lia)
  rwa [Int.toNat_of_nonneg h0] at this
theorem figs_codes (k : Int) : (figs k).cps.toList = [fcode (k / 16 % 16), fcode (k % 16)] := by
  unfold figs
  have a := (fcode_of (i := k / 16 % 16) (Int.emod_nonneg _ (by decide)) (Int.emod_lt_of_pos _ (by decide))).1
  have b := (fcode_of (i := k % 16) (Int.emod_nonneg _ (by decide)) (Int.emod_lt_of_pos _ (by decide))).1
  have z : (Str.ofString "").cps.toList = [] := by decide
  rw [Str.cps_append, Str.cps_append, Array.toList_append, Array.toList_append, a, b, z]
  rfl
theorem sgs_app (a b : List Nat) : sgs (a ++ b) = sgs a ++ sgs b := by unfold sgs; rw [List.filter_append]
theorem join_codes : ∀ ks : List Int, sgs (Str.join (Str.ofString " ") (ks.map figs)).cps.toList = ks.flatMap (fun k => [fcode (k / 16 % 16), fcode (k % 16)]) ∧ (∀ c ∈ (Str.join (Str.ofString " ") (ks.map figs)).cps.toList, c < 128) ∧ (Str.join (Str.ofString " ") (ks.map figs)).cps.size ≤ 3 * ks.length
  | [] => by
    refine ⟨by decide, ?_, by decide⟩
    intro c hc
    have : (Str.join (Str.ofString " ") (([] : List Int).map figs)).cps.toList = [] := by decide
    rw [this] at hc
    cases hc
  | k :: r => by
    have a := fcode_of (i := k / 16 % 16) (Int.emod_nonneg _ (by decide)) (Int.emod_lt_of_pos _ (by decide))
    have b := fcode_of (i := k % 16) (Int.emod_nonneg _ (by decide)) (Int.emod_lt_of_pos _ (by decide))
    have one : sgs (figs k).cps.toList = [fcode (k / 16 % 16), fcode (k % 16)] := by
      rw [figs_codes]
      unfold sgs
      have h1 : (fcode (k / 16 % 16) == 32) = false := by simpa using a.2.1
      have h2 : (fcode (k % 16) == 32) = false := by simpa using b.2.1
      simp [h1, h2]
    have lt1 : ∀ c ∈ (figs k).cps.toList, c < 128 := by
      rw [figs_codes]
      intro c hc
      simp only [List.mem_cons, List.not_mem_nil, or_false] at hc
      rcases hc with rfl | rfl
      · exact a.2.2.1
      · exact b.2.2.1
    have sz : (figs k).cps.size = 2 := figs_len k
    cases r with
    | nil =>
      show sgs (figs k).cps.toList = _ ∧ (∀ c ∈ (figs k).cps.toList, c < 128) ∧ (figs k).cps.size ≤ _
      exact ⟨by rw [one]; rfl, lt1, by rw [sz]; simp⟩
    | cons k2 r2 =>
      have ih := join_codes (k2 :: r2)
      have e : Str.join (Str.ofString " ") ((k :: k2 :: r2).map figs) = figs k ++ Str.ofString " " ++ Str.join (Str.ofString " ") ((k2 :: r2).map figs) := rfl
      have z : (Str.ofString " ").cps.toList = [32] := by decide
      have z2 : (Str.ofString " ").cps.size = 1 := by decide
      rw [e]
      refine ⟨?_, ?_, ?_⟩
      · rw [Str.cps_append, Str.cps_append, Array.toList_append, Array.toList_append, sgs_app, sgs_app, one, z, ih.1]
        rfl
      · intro c hc
        rw [Str.cps_append, Str.cps_append, Array.toList_append, Array.toList_append, z] at hc
        simp only [List.mem_append, List.mem_singleton] at hc
        rcases hc with (hc | rfl) | hc
        · exact lt1 c hc
        · decide
        · exact ih.2.1 c hc
      · rw [Str.cps_append, Str.cps_append, Array.size_append, Array.size_append, sz, z2]
        have := ih.2.2
        simp only [List.length_cons] at this ⊢
        lia
theorem octText_join (ks : List Int) : octText ks = Str.join (Str.ofString " ") (ks.map figs) := StrLaws.glued_eq_join _ _
theorem pairs_cons (a b : Int) (r : List Int) : pairsL (a :: b :: r) = (16 * a + b) :: pairsL r := by
  unfold pairsL
  have e : (a :: b :: r).length / 2 = r.length / 2 + 1 := by simp only [List.length_cons]; lia
  rw [e, List.range_succ_eq_map, List.map_cons, List.map_map]
  congr 1
theorem pairs_flat : ∀ {ks : List Int}, (∀ k ∈ ks, 0 ≤ k ∧ k < 256) → pairsL (ks.flatMap fun k => [k / 16 % 16, k % 16]) = ks
  | [], _ => rfl
  | k :: r, h => by
    have hk := h k (.head _)
    show pairsL ((k / 16 % 16) :: (k % 16) :: r.flatMap fun k => [k / 16 % 16, k % 16]) = k :: r
    rw [pairs_cons, pairs_flat fun j hj => h j (.tail _ hj)]
    congr 1
    lia
theorem octText_ok {ks : List Int} (h : ∀ k ∈ ks, 0 ≤ k ∧ k < 256) : GoodU (octText ks).cps.toList ∧ ValU (octText ks).cps.toList = ks ∧ Signs (fun c => c < 128) (octText ks) ∧ (octText ks).cps.size ≤ 3 * ks.length := by
  obtain ⟨h1, h2, h3⟩ := join_codes ks
  rw [octText_join]
  have e : (ks.flatMap fun k => [fcode (k / 16 % 16), fcode (k % 16)]).map hvU = ks.flatMap fun k => [k / 16 % 16, k % 16] := by
    rw [List.map_flatMap]
    congr 1
    funext k
    simp only [List.map_cons, List.map_nil]
    rw [(fcode_of (i := k / 16 % 16) (Int.emod_nonneg _ (by decide)) (Int.emod_lt_of_pos _ (by decide))).2.2.2, (fcode_of (i := k % 16) (Int.emod_nonneg _ (by decide)) (Int.emod_lt_of_pos _ (by decide))).2.2.2]
  refine ⟨⟨fun c hc => ?_, ?_⟩, ?_, h2, h3⟩
  · rw [h1] at hc
    obtain ⟨k, _, hc⟩ := List.mem_flatMap.mp hc
    simp only [List.mem_cons, List.not_mem_nil, or_false] at hc
    rcases hc with rfl | rfl
    · rw [(fcode_of (i := k / 16 % 16) (Int.emod_nonneg _ (by decide)) (Int.emod_lt_of_pos _ (by decide))).2.2.2]
      exact Int.emod_nonneg _ (by decide)
    · rw [(fcode_of (i := k % 16) (Int.emod_nonneg _ (by decide)) (Int.emod_lt_of_pos _ (by decide))).2.2.2]
      exact Int.emod_nonneg _ (by decide)
  · rw [h1]
    have : ∀ l : List Int, (l.flatMap fun k => [fcode (k / 16 % 16), fcode (k % 16)]).length = 2 * l.length := by
      intro l
      induction l with
      | nil => rfl
      | cons a r ih => rw [List.flatMap_cons, List.length_append, ih]; simp; lia
    rw [this]; lia
  · unfold ValU
    rw [h1, e]
    exact pairs_flat h
end Mine
end
section
open PySem PySem.W PySem.Calls PyProof.Rows
namespace Mine
theorem rows_C4_1 : True := by
  k_with_none
  k_with "m:on" => skip
  k_with "m:klt" => (intro l0; replace l0 := allLt_of l0; dsimp only [AllLt] at l0; (repeat (have := And.left l0; replace l0 := And.right l0)); revert l0)
  k_with "m:ktr_room" => k_dflt (first | exact rm1 (by with_reducible assumption) rfl | exact rm2 (by with_reducible assumption) rfl | exact rm3 (by with_reducible assumption) rfl)
  k_with "m:ktr_units" => k_dflt (first | exact un0 (by with_reducible assumption) rfl | exact un1 (by with_reducible assumption) rfl | exact un2 (by with_reducible assumption) rfl | exact un3 (by with_reducible assumption) rfl)
  k_with "m:k_ne" => (refine neN ?_; (try dsimp only); first | with_reducible assumption | exact Ne.symm (by with_reducible assumption) | exact Nat.ne_of_lt (by with_reducible assumption) | exact Nat.ne_of_gt (by with_reducible assumption) | lia)
  k_with "m:cell_enter" => (refine' enterGC ?zk1_C4r1 ?zk2_C4r1 ?zk3_C4r1 ?zk4_C4r1 ?zk5_C4r1 ?zk6_C4r1 ?zk7_C4r1 ?zk8_C4r1 ?zk9_C4r1 ?zkB_C4r1 ?zkD_C4r1 ?_ ?zc2_C4r1 ?zc3_C4r1 ?zc4_C4r1; (case zk1_C4r1 => k_asm); (case zk2_C4r1 => k_asm); (case zk3_C4r1 => k_asm); (case zk4_C4r1 => k_asm); (case zk5_C4r1 => k_asm); (case zk6_C4r1 => k_is); (case zk7_C4r1 => k_is); (case zk8_C4r1 => lia); (case zk9_C4r1 => first | exact BindsTo.of_eq rfl | exact binds_K (by k_in) rfl (by k_is) rfl rfl rfl); (case zkB_C4r1 => exact rfl); (case zkD_C4r1 => decide +kernel); (case zc2_C4r1 => exact rfl); (case zc3_C4r1 => exact rfl); (case zc4_C4r1 => exact rfl); k_whole; intro L' h' tk' cells' F' N' Y' l1; (try k_lt l1); k_cells Y'; (try simp only [List.cons_append, List.nil_append, List.append_nil] at N'); (try dsimp only); (try k_fold))
  k_with "m:cell_enter" => (refine' enterG ?zk1_C4r2 ?zk2_C4r2 ?zk3_C4r2 ?zk4_C4r2 ?zk5_C4r2 ?zk6_C4r2 ?zk7_C4r2 ?zk8_C4r2 ?zk9_C4r2 ?zkB_C4r2 ?_ ?zc2_C4r2 ?zc3_C4r2 ?zc4_C4r2 ?zc5_C4r2; (case zk1_C4r2 => k_asm); (case zk2_C4r2 => k_asm); (case zk3_C4r2 => k_asm); (case zk4_C4r2 => k_asm); (case zk5_C4r2 => k_asm); (case zk6_C4r2 => k_is); (case zk7_C4r2 => k_is); (case zk8_C4r2 => lia); (case zk9_C4r2 => first | exact BindsTo.of_eq rfl | exact binds_K (by k_in) rfl (by k_is) rfl rfl rfl); (case zc5_C4r2 => decide); (case zkB_C4r2 => exact locs rfl); (case zc2_C4r2 => exact rfl); (case zc3_C4r2 => exact rfl); (case zc4_C4r2 => exact rfl); k_whole; intro L' h' F' N' l1; (try k_lt l1); (try dsimp only); (try k_fold))
  k_with "m:exec Raise some none" => (k_here; (with_reducible show wpAny _ _ (exec (Stmt.Raise (some (Expr.Call (Expr.Name _ _) _ _ _)) none _) _) _ _ _); k_dflt (refine Raise_mint (by exact rfl) ?_))
  k_with "m:call ref" => (k_here; (with_reducible show wpAny _ _ (call (Value.ref _) [Value.str _ _]) (RaisedO _) _ _); k_dflt (refine' mint_callN PySem.F.excBase_Exception ?zX_C4r4 ?zF_C4r4 ?zN_C4r4 ?zC_C4r4 ?zi_C4r4 ?zf_C4r4 ?zc_C4r4 ?_; (case zX_C4r4 => k_asm); (case zF_C4r4 => k_asm); (case zN_C4r4 => k_asm); (case zC_C4r4 => k_is); (case zi_C4r4 => k_is); (case zf_C4r4 => k_is); (case zc_C4r4 => rfl); k_whole); intro e' t' h' F' N' l1 l2; (try k_lt l1); (try k_lt2 l2); k_dflt (refine wpAny_call ?_; k_enter))
  k_with "m:getMethod type:Exception" => (k_here; refine' method_type ?zF_C4r5 ?zX_C4r5 ?zm_C4r5 (by decide +kernel) ?ze_C4r5 ?zh_C4r5 ?_; (case zF_C4r5 => k_asm); (case zX_C4r5 => k_asm); (case zm_C4r5 => exact meta_Exception); (case ze_C4r5 => k_dflt k_is); (case zh_C4r5 => k_handed))
  k_with "m:call builtin:Exception.__init__" => (k_here; k_dflt (refine' exc_initN' PySem.F.excBase_Exception ?zC_C4r6 ?zF_C4r6 ?zN_C4r6 ?zh2_C4r6 ?_; (case zF_C4r6 => k_asm); (case zN_C4r6 => k_asm); (case zC_C4r6 => exact Frag.In.keeps (by k_asm) (Fr.keep (by k_asm)) _ _ (by k_is)); (case zh2_C4r6 => k_all); k_whole); intro D' h' F' N' l1; (try simp only [List.nil_append] at F' N' l1); (try k_lt l1))
  k_with "m:setAttr ref" => (k_here; k_dflt (refine' exc_set2 ?zF_C4r7 ?zX_C4r7 ?zN_C4r7 ?ze_C4r7 ?zU_C4r7 ?zs_C4r7 ?zc_C4r7 ?zm_C4r7 ?zd_C4r7 ?zt_C4r7 ?zn_C4r7 ?zq_C4r7 ?zz_C4r7 ?_; (case zF_C4r7 => k_asm); (case zX_C4r7 => k_asm); (case zN_C4r7 => k_asm); (case ze_C4r7 => k_mem); (case zU_C4r7 => k_upd); (case zs_C4r7 => k_is); (case zc_C4r7 => k_is); (case zm_C4r7 => rfl); (case zd_C4r7 => rfl); (case zt_C4r7 => k_is); (case zn_C4r7 => rfl); (case zq_C4r7 => rfl); (case zz_C4r7 => exact Nat.le_of_ble_eq_true rfl); k_whole); intro h' tk' F' N')
  k_with "m:setAttr ref" => (k_here; k_dflt (refine' exc_set1' ?zF_C4r8 ?zX_C4r8 ?zN_C4r8 ?zh1_C4r8 ?zh2_C4r8 ?zs_C4r8 ?zc_C4r8 ?zm_C4r8 ?zd_C4r8 ?zt_C4r8 ?_; (case zF_C4r8 => k_asm); (case zX_C4r8 => k_asm); (case zN_C4r8 => k_asm); (case zh1_C4r8 => k_ne); (case zh2_C4r8 => k_all); (case zs_C4r8 => k_is); (case zc_C4r8 => k_is); (case zm_C4r8 => rfl); (case zd_C4r8 => rfl); (case zt_C4r8 => k_is); k_whole); intro D' h' tk' F' N' l1; (try simp only [List.cons_append, List.nil_append] at F' N' l1); (try k_lt l1))
  k_with "m:RaisedO" => (k_dflt (refine' raisedO_of ?zX_C4r9 ?zF_C4r9 ?zN_C4r9 ?ze_C4r9 ?zC_C4r9 ?zb_C4r9 ?_; (case zX_C4r9 => k_asm); (case zF_C4r9 => k_asm); (case zN_C4r9 => k_asm); (case ze_C4r9 => k_mem); (case zC_C4r9 => k_is); (case zb_C4r9 => rfl); k_whole))
  k_with "m:leaving ref" => (k_here; k_dflt (refine' leave_mint4 ?zK_C4r10 ?zF_C4r10 ?zN_C4r10 ?zh1_C4r10 ?zh2_C4r10 ?_; (case zK_C4r10 => k_asm); (case zF_C4r10 => k_asm); (case zN_C4r10 => k_asm); (case zh1_C4r10 => k_all); (case zh2_C4r10 => k_all); k_whole); intro h' R' RK' U'; (try dsimp only at R' RK' U' ⊢))
  k_with "m:compareOp Eq ref ref" => (k_here; k_dflt (refine' eq_strsK ?zN_C4r11 ?zl_C4r11 ?zS_C4r11 ?zl2_C4r11 ?zS2_C4r11 ?zu_C4r11 ?zo_C4r11 ?zo2_C4r11 ?_; (case zN_C4r11 => k_asm); (case zl_C4r11 => k_mem); (case zS_C4r11 => k_asm); (case zl2_C4r11 => k_mem); (case zS2_C4r11 => exact StrsAre.nil); (case zu_C4r11 => ktr_units); (case zo_C4r11 => exact early_ok1 _); (case zo2_C4r11 => rfl); k_whole))
  k_with "m:subscriptTail Name Name ref int" => (k_here; k_dflt (refine' item_strsK ?zN_C4r12 ?zl_C4r12 ?zS_C4r12 ?z0_C4r12 ?zk_C4r12 ?zf_C4r12 ?_ ?zs_C4r12 ?zg_C4r12; (case zN_C4r12 => k_asm); (case zl_C4r12 => k_mem); (case zS_C4r12 => k_asm); (case z0_C4r12 => lia); (case zk_C4r12 => first | exact early_lt (by assumption) (by lia) | (show _ < ((_ : Nat) : Int); lia)); (case zf_C4r12 => lia); (case zs_C4r12 => with_unfolding_all rfl); (case zg_C4r12 => (intro _; with_unfolding_all rfl)); k_whole; intro t'))
  k_with "m:call ref" => (k_here; (with_reducible show wpAny _ _ (call (Value.ref 153) [Value.int _ _]) _ _ _); k_dflt (refine' callList (early_ok _ _ _) ?zB_C4r13 ?zF_C4r13 ?zX_C4r13 ?zN_C4r13 ?zT_C4r13 ?zA_C4r13 ?zf_C4r13 ?zk_C4r13 ?zd_C4r13 ?zu_C4r13 ?_; (case zF_C4r13 => k_asm); (case zB_C4r13 => k_asm); (case zX_C4r13 => k_asm); (case zN_C4r13 => k_asm); (case zT_C4r13 => k_asm); (case zA_C4r13 => exact rfl); (case zf_C4r13 => exact rfl); (case zk_C4r13 => exact rfl); (case zd_C4r13 => ktr_room); (case zu_C4r13 => ktr_units); k_whole; intro D' vs' n' h' tk' S' F' N' l1; (try dsimp only [AllNe] at l1); (repeat (have := And.left l1; replace l1 := And.right l1))))
  k_with "m:call ref" => (k_here; (with_reducible show wpAny _ _ (call (Value.ref 160) [Value.int _ _]) _ _ _); k_dflt (refine' callEnd (ending_ok _ _ _) ?zB_C4r14 ?zF_C4r14 ?zX_C4r14 ?zN_C4r14 ?zT_C4r14 ?zA_C4r14 ?zf_C4r14 ?zk_C4r14 ?zd_C4r14 ?zu_C4r14 ?_; (case zF_C4r14 => k_asm); (case zB_C4r14 => k_asm); (case zX_C4r14 => k_asm); (case zN_C4r14 => k_asm); (case zT_C4r14 => k_asm); (case zA_C4r14 => exact rfl); (case zf_C4r14 => exact rfl); (case zk_C4r14 => exact rfl); (case zd_C4r14 => ktr_room); (case zu_C4r14 => ktr_units); k_whole; intro t' h' tk' hl' F' N'))
  k_with "m:call builtin:list.index" => (k_here; (with_reducible show wpAny _ _ (call (Value.builtin _) [Value.ref _, Value.str _ _]) _ _ _); k_dflt (refine' index_list_strs ?zN_C4r15 ?zl_C4r15 ?zS_C4r15 ?zz_C4r15 ?zk_C4r15 ?_; (case zN_C4r15 => k_asm); (case zl_C4r15 => k_mem); (case zS_C4r15 => k_asm); (case zz_C4r15 => first | exact early_lenOk _ | decide | rfl); (case zk_C4r15 => first | with_reducible assumption | assumption | decide +kernel); k_whole; intro hi'))
  k_with "m:call ref" => (k_here; (with_reducible show wpAny _ _ (call (Value.ref 167) [Value.int _ _, Value.int _ _]) _ _ _); k_dflt (refine' callMayReg (gpr_ok _ _ _ _ _ ?zh_C4r16 ?zh2_C4r16) ?zB_C4r16 ?zF_C4r16 ?zX_C4r16 ?zN_C4r16 ?zT_C4r16 ?zA_C4r16 ?zf_C4r16 ?zk_C4r16 ?zd_C4r16 ?zu_C4r16 ?zo_C4r16 ?zr_C4r16; (case zF_C4r16 => k_asm); (case zB_C4r16 => k_asm); (case zX_C4r16 => k_asm); (case zN_C4r16 => k_asm); (case zT_C4r16 => k_asm); (case zA_C4r16 => exact rfl); (case zf_C4r16 => exact rfl); (case zk_C4r16 => exact rfl); (case zd_C4r16 => ktr_room); (case zu_C4r16 => ktr_units); (case zh_C4r16 => lia); (case zh2_C4r16 => lia); k_whole; (try (case zr_C4r16 => (intro hz; exact absurd ⟨by first | with_reducible assumption | assumption | decide, by lia, by lia⟩ hz))); (all_goals first | (intro hz x' d' u1 u2 u3 u4 u5 u6 u7 u8 h' tk' hx' F' N' l1 l2; (try dsimp only [AllNe] at l1 l2); (repeat (have := And.left l1; replace l1 := And.right l1)); (repeat (have := And.left l2; replace l2 := And.right l2))) | (intro hz e' t' ws' h' tk' R' RK' U'))))
  k_with "m:call ref" => (k_here; (with_reducible show wpAny _ _ (call (Value.ref 174) [Value.int _ _]) _ _ _); k_dflt (refine' callMayReg (high_ok _ _ _ ?zh_C4r17 ?zh2_C4r17) ?zB_C4r17 ?zF_C4r17 ?zX_C4r17 ?zN_C4r17 ?zT_C4r17 ?zA_C4r17 ?zf_C4r17 ?zk_C4r17 ?zd_C4r17 ?zu_C4r17 ?zo_C4r17 ?zr_C4r17; (case zF_C4r17 => k_asm); (case zB_C4r17 => k_asm); (case zX_C4r17 => k_asm); (case zN_C4r17 => k_asm); (case zT_C4r17 => k_asm); (case zA_C4r17 => exact rfl); (case zf_C4r17 => exact rfl); (case zk_C4r17 => exact rfl); (case zd_C4r17 => ktr_room); (case zu_C4r17 => ktr_units); (case zh_C4r17 => lia); (case zh2_C4r17 => lia); k_whole; (try (case zr_C4r17 => (intro hz; exact absurd ⟨by lia, by lia⟩ hz))); (all_goals first | (intro hz x' d' u1 u2 u3 u4 u5 u6 u7 u8 h' tk' hx' F' N' l1 l2; (try dsimp only [AllNe] at l1 l2); (repeat (have := And.left l1; replace l1 := And.right l1)); (repeat (have := And.left l2; replace l2 := And.right l2))) | (intro hz e' t' ws' h' tk' R' RK' U'))))
  k_with "m:call ref" => (k_here; (with_reducible show wpAny _ _ (call (Value.ref 188) [Value.int _ _]) _ _ _); k_dflt (refine' callMayReg (xmm_ok _ _ _ ?zh_C4r18 ?zh2_C4r18) ?zB_C4r18 ?zF_C4r18 ?zX_C4r18 ?zN_C4r18 ?zT_C4r18 ?zA_C4r18 ?zf_C4r18 ?zk_C4r18 ?zd_C4r18 ?zu_C4r18 ?zo_C4r18 ?zr_C4r18; (case zF_C4r18 => k_asm); (case zB_C4r18 => k_asm); (case zX_C4r18 => k_asm); (case zN_C4r18 => k_asm); (case zT_C4r18 => k_asm); (case zA_C4r18 => exact rfl); (case zf_C4r18 => exact rfl); (case zk_C4r18 => exact rfl); (case zd_C4r18 => ktr_room); (case zu_C4r18 => ktr_units); (case zh_C4r18 => lia); (case zh2_C4r18 => lia); k_whole; (try (case zr_C4r18 => (intro hz; exact absurd ⟨by lia, by lia⟩ hz))); (all_goals first | (intro hz x' d' u1 u2 u3 u4 u5 u6 u7 u8 h' tk' hx' F' N' l1 l2; (try dsimp only [AllNe] at l1 l2); (repeat (have := And.left l1; replace l1 := And.right l1)); (repeat (have := And.left l2; replace l2 := And.right l2))) | (intro hz e' t' ws' h' tk' R' RK' U'))))
  k_with "m:call ref" => (k_here; (with_reducible show wpAny _ _ (call (Value.ref 195) []) _ _ _); k_dflt (refine' callReg (rip_ok _) ?zB_C4r19 ?zF_C4r19 ?zX_C4r19 ?zN_C4r19 ?zT_C4r19 ?zA_C4r19 ?zf_C4r19 ?zk_C4r19 ?zd_C4r19 ?zu_C4r19 ?_; (case zF_C4r19 => k_asm); (case zB_C4r19 => k_asm); (case zX_C4r19 => k_asm); (case zN_C4r19 => k_asm); (case zT_C4r19 => k_asm); (case zA_C4r19 => exact rfl); (case zf_C4r19 => exact rfl); (case zk_C4r19 => exact rfl); (case zd_C4r19 => ktr_room); (case zu_C4r19 => ktr_units); k_whole; intro x' d' u1 u2 u3 u4 u5 u6 u7 u8 h' tk' hx' F' N' l1 l2; (try dsimp only [AllNe] at l1 l2); (repeat (have := And.left l1; replace l1 := And.right l1)); (repeat (have := And.left l2; replace l2 := And.right l2))))
  k_with "m:call ref" => (k_here; (with_reducible show wpAny _ _ (call (Value.ref 202) [Value.str (PySem.Str.ofString "fs") _]) _ _ _); k_dflt (refine' callReg (fs_ok _ _) ?zB_C4r20 ?zF_C4r20 ?zX_C4r20 ?zN_C4r20 ?zT_C4r20 ?zA_C4r20 ?zf_C4r20 ?zk_C4r20 ?zd_C4r20 ?zu_C4r20 ?_; (case zF_C4r20 => k_asm); (case zB_C4r20 => k_asm); (case zX_C4r20 => k_asm); (case zN_C4r20 => k_asm); (case zT_C4r20 => k_asm); (case zA_C4r20 => exact rfl); (case zf_C4r20 => exact rfl); (case zk_C4r20 => exact rfl); (case zd_C4r20 => ktr_room); (case zu_C4r20 => ktr_units); k_whole; intro x' d' u1 u2 u3 u4 u5 u6 u7 u8 h' tk' hx' F' N' l1 l2; (try dsimp only [AllNe] at l1 l2); (repeat (have := And.left l1; replace l1 := And.right l1)); (repeat (have := And.left l2; replace l2 := And.right l2))))
  k_with "m:call ref" => (k_here; (with_reducible show wpAny _ _ (call (Value.ref 202) [Value.str (PySem.Str.ofString "gs") _]) _ _ _); k_dflt (refine' callReg (gs_ok _ _) ?zB_C4r21 ?zF_C4r21 ?zX_C4r21 ?zN_C4r21 ?zT_C4r21 ?zA_C4r21 ?zf_C4r21 ?zk_C4r21 ?zd_C4r21 ?zu_C4r21 ?_; (case zF_C4r21 => k_asm); (case zB_C4r21 => k_asm); (case zX_C4r21 => k_asm); (case zN_C4r21 => k_asm); (case zT_C4r21 => k_asm); (case zA_C4r21 => exact rfl); (case zf_C4r21 => exact rfl); (case zk_C4r21 => exact rfl); (case zd_C4r21 => ktr_room); (case zu_C4r21 => ktr_units); k_whole; intro x' d' u1 u2 u3 u4 u5 u6 u7 u8 h' tk' hx' F' N' l1 l2; (try dsimp only [AllNe] at l1 l2); (repeat (have := And.left l1; replace l1 := And.right l1)); (repeat (have := And.left l2; replace l2 := And.right l2))))
  k_with "m:call type:int" => (k_here; (with_reducible show wpAny _ _ (call (Value.type _) [Value.str _ _]) _ _ _); k_dflt (first | (refine' call_xmm ?zk_C4r22 ?_; (case zk_C4r22 => k_asm); k_whole; intro hi') | (refine' call_late ?zk_C4r22 ?_; (case zk_C4r22 => k_asm); k_whole; intro hi')))
  k_with "m:pyIter ref" => (k_here; (with_reducible show wpAny _ _ (pyIter (Value.ref _)) (fun it s₂ => TurnsAt _ _ _ _ _ _ _ _ _ it s₂) _ _); (with_reducible rename UseInv _ _ _ => uI); k_dflt (refine' iter_inv uI ?zh_C4r23 ?zF_C4r23 ?zN_C4r23 ?zm_C4r23 ?zc_C4r23 ?zd_C4r23 ?zi_C4r23 ?zk_C4r23 ?zs_C4r23 ?_ ?_; (case zh_C4r23 => exact rfl); (case zF_C4r23 => k_asm); (case zN_C4r23 => k_asm); (case zm_C4r23 => k_mem); (case zc_C4r23 => exact rfl); (case zd_C4r23 => exact rfl); (case zi_C4r23 => repeat' (first | exact IntsAre.nil | refine IntsAre.cons _ _ ?_)); (case zk_C4r23 => repeat' (first | exact trivial | (refine ⟨by k_mem, ?_⟩))); (case zs_C4r23 => ktr_rel); k_whole; (all_goals first | (intro I' pre' i' post' tn' m' h' tk' o' l1 hi' hC' ho' F' N'; (try k_lt l1); (try dsimp only at hC' F' N'); obtain ⟨hm', hc'⟩ := hC'; (try tb_start)) | (intro m' h' tk' hC' F' N'; (try dsimp only at hC' F' N'); obtain ⟨hm', hc'⟩ := hC'))))
  k_with "m:UnrEndW" => ((with_reducible show UnrEndW _ _ _ _ (TurnKeep _ _) _); k_dflt (refine' turn_end ?zF_C4r24 ?zN_C4r24 ?zs_C4r24 ?zo_C4r24 ?zc_C4r24; (case zF_C4r24 => k_asm); (case zN_C4r24 => k_asm); (case zs_C4r24 => repeat' (first | exact trivial | (refine ⟨by k_mem, ?_⟩))); (case zo_C4r24 => k_all); (case zc_C4r24 => ktr_rel)))
  k_with "m:eval Name" => (k_here; k_dflt (refine' ld ?zF_C4r25 ?zv_C4r25 ?_; (case zF_C4r25 => k_asm); (case zv_C4r25 => k_asm); k_whole))
  k_with "m:call builtin:str.split" => (k_here; (with_reducible show wpAny _ _ (call (Value.builtin "str.split") [Value.str _ _]) _ _ _); k_dflt (refine' splitL ?zF_SP ?zN_SP ?zw_SP ?zs_SP ?_; (case zF_SP => k_asm); (case zN_SP => k_asm); (case zw_SP => with_reducible (first | exact wds8 | exact wds16 | exact wds32 | exact wds64 | exact wdsH | exact wdsL | exact wdsX | exact wdsS)); (case zs_SP => kspl_size); k_whole; intro D' vs' h' k' S' F' N' l1; (try dsimp only [AllNe] at l1); (repeat (have := And.left l1; replace l1 := And.right l1))))
  trivial

def lateFig (n : Int) (x : Str) : Str := Txt.slice x (some 1) (some ((x.length : Int) - ((lateEnd n).length : Int)))
def lateHit (x : Str) (n : Int) : Bool := (Txt.slice x (some 1) none == lateFig n x ++ lateEnd n) && lates.any (· == lateFig n x)
def lateLook (x : Str) : Option (Int × Int) := if (Txt.slice x none (some 1) != Str.ofString "r") = true then none else ([64, 32, 16, 8].find? (lateHit x)).map fun n => ((8 : Int) + (lates.idxOf (lateFig n x) : Nat), n)
def LateOut (P : Params) (x : Str) (v : Value) (ns : List (Addr × Obj)) : Prop := match lateLook x with
  | none => v = .none ∧ ns = []
  | some (k, n) => RegOut P (regName k n) (Str.ofString "gpr") k n v ns

theorem lateOut_none {P : Params} {x : Str} (h : lateLook x = none) : LateOut P x .none [] := by
  unfold LateOut; rw [h]; exact ⟨rfl, rfl⟩
theorem lateOut_some {P : Params} {x : Str} {k n : Int} {a d : Addr} {t1 t2 t3 t4 t5 t6 t7 t8 : Tok} (h : lateLook x = some (k, n)) (hx : @Ne Nat a d) :
    LateOut P x (.ref a) [(a, instObj 142 d), (d, regDict P (regName k n) (Str.ofString "gpr") k n t1 t2 t3 t4 t5 t6 t7 t8)] := by
  unfold LateOut; rw [h]; exact regOut_of rfl hx

theorem rows_C4_2 : True := by
  k_with "m:tb_start" => (have hE' := early_mem (by assumption))
  k_with "m:ktr_rel" => (dsimp only; first
  | (refine ⟨rfl, ?_⟩; intro kk hk; cases hk)
  | (refine ⟨by assumption, ?_⟩; intro kk hk; rcases List.mem_append.mp hk with hk | hk; exact (by assumption : ∀ k ∈ _, lateHit _ k = false) kk hk; rw [List.mem_singleton.mp hk]; first | exact Bool.and_eq_false_iff.mpr (Or.inl (by assumption)) | exact Bool.and_eq_false_iff.mpr (Or.inr (by assumption))))
  trivial

set_option maxRecDepth 100000 in
set_option maxHeartbeats 8000000 in
theorem late_ok (w : World) (x : Str) (t : Tok) (hx : x.length ≤ 1000) : Pure w 4 209 [.str x t] (LateOut w.params x) := by
  w_top off
  dsimp only [FnG, Pure]; k_fill; intros; rename_i hret
  have uI : UseInv [64, 32, 16, 8] [] (fun pre m => m (Str.ofString "name") = some (.str x t) ∧ ∀ k ∈ pre, lateHit x k = false) := UseInv.mk _ _ _
  cell_enter
  k_steps
  all_goals (try dsimp only)
  all_goals first
    | (refine hret _ [] _ _ (Fr.keep (by assumption)) New.nil (lateOut_none ?_); unfold lateLook; rw [if_pos (by assumption)])
    | (refine hret _ [] _ _ (Fr.keep (by assumption)) New.nil (lateOut_none ?_); unfold lateLook; rw [find_none (by assumption)]; split <;> rfl)
    | (refine hret _ [_, _] _ _ (Fr.keep (by assumption)) (new2 (by assumption)) (lateOut_some ?_ (by assumption)); unfold lateLook; rw [if_neg (by simp only [*]; decide), find_split (p := lateHit x) (by assumption) (by assumption) (Bool.and_eq_true_iff.mpr ⟨by assumption, by assumption⟩)]; rfl)

end Mine
end
section
open PySem PySem.W PySem.Calls PyProof.Rows
namespace Mine
theorem rows_C5_1 : True := by
  k_with_none
  k_with "m:on" => skip
  k_with "m:klt" => (intro l0; replace l0 := allLt_of l0; dsimp only [AllLt] at l0; (repeat (have := And.left l0; replace l0 := And.right l0)); revert l0)
  k_with "m:ktr_room" => k_dflt (first | exact rm1 (by with_reducible assumption) rfl | exact rm2 (by with_reducible assumption) rfl | exact rm3 (by with_reducible assumption) rfl)
  k_with "m:ktr_units" => k_dflt (first | exact un0 (by with_reducible assumption) rfl | exact un1 (by with_reducible assumption) rfl | exact un2 (by with_reducible assumption) rfl | exact un3 (by with_reducible assumption) rfl)
  k_with "m:k_ne" => (refine neN ?_; (try dsimp only); first | with_reducible assumption | exact Ne.symm (by with_reducible assumption) | exact Nat.ne_of_lt (by with_reducible assumption) | exact Nat.ne_of_gt (by with_reducible assumption) | lia)
  k_with "m:cell_enter" => (refine' enterGC ?zk1_C5r1 ?zk2_C5r1 ?zk3_C5r1 ?zk4_C5r1 ?zk5_C5r1 ?zk6_C5r1 ?zk7_C5r1 ?zk8_C5r1 ?zk9_C5r1 ?zkB_C5r1 ?zkD_C5r1 ?_ ?zc2_C5r1 ?zc3_C5r1 ?zc4_C5r1; (case zk1_C5r1 => k_asm); (case zk2_C5r1 => k_asm); (case zk3_C5r1 => k_asm); (case zk4_C5r1 => k_asm); (case zk5_C5r1 => k_asm); (case zk6_C5r1 => k_is); (case zk7_C5r1 => k_is); (case zk8_C5r1 => lia); (case zk9_C5r1 => first | exact BindsTo.of_eq rfl | exact binds_K (by k_in) rfl (by k_is) rfl rfl rfl); (case zkB_C5r1 => exact rfl); (case zkD_C5r1 => decide +kernel); (case zc2_C5r1 => exact rfl); (case zc3_C5r1 => exact rfl); (case zc4_C5r1 => exact rfl); k_whole; intro L' h' tk' cells' F' N' Y' l1; (try k_lt l1); k_cells Y'; (try simp only [List.cons_append, List.nil_append, List.append_nil] at N'); (try dsimp only); (try k_fold))
  k_with "m:cell_enter" => (refine' enterG ?zk1_C5r2 ?zk2_C5r2 ?zk3_C5r2 ?zk4_C5r2 ?zk5_C5r2 ?zk6_C5r2 ?zk7_C5r2 ?zk8_C5r2 ?zk9_C5r2 ?zkB_C5r2 ?_ ?zc2_C5r2 ?zc3_C5r2 ?zc4_C5r2 ?zc5_C5r2; (case zk1_C5r2 => k_asm); (case zk2_C5r2 => k_asm); (case zk3_C5r2 => k_asm); (case zk4_C5r2 => k_asm); (case zk5_C5r2 => k_asm); (case zk6_C5r2 => k_is); (case zk7_C5r2 => k_is); (case zk8_C5r2 => lia); (case zk9_C5r2 => first | exact BindsTo.of_eq rfl | exact binds_K (by k_in) rfl (by k_is) rfl rfl rfl); (case zc5_C5r2 => decide); (case zkB_C5r2 => exact locs rfl); (case zc2_C5r2 => exact rfl); (case zc3_C5r2 => exact rfl); (case zc4_C5r2 => exact rfl); k_whole; intro L' h' F' N' l1; (try k_lt l1); (try dsimp only); (try k_fold))
  k_with "m:exec Raise some none" => (k_here; (with_reducible show wpAny _ _ (exec (Stmt.Raise (some (Expr.Call (Expr.Name _ _) _ _ _)) none _) _) _ _ _); k_dflt (refine Raise_mint (by exact rfl) ?_))
  k_with "m:call ref" => (k_here; (with_reducible show wpAny _ _ (call (Value.ref _) [Value.str _ _]) (RaisedO _) _ _); k_dflt (refine' mint_callN PySem.F.excBase_Exception ?zX_C5r4 ?zF_C5r4 ?zN_C5r4 ?zC_C5r4 ?zi_C5r4 ?zf_C5r4 ?zc_C5r4 ?_; (case zX_C5r4 => k_asm); (case zF_C5r4 => k_asm); (case zN_C5r4 => k_asm); (case zC_C5r4 => k_is); (case zi_C5r4 => k_is); (case zf_C5r4 => k_is); (case zc_C5r4 => rfl); k_whole); intro e' t' h' F' N' l1 l2; (try k_lt l1); (try k_lt2 l2); k_dflt (refine wpAny_call ?_; k_enter))
  k_with "m:getMethod type:Exception" => (k_here; refine' method_type ?zF_C5r5 ?zX_C5r5 ?zm_C5r5 (by decide +kernel) ?ze_C5r5 ?zh_C5r5 ?_; (case zF_C5r5 => k_asm); (case zX_C5r5 => k_asm); (case zm_C5r5 => exact meta_Exception); (case ze_C5r5 => k_dflt k_is); (case zh_C5r5 => k_handed))
  k_with "m:call builtin:Exception.__init__" => (k_here; k_dflt (refine' exc_initN' PySem.F.excBase_Exception ?zC_C5r6 ?zF_C5r6 ?zN_C5r6 ?zh2_C5r6 ?_; (case zF_C5r6 => k_asm); (case zN_C5r6 => k_asm); (case zC_C5r6 => exact Frag.In.keeps (by k_asm) (Fr.keep (by k_asm)) _ _ (by k_is)); (case zh2_C5r6 => k_all); k_whole); intro D' h' F' N' l1; (try simp only [List.nil_append] at F' N' l1); (try k_lt l1))
  k_with "m:setAttr ref" => (k_here; k_dflt (refine' exc_set2 ?zF_C5r7 ?zX_C5r7 ?zN_C5r7 ?ze_C5r7 ?zU_C5r7 ?zs_C5r7 ?zc_C5r7 ?zm_C5r7 ?zd_C5r7 ?zt_C5r7 ?zn_C5r7 ?zq_C5r7 ?zz_C5r7 ?_; (case zF_C5r7 => k_asm); (case zX_C5r7 => k_asm); (case zN_C5r7 => k_asm); (case ze_C5r7 => k_mem); (case zU_C5r7 => k_upd); (case zs_C5r7 => k_is); (case zc_C5r7 => k_is); (case zm_C5r7 => rfl); (case zd_C5r7 => rfl); (case zt_C5r7 => k_is); (case zn_C5r7 => rfl); (case zq_C5r7 => rfl); (case zz_C5r7 => exact Nat.le_of_ble_eq_true rfl); k_whole); intro h' tk' F' N')
  k_with "m:setAttr ref" => (k_here; k_dflt (refine' exc_set1' ?zF_C5r8 ?zX_C5r8 ?zN_C5r8 ?zh1_C5r8 ?zh2_C5r8 ?zs_C5r8 ?zc_C5r8 ?zm_C5r8 ?zd_C5r8 ?zt_C5r8 ?_; (case zF_C5r8 => k_asm); (case zX_C5r8 => k_asm); (case zN_C5r8 => k_asm); (case zh1_C5r8 => k_ne); (case zh2_C5r8 => k_all); (case zs_C5r8 => k_is); (case zc_C5r8 => k_is); (case zm_C5r8 => rfl); (case zd_C5r8 => rfl); (case zt_C5r8 => k_is); k_whole); intro D' h' tk' F' N' l1; (try simp only [List.cons_append, List.nil_append] at F' N' l1); (try k_lt l1))
  k_with "m:RaisedO" => (k_dflt (refine' raisedO_of ?zX_C5r9 ?zF_C5r9 ?zN_C5r9 ?ze_C5r9 ?zC_C5r9 ?zb_C5r9 ?_; (case zX_C5r9 => k_asm); (case zF_C5r9 => k_asm); (case zN_C5r9 => k_asm); (case ze_C5r9 => k_mem); (case zC_C5r9 => k_is); (case zb_C5r9 => rfl); k_whole))
  k_with "m:leaving ref" => (k_here; k_dflt (refine' leave_mint4 ?zK_C5r10 ?zF_C5r10 ?zN_C5r10 ?zh1_C5r10 ?zh2_C5r10 ?_; (case zK_C5r10 => k_asm); (case zF_C5r10 => k_asm); (case zN_C5r10 => k_asm); (case zh1_C5r10 => k_all); (case zh2_C5r10 => k_all); k_whole); intro h' R' RK' U'; (try dsimp only at R' RK' U' ⊢))
  k_with "m:compareOp Eq ref ref" => (k_here; k_dflt (refine' eq_strsK ?zN_C5r11 ?zl_C5r11 ?zS_C5r11 ?zl2_C5r11 ?zS2_C5r11 ?zu_C5r11 ?zo_C5r11 ?zo2_C5r11 ?_; (case zN_C5r11 => k_asm); (case zl_C5r11 => k_mem); (case zS_C5r11 => k_asm); (case zl2_C5r11 => k_mem); (case zS2_C5r11 => exact StrsAre.nil); (case zu_C5r11 => ktr_units); (case zo_C5r11 => exact early_ok1 _); (case zo2_C5r11 => rfl); k_whole))
  k_with "m:subscriptTail Name Name ref int" => (k_here; k_dflt (refine' item_strsK ?zN_C5r12 ?zl_C5r12 ?zS_C5r12 ?z0_C5r12 ?zk_C5r12 ?zf_C5r12 ?_ ?zs_C5r12 ?zg_C5r12; (case zN_C5r12 => k_asm); (case zl_C5r12 => k_mem); (case zS_C5r12 => k_asm); (case z0_C5r12 => lia); (case zk_C5r12 => first | exact early_lt (by assumption) (by lia) | (show _ < ((_ : Nat) : Int); lia)); (case zf_C5r12 => lia); (case zs_C5r12 => with_unfolding_all rfl); (case zg_C5r12 => (intro _; with_unfolding_all rfl)); k_whole; intro t'))
  k_with "m:call ref" => (k_here; (with_reducible show wpAny _ _ (call (Value.ref 153) [Value.int _ _]) _ _ _); k_dflt (refine' callList (early_ok _ _ _) ?zB_C5r13 ?zF_C5r13 ?zX_C5r13 ?zN_C5r13 ?zT_C5r13 ?zA_C5r13 ?zf_C5r13 ?zk_C5r13 ?zd_C5r13 ?zu_C5r13 ?_; (case zF_C5r13 => k_asm); (case zB_C5r13 => k_asm); (case zX_C5r13 => k_asm); (case zN_C5r13 => k_asm); (case zT_C5r13 => k_asm); (case zA_C5r13 => exact rfl); (case zf_C5r13 => exact rfl); (case zk_C5r13 => exact rfl); (case zd_C5r13 => ktr_room); (case zu_C5r13 => ktr_units); k_whole; intro D' vs' n' h' tk' S' F' N' l1; (try dsimp only [AllNe] at l1); (repeat (have := And.left l1; replace l1 := And.right l1))))
  k_with "m:call ref" => (k_here; (with_reducible show wpAny _ _ (call (Value.ref 160) [Value.int _ _]) _ _ _); k_dflt (refine' callEnd (ending_ok _ _ _) ?zB_C5r14 ?zF_C5r14 ?zX_C5r14 ?zN_C5r14 ?zT_C5r14 ?zA_C5r14 ?zf_C5r14 ?zk_C5r14 ?zd_C5r14 ?zu_C5r14 ?_; (case zF_C5r14 => k_asm); (case zB_C5r14 => k_asm); (case zX_C5r14 => k_asm); (case zN_C5r14 => k_asm); (case zT_C5r14 => k_asm); (case zA_C5r14 => exact rfl); (case zf_C5r14 => exact rfl); (case zk_C5r14 => exact rfl); (case zd_C5r14 => ktr_room); (case zu_C5r14 => ktr_units); k_whole; intro t' h' tk' hl' F' N'))
  k_with "m:call builtin:list.index" => (k_here; (with_reducible show wpAny _ _ (call (Value.builtin _) [Value.ref _, Value.str _ _]) _ _ _); k_dflt (refine' index_list_strs ?zN_C5r15 ?zl_C5r15 ?zS_C5r15 ?zz_C5r15 ?zk_C5r15 ?_; (case zN_C5r15 => k_asm); (case zl_C5r15 => k_mem); (case zS_C5r15 => k_asm); (case zz_C5r15 => first | exact early_lenOk _ | decide | rfl); (case zk_C5r15 => first | with_reducible assumption | assumption | decide +kernel); k_whole; intro hi'; (try rw [highs_len] at hi'); (try simp only [List.length_cons, List.length_nil, Nat.reduceAdd, Nat.zero_add] at hi')))
  k_with "m:call ref" => (k_here; (with_reducible show wpAny _ _ (call (Value.ref 167) [Value.int _ _, Value.int _ _]) _ _ _); k_dflt (refine' callMayReg (gpr_ok _ _ _ _ _ ?zh_C5r16 ?zh2_C5r16) ?zB_C5r16 ?zF_C5r16 ?zX_C5r16 ?zN_C5r16 ?zT_C5r16 ?zA_C5r16 ?zf_C5r16 ?zk_C5r16 ?zd_C5r16 ?zu_C5r16 ?zo_C5r16 ?zr_C5r16; (case zF_C5r16 => k_asm); (case zB_C5r16 => k_asm); (case zX_C5r16 => k_asm); (case zN_C5r16 => k_asm); (case zT_C5r16 => k_asm); (case zA_C5r16 => exact rfl); (case zf_C5r16 => exact rfl); (case zk_C5r16 => exact rfl); (case zd_C5r16 => ktr_room); (case zu_C5r16 => ktr_units); (case zh_C5r16 => lia); (case zh2_C5r16 => lia); k_whole; (try (case zr_C5r16 => (intro hz; exact absurd ⟨by first | with_reducible assumption | assumption | decide, by lia, by lia⟩ hz))); (all_goals first | (intro hz x' d' u1 u2 u3 u4 u5 u6 u7 u8 h' tk' hx' F' N' l1 l2; (try dsimp only [AllNe] at l1 l2); (repeat (have := And.left l1; replace l1 := And.right l1)); (repeat (have := And.left l2; replace l2 := And.right l2))) | (intro hz e' t' ws' h' tk' R' RK' U'))))
  k_with "m:call ref" => (k_here; (with_reducible show wpAny _ _ (call (Value.ref 174) [Value.int _ _]) _ _ _); k_dflt (refine' callMayReg (high_ok _ _ _ ?zh_C5r17 ?zh2_C5r17) ?zB_C5r17 ?zF_C5r17 ?zX_C5r17 ?zN_C5r17 ?zT_C5r17 ?zA_C5r17 ?zf_C5r17 ?zk_C5r17 ?zd_C5r17 ?zu_C5r17 ?zo_C5r17 ?zr_C5r17; (case zF_C5r17 => k_asm); (case zB_C5r17 => k_asm); (case zX_C5r17 => k_asm); (case zN_C5r17 => k_asm); (case zT_C5r17 => k_asm); (case zA_C5r17 => exact rfl); (case zf_C5r17 => exact rfl); (case zk_C5r17 => exact rfl); (case zd_C5r17 => ktr_room); (case zu_C5r17 => ktr_units); (case zh_C5r17 => lia); (case zh2_C5r17 => lia); k_whole; (try (case zr_C5r17 => (intro hz; exact absurd ⟨by lia, by lia⟩ hz))); (all_goals first | (intro hz x' d' u1 u2 u3 u4 u5 u6 u7 u8 h' tk' hx' F' N' l1 l2; (try dsimp only [AllNe] at l1 l2); (repeat (have := And.left l1; replace l1 := And.right l1)); (repeat (have := And.left l2; replace l2 := And.right l2))) | (intro hz e' t' ws' h' tk' R' RK' U'))))
  k_with "m:call ref" => (k_here; (with_reducible show wpAny _ _ (call (Value.ref 188) [Value.int _ _]) _ _ _); k_dflt (refine' callMayReg (xmm_ok _ _ _ ?zh_C5r18 ?zh2_C5r18) ?zB_C5r18 ?zF_C5r18 ?zX_C5r18 ?zN_C5r18 ?zT_C5r18 ?zA_C5r18 ?zf_C5r18 ?zk_C5r18 ?zd_C5r18 ?zu_C5r18 ?zo_C5r18 ?zr_C5r18; (case zF_C5r18 => k_asm); (case zB_C5r18 => k_asm); (case zX_C5r18 => k_asm); (case zN_C5r18 => k_asm); (case zT_C5r18 => k_asm); (case zA_C5r18 => exact rfl); (case zf_C5r18 => exact rfl); (case zk_C5r18 => exact rfl); (case zd_C5r18 => ktr_room); (case zu_C5r18 => ktr_units); (case zh_C5r18 => lia); (case zh2_C5r18 => lia); k_whole; (try (case zr_C5r18 => (intro hz; exact absurd ⟨by lia, by lia⟩ hz))); (all_goals first | (intro hz x' d' u1 u2 u3 u4 u5 u6 u7 u8 h' tk' hx' F' N' l1 l2; (try dsimp only [AllNe] at l1 l2); (repeat (have := And.left l1; replace l1 := And.right l1)); (repeat (have := And.left l2; replace l2 := And.right l2))) | (intro hz e' t' ws' h' tk' R' RK' U'))))
  k_with "m:call ref" => (k_here; (with_reducible show wpAny _ _ (call (Value.ref 195) []) _ _ _); k_dflt (refine' callReg (rip_ok _) ?zB_C5r19 ?zF_C5r19 ?zX_C5r19 ?zN_C5r19 ?zT_C5r19 ?zA_C5r19 ?zf_C5r19 ?zk_C5r19 ?zd_C5r19 ?zu_C5r19 ?_; (case zF_C5r19 => k_asm); (case zB_C5r19 => k_asm); (case zX_C5r19 => k_asm); (case zN_C5r19 => k_asm); (case zT_C5r19 => k_asm); (case zA_C5r19 => exact rfl); (case zf_C5r19 => exact rfl); (case zk_C5r19 => exact rfl); (case zd_C5r19 => ktr_room); (case zu_C5r19 => ktr_units); k_whole; intro x' d' u1 u2 u3 u4 u5 u6 u7 u8 h' tk' hx' F' N' l1 l2; (try dsimp only [AllNe] at l1 l2); (repeat (have := And.left l1; replace l1 := And.right l1)); (repeat (have := And.left l2; replace l2 := And.right l2))))
  k_with "m:call ref" => (k_here; (with_reducible show wpAny _ _ (call (Value.ref 202) [Value.str (PySem.Str.ofString "fs") _]) _ _ _); k_dflt (refine' callReg (fs_ok _ _) ?zB_C5r20 ?zF_C5r20 ?zX_C5r20 ?zN_C5r20 ?zT_C5r20 ?zA_C5r20 ?zf_C5r20 ?zk_C5r20 ?zd_C5r20 ?zu_C5r20 ?_; (case zF_C5r20 => k_asm); (case zB_C5r20 => k_asm); (case zX_C5r20 => k_asm); (case zN_C5r20 => k_asm); (case zT_C5r20 => k_asm); (case zA_C5r20 => exact rfl); (case zf_C5r20 => exact rfl); (case zk_C5r20 => exact rfl); (case zd_C5r20 => ktr_room); (case zu_C5r20 => ktr_units); k_whole; intro x' d' u1 u2 u3 u4 u5 u6 u7 u8 h' tk' hx' F' N' l1 l2; (try dsimp only [AllNe] at l1 l2); (repeat (have := And.left l1; replace l1 := And.right l1)); (repeat (have := And.left l2; replace l2 := And.right l2))))
  k_with "m:call ref" => (k_here; (with_reducible show wpAny _ _ (call (Value.ref 202) [Value.str (PySem.Str.ofString "gs") _]) _ _ _); k_dflt (refine' callReg (gs_ok _ _) ?zB_C5r21 ?zF_C5r21 ?zX_C5r21 ?zN_C5r21 ?zT_C5r21 ?zA_C5r21 ?zf_C5r21 ?zk_C5r21 ?zd_C5r21 ?zu_C5r21 ?_; (case zF_C5r21 => k_asm); (case zB_C5r21 => k_asm); (case zX_C5r21 => k_asm); (case zN_C5r21 => k_asm); (case zT_C5r21 => k_asm); (case zA_C5r21 => exact rfl); (case zf_C5r21 => exact rfl); (case zk_C5r21 => exact rfl); (case zd_C5r21 => ktr_room); (case zu_C5r21 => ktr_units); k_whole; intro x' d' u1 u2 u3 u4 u5 u6 u7 u8 h' tk' hx' F' N' l1 l2; (try dsimp only [AllNe] at l1 l2); (repeat (have := And.left l1; replace l1 := And.right l1)); (repeat (have := And.left l2; replace l2 := And.right l2))))
  k_with "m:call type:int" => (k_here; (with_reducible show wpAny _ _ (call (Value.type _) [Value.str _ _]) _ _ _); k_dflt (first | (refine' call_xmm ?zk_C5r22 ?_; (case zk_C5r22 => k_asm); k_whole; intro hi') | (refine' call_late ?zk_C5r22 ?_; (case zk_C5r22 => k_asm); k_whole; intro hi')))
  k_with "m:compareOp In str ref" => (k_here; k_dflt (refine' in_strsK ?zN_C5r23 ?zl_C5r23 ?zS_C5r23 ?_; (case zN_C5r23 => k_asm); (case zl_C5r23 => k_mem); (case zS_C5r23 => k_asm); k_whole))
  k_with "m:call ref" => (k_here; (with_reducible show wpAny _ _ (call (Value.ref 209) [Value.str _ _]) _ _ _); k_dflt (refine' callPure (late_ok _ _ _ ?zh_C5r24) ?zB_C5r24 ?zF_C5r24 ?zX_C5r24 ?zN_C5r24 ?zT_C5r24 ?zA_C5r24 ?zf_C5r24 ?zk_C5r24 ?zd_C5r24 ?zu_C5r24 ?_; (case zF_C5r24 => k_asm); (case zB_C5r24 => k_asm); (case zX_C5r24 => k_asm); (case zN_C5r24 => k_asm); (case zT_C5r24 => k_asm); (case zA_C5r24 => exact rfl); (case zf_C5r24 => exact rfl); (case zk_C5r24 => exact rfl); (case zd_C5r24 => ktr_room); (case zu_C5r24 => ktr_units); (case zh_C5r24 => first | with_reducible assumption | assumption | lia); k_whole; intro v' ns' h' tk' P' F' N' l1))
  k_with "m:pyIter ref" => (k_here; (with_reducible show wpAny _ _ (pyIter (Value.ref _)) (fun it s₂ => TurnsAt _ _ _ _ _ _ _ _ _ it s₂) _ _); (with_reducible rename UseInv _ _ _ => uI); k_dflt (refine' iter_inv uI ?zh_C5r25 ?zF_C5r25 ?zN_C5r25 ?zm_C5r25 ?zc_C5r25 ?zd_C5r25 ?zi_C5r25 ?zk_C5r25 ?zs_C5r25 ?_ ?_; (case zh_C5r25 => exact rfl); (case zF_C5r25 => k_asm); (case zN_C5r25 => k_asm); (case zm_C5r25 => k_mem); (case zc_C5r25 => exact rfl); (case zd_C5r25 => exact rfl); (case zi_C5r25 => repeat' (first | exact IntsAre.nil | refine IntsAre.cons _ _ ?_)); (case zk_C5r25 => repeat' (first | exact trivial | (refine ⟨by k_mem, ?_⟩))); (case zs_C5r25 => ktr_rel); k_whole; (all_goals first | (intro I' pre' i' post' tn' m' h' tk' o' l1 hi' hC' ho' F' N'; (try k_lt l1); (try dsimp only at hC' F' N'); obtain ⟨hm', hc'⟩ := hC'; (try tb_start)) | (intro m' h' tk' hC' F' N'; (try dsimp only at hC' F' N'); obtain ⟨hm', hc'⟩ := hC'))))
  k_with "m:UnrEndW" => ((with_reducible show UnrEndW _ _ _ _ (TurnKeep _ _) _); k_dflt (refine' turn_end ?zF_C5r26 ?zN_C5r26 ?zs_C5r26 ?zo_C5r26 ?zc_C5r26; (case zF_C5r26 => k_asm); (case zN_C5r26 => k_asm); (case zs_C5r26 => repeat' (first | exact trivial | (refine ⟨by k_mem, ?_⟩))); (case zo_C5r26 => k_all); (case zc_C5r26 => ktr_rel)))
  k_with "m:eval Name" => (k_here; k_dflt (refine' ld ?zF_C5r27 ?zv_C5r27 ?_; (case zF_C5r27 => k_asm); (case zv_C5r27 => k_asm); k_whole))
  k_with "m:call ref" => (k_here; (with_reducible show wpAny _ _ (call (Value.ref 142) [Value.str _ _, Value.str _ _, Value.int _ _, Value.int _ _]) _ _ _); k_dflt (refine' reg_new ?zB_RR ?zF_RR ?zX_RR ?zN_RR ?zT_RR ?zA_RR ?zf_RR ?zk_RR ?zd_RR ?zu_RR ?_; (case zF_RR => k_asm); (case zB_RR => k_asm); (case zX_RR => k_asm); (case zN_RR => k_asm); (case zT_RR => k_asm); (case zA_RR => exact rfl); (case zf_RR => exact rfl); (case zk_RR => exact rfl); (case zd_RR => ktr_room); (case zu_RR => ktr_units); k_whole; intro x' d' u1 u2 u3 u4 u5 u6 u7 u8 h' tk' hx' F' N' l1 l2; (try dsimp only [AllNe] at l1 l2); (repeat (have := And.left l1; replace l1 := And.right l1)); (repeat (have := And.left l2; replace l2 := And.right l2))))
  k_with "m:call builtin:str.split" => (k_here; (with_reducible show wpAny _ _ (call (Value.builtin "str.split") [Value.str _ _]) _ _ _); k_dflt (refine' splitL ?zF_SP ?zN_SP ?zw_SP ?zs_SP ?_; (case zF_SP => k_asm); (case zN_SP => k_asm); (case zw_SP => with_reducible (first | exact wds8 | exact wds16 | exact wds32 | exact wds64 | exact wdsH | exact wdsL | exact wdsX | exact wdsS)); (case zs_SP => kspl_size); k_whole; intro D' vs' h' k' S' F' N' l1; (try dsimp only [AllNe] at l1); (repeat (have := And.left l1; replace l1 := And.right l1))))
  trivial

def earlyHas (x : Str) (n : Int) : Bool := (earlyL n).any (· == x)
def segs2 : List Str := [Str.ofString "fs", Str.ofString "gs"]
def segK (x : Str) : Int := if x = Str.ofString "fs" then 4 else 5
theorem seg_ok (w : World) (x : Str) (t : Tok) (h : segs2.any (· == x) = true) : Pure w 2 202 [.str x t] (fun v ns => ∃ nm, RegOut w.params nm (Str.ofString "segment") (segK x) 16 v ns) := by
  have hm := any_cases h
  simp only [segs2, List.mem_cons, List.not_mem_nil, or_false] at hm
  have key : ∀ {y : Str} {k : Int}, Pure w 2 202 [.str y t] (RegOut w.params y (Str.ofString "segment") k 16) → k = segK y → Pure w 2 202 [.str y t] (fun v ns => ∃ nm, RegOut w.params nm (Str.ofString "segment") (segK y) 16 v ns) := by
    intro y k H e
    subst e
    intro p loose mean mg mb dp un gd outer base g s R a1 a2 a3 a4 a5 a6 a7 a8 hr
    exact H p loose mean mg mb dp un gd outer base g s R a1 a2 a3 a4 a5 a6 a7 a8 fun v ns h' tk' b1 b2 b3 => hr v ns h' tk' b1 b2 ⟨_, b3⟩
  rcases hm with rfl | rfl
  · exact key (fs_ok w t) (by decide +kernel)
  · exact key (gs_ok w t) (by decide +kernel)
def regLook (x : Str) : Option (Str × Int × Int) := match [64, 32, 16, 8].find? (earlyHas x) with
  | some n => some (Str.ofString "gpr", (((earlyL n).idxOf x : Nat) : Int), n)
  | none => if highs.any (· == x) = true then some (Str.ofString "high", 4 + ((highs.idxOf x : Nat) : Int), 8)
    else if (Txt.slice x none (some 3) == Str.ofString "xmm" && xmms.any (· == Txt.slice x (some 3) none)) = true then some (Str.ofString "xmm", ((xmms.idxOf (Txt.slice x (some 3) none) : Nat) : Int), 128)
    else if (x == Str.ofString "rip") = true then some (Str.ofString "rip", 0, 64)
    else if segs2.any (· == x) = true then some (Str.ofString "segment", segK x, 16)
    else (lateLook x).map fun p => (Str.ofString "gpr", p.1, p.2)
def FindOut (P : Params) (x : Str) (v : Value) (ns : List (Addr × Obj)) : Prop := match regLook x with
  | none => v = .none ∧ ns = []
  | some (kd, k, n) => ∃ nm, RegOut P nm kd k n v ns
theorem findOut_none {P : Params} {x : Str} (h : regLook x = none) : FindOut P x .none [] := by
  unfold FindOut; rw [h]; exact ⟨rfl, rfl⟩
theorem findOut_some {P : Params} {x kd nm : Str} {k n : Int} {v : Value} {ns : List (Addr × Obj)} (h : regLook x = some (kd, k, n)) (hr : RegOut P nm kd k n v ns) : FindOut P x v ns := by
  unfold FindOut; rw [h]; exact ⟨nm, hr⟩
section
variable {x : Str} {i : Int} {pre post : List Int}
theorem rl_gpr (h : [64, 32, 16, 8] = pre ++ i :: post) (hp : ∀ k ∈ pre, earlyHas x k = false) (hi : (earlyL i).any (· == x) = true) : regLook x = some (Str.ofString "gpr", (((earlyL i).idxOf x : Nat) : Int), i) := by
  unfold regLook; rw [find_split (p := earlyHas x) h hp hi]
variable (hc : ∀ k ∈ ([64, 32, 16, 8] : List Int), earlyHas x k = false)
include hc
theorem rl_high (h1 : highs.any (· == x) = true) : regLook x = some (Str.ofString "high", 4 + ((highs.idxOf x : Nat) : Int), 8) := by
  unfold regLook; rw [find_none (p := earlyHas x) hc]; simp only [h1, if_true]
variable (h1 : highs.any (· == x) = false)
include h1
theorem rl_xmm (h2 : (Txt.slice x none (some 3) == Str.ofString "xmm" && xmms.any (· == Txt.slice x (some 3) none)) = true) : regLook x = some (Str.ofString "xmm", ((xmms.idxOf (Txt.slice x (some 3) none) : Nat) : Int), 128) := by
  unfold regLook; rw [find_none (p := earlyHas x) hc]; simp only [h1, h2, if_true, Bool.false_eq_true, if_false]
variable (h2 : (Txt.slice x none (some 3) == Str.ofString "xmm" && xmms.any (· == Txt.slice x (some 3) none)) = false)
include h2
theorem rl_rip (h3 : (x == Str.ofString "rip") = true) : regLook x = some (Str.ofString "rip", 0, 64) := by
  unfold regLook; rw [find_none (p := earlyHas x) hc]; simp only [h1, h2, h3, if_true, Bool.false_eq_true, if_false]
variable (h3 : (x == Str.ofString "rip") = false)
include h3
theorem rl_seg (h4 : segs2.any (· == x) = true) : regLook x = some (Str.ofString "segment", segK x, 16) := by
  unfold regLook; rw [find_none (p := earlyHas x) hc]; simp only [h1, h2, h3, h4, if_true, Bool.false_eq_true, if_false]
theorem rl_late (h4 : segs2.any (· == x) = false) : regLook x = (lateLook x).map fun p => (Str.ofString "gpr", p.1, p.2) := by
  unfold regLook; rw [find_none (p := earlyHas x) hc]; simp only [h1, h2, h3, h4, Bool.false_eq_true, if_false]
end
theorem findOut_late {P : Params} {x : Str} {v : Value} {ns : List (Addr × Obj)} (h : regLook x = (lateLook x).map fun p => (Str.ofString "gpr", p.1, p.2)) (hl : LateOut P x v ns) : FindOut P x v ns := by
  unfold FindOut; rw [h]
  unfold LateOut at hl
  cases q : lateLook x with
  | none => rw [q] at hl; exact hl
  | some p => rw [q] at hl; exact ⟨_, hl⟩

theorem rows_C5_2 : True := by
  k_with "m:call ref" => (k_here; (with_reducible show wpAny _ _ (call (Value.ref 202) [Value.str _ _]) _ _ _); k_dflt (refine' callPure (seg_ok _ _ _ ?zh_C5r28) ?zB_C5r28 ?zF_C5r28 ?zX_C5r28 ?zN_C5r28 ?zT_C5r28 ?zA_C5r28 ?zf_C5r28 ?zk_C5r28 ?zd_C5r28 ?zu_C5r28 ?_; (case zF_C5r28 => k_asm); (case zB_C5r28 => k_asm); (case zX_C5r28 => k_asm); (case zN_C5r28 => k_asm); (case zT_C5r28 => k_asm); (case zA_C5r28 => exact rfl); (case zf_C5r28 => exact rfl); (case zk_C5r28 => exact rfl); (case zd_C5r28 => ktr_room); (case zu_C5r28 => ktr_units); (case zh_C5r28 => k_asm); k_whole; intro v' ns' h' tk' P' F' N' l1; obtain ⟨nm', P'⟩ := P'))
  k_with "m:tb_start" => (have hE' := early_mem (by assumption))
  k_with "m:ktr_rel" => (dsimp only; first
  | (refine ⟨rfl, ?_⟩; intro kk hk; cases hk)
  | (refine ⟨by assumption, ?_⟩; intro kk hk; rcases List.mem_append.mp hk with hk | hk; exact (by assumption : ∀ k ∈ _, earlyHas _ k = false) kk hk; rw [List.mem_singleton.mp hk]; assumption))
  trivial

set_option maxRecDepth 100000 in
set_option maxHeartbeats 2000000 in
theorem find_ok (w : World) (x : Str) (t : Tok) (hx : x.length ≤ 1000) : Pure w 6 216 [.str x t] (FindOut w.params x) := by
  w_top off
  dsimp only [FnG, Pure]; k_fill; intros; rename_i hret
  have uI : UseInv [64, 32, 16, 8] [] (fun pre m => m (Str.ofString "name") = some (.str x t) ∧ ∀ k ∈ pre, earlyHas x k = false) := UseInv.mk _ _ _
  cell_enter
  k_steps
  all_goals (try dsimp only)
  all_goals first
    | (refine hret _ [_, _] _ _ (Fr.keep (by assumption)) (new2 (by assumption)) (findOut_some (rl_gpr (by assumption) (by assumption) (by assumption)) (regOut_of rfl (by first | assumption | lia))))
    | (refine hret _ [_, _] _ _ (Fr.keep (by assumption)) (new2 (by assumption)) (findOut_some (rl_high (by assumption) (by assumption)) (regOut_of rfl (by first | assumption | lia))))
    | (refine hret _ [_, _] _ _ (Fr.keep (by assumption)) (new2 (by assumption)) (findOut_some (rl_xmm (by assumption) (by assumption) (Bool.and_eq_true_iff.mpr ⟨by assumption, by assumption⟩)) (regOut_of rfl (by first | assumption | lia))))
    | (refine hret _ [_, _] _ _ (Fr.keep (by assumption)) (new2 (by assumption)) (findOut_some (rl_rip (by assumption) (by assumption) (by first | exact Bool.and_eq_false_iff.mpr (Or.inl (by assumption)) | exact Bool.and_eq_false_iff.mpr (Or.inr (by assumption))) (by assumption)) (regOut_of rfl (by first | assumption | lia))))
    | (refine hret _ _ _ _ (Fr.keep (by assumption)) (newA (by assumption)) (findOut_some (rl_seg (by assumption) (by assumption) (by first | exact Bool.and_eq_false_iff.mpr (Or.inl (by assumption)) | exact Bool.and_eq_false_iff.mpr (Or.inr (by assumption))) (by assumption) (by assumption)) (by assumption)))
    | (refine hret _ _ _ _ (Fr.keep (by assumption)) (newA (by assumption)) (findOut_late (rl_late (by assumption) (by assumption) (by first | exact Bool.and_eq_false_iff.mpr (Or.inl (by assumption)) | exact Bool.and_eq_false_iff.mpr (Or.inr (by assumption))) (by assumption) (by assumption)) (by assumption)))

end Mine
end
section
theorem Mine.none_Tab3 : True := by
  k_with_none
  w_top off
  trivial
set_option maxRecDepth 100000
open PySem PySem.W PySem.Calls PyProof.Rows PySem.SeqAt
namespace Mine
inductive SizesIs (ts : List (Addr × Obj)) : List (Int × List Str) → List (Int × Value) → Prop
  | nil : SizesIs ts [] []
  | cons {k : Int} {xs : List Str} {zs : List (Int × List Str)} {skv : List (Int × Value)} {D : Addr} {vs : List Value} {n : Nat} : (D, (⟨.type "list", none, .seq vs.toArray n, #[]⟩ : Obj)) ∈ ts → StrsAre vs xs → SizesIs ts zs skv → SizesIs ts ((k, xs) :: zs) ((k, .ref D) :: skv)
theorem SizesIs.more {ts ts' : List (Addr × Obj)} (hs : ∀ p ∈ ts, p ∈ ts') {zs : List (Int × List Str)} {skv : List (Int × Value)} (h : SizesIs ts zs skv) : SizesIs ts' zs skv := by
  induction h with
  | nil => exact .nil
  | cons hm ht _ ih => exact .cons (hs _ hm) ht ih
theorem SizesIs.keys {ts : List (Addr × Obj)} {zs : List (Int × List Str)} {skv : List (Int × Value)} (h : SizesIs ts zs skv) : skv.map (·.1) = zs.map (·.1) := by
  induction h with
  | nil => rfl
  | cons _ _ _ ih => simp [ih]
theorem SizesIs.length {ts : List (Addr × Obj)} {zs : List (Int × List Str)} {skv : List (Int × Value)} (h : SizesIs ts zs skv) : skv.length = zs.length := by
  have := congrArg List.length h.keys
  simpa using this
theorem SizesIs.add {ts : List (Addr × Obj)} {zs : List (Int × List Str)} {skv : List (Int × Value)} {k : Int} {xs : List Str} {D : Addr} {vs : List Value} {n : Nat} (h : SizesIs ts zs skv) (hm : (D, (⟨.type "list", none, .seq vs.toArray n, #[]⟩ : Obj)) ∈ ts) (ht : StrsAre vs xs) (hk : k ∉ zs.map (·.1)) :
    SizesIs ts (zs ++ [(k, xs)]) (stored skv k (.ref D)) := by
  have ha : skv.any (fun kv => kv.1 = k) = false := by
    rw [List.any_eq_false]
    intro kv hkv
    have : kv.1 ∈ zs.map (·.1) := h.keys ▸ List.mem_map.mpr ⟨kv, hkv, rfl⟩
    have hne : kv.1 ≠ k := fun e => hk (e ▸ this)
    simpa using hne
  unfold stored
  rw [ha]
  simp only [Bool.false_eq_true, if_false]
  clear ha hk
  induction h with
  | nil => exact .cons hm ht .nil
  | cons hm' ht' _ ih => exact .cons hm' ht' ih
theorem valueAt_add {K : Type} [DecidableEq K] {kvs : List (K × Value)} {k : K} {v : Value} : valueAt (stored kvs k v) k = some v := by
  unfold stored valueAt
  by_cases h : kvs.any (fun kv => kv.1 = k) = true
  · rw [if_pos h]
    induction kvs with
    | nil => simp at h
    | cons p r ih =>
      by_cases e : p.1 = k
      · simp [e]
      · have h' : r.any (fun kv => kv.1 = k) = true := by simpa [e] using h
        have := ih h'
        simpa [e] using this
  · rw [if_neg h]
    have h' : kvs.find? (fun kv => kv.1 = k) = none := by
      rw [List.find?_eq_none]
      intro kv hkv e
      exact h (List.any_eq_true.mpr ⟨kv, hkv, e⟩)
    rw [List.find?_append, h']
    simp
theorem tup_offK {prog : Program} {w : World} {h₀ h : Heap} {L K : Addr} {oK : Obj} {kl ts : List (Addr × Obj)} {kvs : List (Str × Value)} (N : News h₀ L h ((K, oK) :: (kl ++ ts))) (hd : oK.IsDictOf (strKind prog w) kvs) (ht : ∀ p ∈ ts, p.2.cls = .type "tuple") : ∀ p ∈ ts, p.1 ≠ K := fun p hp => by
  have hc : oK.cls = .type "dict" := by obtain ⟨_, _, h, _⟩ := hd; exact h.1
  exact off_cls N (q := (K, oK)) (.tail _ (List.mem_append_right _ hp)) (.head _) (by rw [ht p hp, hc]; decide)
theorem ne_app {K : Addr} {rest ts : List (Addr × Obj)} (h1 : ∀ p ∈ rest, p.1 ≠ K) (h2 : ∀ p ∈ ts, p.1 ≠ K) : ∀ p ∈ rest ++ ts, p.1 ≠ K := fun p hp => by
  rcases List.mem_append.mp hp with hp | hp
  · exact h1 p hp
  · exact h2 p hp
def rowsT : List Int := [8, 16, 32, 64]
def baseE : List Ent := [(Str.ofString "rip", Str.ofString "rip", 0, 64), (Str.ofString "fs", Str.ofString "segment", 4, 16), (Str.ofString "gs", Str.ofString "segment", 5, 16)]
def esAt (i : Nat) : List Ent := baseE ++ (rowsT.take i).flatMap fun z => entsOf (Str.ofString "gpr") z 0 (gprNames z)
def zsAt (i : Nat) : List (Int × List Str) := (rowsT.take i).map fun z => (z, gprNames z)
structure RowOk (i : Nat) (size : Int) (f : Str) : Prop where
  at' : rowsT[i]? = some size
  split : Txt.split f (Str.ofString " ") = earlyL size
  len : f.length ≤ 1000
theorem row_cases {i : Nat} {size : Int} (h : rowsT[i]? = some size) : (i = 0 ∧ size = 8) ∨ (i = 1 ∧ size = 16) ∨ (i = 2 ∧ size = 32) ∨ (i = 3 ∧ size = 64) := by
  match i with
  | 0 => exact .inl ⟨rfl, (Option.some.inj h).symm⟩
  | 1 => exact .inr (.inl ⟨rfl, (Option.some.inj h).symm⟩)
  | 2 => exact .inr (.inr (.inl ⟨rfl, (Option.some.inj h).symm⟩))
  | 3 => exact .inr (.inr (.inr ⟨rfl, (Option.some.inj h).symm⟩))
  | n + 4 => cases h
theorem row_next {i : Nat} {size : Int} (h : rowsT[i]? = some size) : esAt (i + 1) = esAt i ++ entsOf (Str.ofString "gpr") size 0 (gprNames size) ∧ zsAt (i + 1) = zsAt i ++ [(size, gprNames size)] := by
  have e : rowsT.take (i + 1) = rowsT.take i ++ [size] := by rw [List.take_add_one, h]; rfl
  refine ⟨?_, ?_⟩
  · simp only [esAt, e, List.flatMap_append, List.append_assoc]; simp
  · simp only [zsAt, e, List.map_append]; simp
theorem row_facts {i : Nat} {size : Int} (h : rowsT[i]? = some size) : (earlyL size).length = 8 ∧ (esAt i).length ≤ 100 ∧ ((esAt i).map (·.1) ++ gprNames size).Nodup ∧ size ∉ (zsAt i).map (·.1) ∧ (gprNames size).length ≤ 100 := by
  rcases row_cases h with ⟨rfl, rfl⟩ | ⟨rfl, rfl⟩ | ⟨rfl, rfl⟩ | ⟨rfl, rfl⟩
  · exact ⟨by decide +kernel, by decide +kernel, by decide +kernel, by decide +kernel, by decide +kernel⟩
  · exact ⟨by decide +kernel, by decide +kernel, by decide +kernel, by decide +kernel, by decide +kernel⟩
  · exact ⟨by decide +kernel, by decide +kernel, by decide +kernel, by decide +kernel, by decide +kernel⟩
  · exact ⟨by decide +kernel, by decide +kernel, by decide +kernel, by decide +kernel, by decide +kernel⟩
theorem known_cls {ts ts' : List (Addr × Obj)} (hs : ∀ p ∈ ts, p ∈ ts' ∨ p.2.cls ≠ .type "tuple") {es : List Ent} {kvs : List (Str × Value)} (h : KnownIs ts es kvs) : KnownIs ts' es kvs := by
  induction h with
  | nil => exact .nil
  | cons hm ht _ ih => exact .cons ((hs _ hm).resolve_right fun h => h ht.1) ht ih
section
variable {prog : Program} {w : World} {A : Around} {E : Value → Shared → Prop} {s : Shared} {h₀ : Heap} {env : Env} {body : List Stmt} {Q : Flow → Shared → Prop}
def OutJ (prog : Program) (w : World) (I K S c : Addr) (base : List (Addr × Obj)) (i : Nat) (m : Str → Option Value) (n : List (Addr × Obj)) : Prop :=
  ∃ oK oS oc rest kvs skv v, n = (S, oS) :: (K, oK) :: (c, oc) :: rest ∧ (∀ p ∈ base, p ∈ rest) ∧ (∀ p ∈ rest, p.1 ≠ I) ∧ (∀ p ∈ rest, p.1 ≠ S) ∧ (∀ p ∈ rest, p.1 ≠ K) ∧ (∀ p ∈ rest, p.1 ≠ c) ∧ oc.data = .cell v ∧ oK.IsDictOf (strKind prog w) kvs ∧ oS.IsDictOf (intKind prog w) skv ∧
    KnownIs rest (esAt i) kvs ∧ SizesIs rest (zsAt i) skv ∧ m (Str.ofString "known") = some (.ref K) ∧ m (Str.ofString "sizes") = some (.ref S)
theorem outer_tab {elts : List PySem.Expr} {k : Nat} {pos : Pos} {ax K S c : Addr} {lo oK₀ oS₀ oc₀ : Obj} {vs : List Value} {nn : Nat} {m₀ : Str → Option Value} {news base : List (Addr × Obj)} {kvs₀ : List (Str × Value)} {v₀ : Option Value}
    (hh : A.handled = none) (F : Fr h₀ env.locals s.heap m₀) (N : News h₀ env.locals s.heap news) (hm : (ax, lo) ∈ base) (hc : lo.cls = .type "tuple") (hd : lo.data = .seq vs.toArray nn)
    (hsub : ∀ p ∈ (S, oS₀) :: (K, oK₀) :: (c, oc₀) :: base, p ∈ news) (hbS : ∀ p ∈ base, p.1 ≠ S) (hbK : ∀ p ∈ base, p.1 ≠ K) (hbc : ∀ p ∈ base, p.1 ≠ c)
    (hrow : ∀ i v, vs[i]? = some v → ∃ size f t1 t2 t3 T o n, v = .ref T ∧ (T, o) ∈ base ∧ o.cls = .type "tuple" ∧ o.data = .seq #[.int size t1, .str f t2, .str (lateEnd size) t3] n ∧ RowOk i size f)
    (hlen : vs.length = 4) (hcell : oc₀.data = .cell v₀) (hdK : oK₀.IsDictOf (strKind prog w) kvs₀) (hdS : oS₀.IsDictOf (intKind prog w) []) (hk : KnownIs base baseE kvs₀) (hmK : m₀ (Str.ofString "known") = some (.ref K)) (hmS : m₀ (Str.ofString "sizes") = some (.ref S))
    (turn : ∀ (I T : Addr) (i : Nat) (size : Int) (f : Str) (t1 t2 t3 : Tok) (oK oS oc it : Obj) (rest : List (Addr × Obj)) (kvs : List (Str × Value)) (skv : List (Int × Value)) (v : Option Value) (m : Str → Option Value) (h : Heap) (tk : Nat),
      (@LT.lt Nat _ S I) → (@LT.lt Nat _ K I) → (@LT.lt Nat _ c I) → (∀ p ∈ base, p ∈ rest) → (∀ p ∈ rest, p.1 ≠ I) → (∀ p ∈ rest, p.1 ≠ S) → (∀ p ∈ rest, p.1 ≠ K) → (∀ p ∈ rest, p.1 ≠ c) →
      rowsT[i]? = some size → Txt.split f (Str.ofString " ") = earlyL size → f.length ≤ 1000 → IsTup h T #[.int size t1, .str f t2, .str (lateEnd size) t3] → it.cls = .type "tuple_iterator" → oc.data = .cell v → oK.IsDictOf (strKind prog w) kvs → oS.IsDictOf (intKind prog w) skv →
      KnownIs rest (esAt i) kvs → SizesIs rest (zsAt i) skv → m (Str.ofString "known") = some (.ref K) → m (Str.ofString "sizes") = some (.ref S) → Fr h₀ env.locals h m → News h₀ env.locals h ((I, it) :: (S, oS) :: (K, oK) :: (c, oc) :: rest) →
      wpAny (model prog w) A (assign (.Tuple elts k pos) env (.ref T)) (fun _ s₂ => wpAny (model prog w) A (execs body env) (UnrPostW h₀ env.locals { s with heap := h, toks := tk } [(I, it)] (OutJ prog w I K S c base (i + 1)) Q) E s₂) E { s with heap := h, toks := tk })
    (fin : ∀ (oK oS oc : Obj) (rest : List (Addr × Obj)) (kvs : List (Str × Value)) (skv : List (Int × Value)) (v : Option Value) (m : Str → Option Value) (h : Heap) (tk : Nat),
      (∀ p ∈ rest, p.1 ≠ S) → (∀ p ∈ rest, p.1 ≠ K) → (∀ p ∈ rest, p.1 ≠ c) → oc.data = .cell v → oK.IsDictOf (strKind prog w) kvs → oS.IsDictOf (intKind prog w) skv →
      KnownIs rest (esAt 4) kvs → SizesIs rest (zsAt 4) skv → m (Str.ofString "known") = some (.ref K) → m (Str.ofString "sizes") = some (.ref S) → Fr h₀ env.locals h m → News h₀ env.locals h ((S, oS) :: (K, oK) :: (c, oc) :: rest) → Q .next { s with heap := h, toks := tk }) :
    wpAny (model prog w) A (pyIter (.ref ax)) (fun it s₂ => TurnsAt prog w A h₀ env (.Tuple elts k pos) body Q E it s₂) E s := by
  have N' : News h₀ env.locals s.heap ((S, oS₀) :: (K, oK₀) :: (c, oc₀) :: base) := fun p hp => N p (hsub p hp)
  refine iter_tupTurns hh F N' (.tail _ (.tail _ (.tail _ hm))) hc hd fun I hI => ?_
  refine items_J (J := OutJ prog w I K S c base) (fun i m n hj => ?_) ?_ ?_ _ 0 m₀ _ rfl (Nat.zero_le _) ?_
  · obtain ⟨oK, oS, oc, rest, _, _, _, rfl, hb, _⟩ := hj
    exact ⟨.tail _ (.tail _ (.tail _ (hb _ hm))), trivial⟩
  · rintro i a v h tk m n hi hv ⟨oK, oS, oc, rest, kvs, skv, v1, rfl, hb, hI1, hS1, hK1, hc1, hcell', hdK', hdS', hk', hs', hmK', hmS'⟩ F1
    have hi' : ∃ u, vs[i]? = some u ∧ a = .val u := by
      rw [List.getElem?_map] at hi
      cases e : vs[i]? with
      | none => rw [e] at hi; cases hi
      | some u => rw [e] at hi; exact ⟨u, rfl, (Option.some.inj hi).symm⟩
    obtain ⟨u, hu, rfl⟩ := hi'
    obtain ⟨size, f, t1, t2, t3, T, o, nT, rfl, hT, hTc, hTd, hr⟩ := hrow i u hu
    have ev : v = .ref T := hv
    subst ev
    refine AllObj.cons fun it hit => AllObj.nil ?_
    intro N1
    have hTl := (N1 (T, o) (.tail _ (.tail _ (.tail _ (.tail _ (hb _ hT)))))).1
    exact turn I T i size f t1 t2 t3 oK oS oc it rest kvs skv v1 m h tk (hI _ (.head _)) (hI _ (.tail _ (.head _))) (hI _ (.tail _ (.tail _ (.head _)))) hb hI1 hS1 hK1 hc1 hr.at' hr.split hr.len ⟨o, hTl, hTc, nT, hTd⟩ hit hcell' hdK' hdS' hk' hs' hmK' hmS' F1 N1
  · rintro m n h tk ⟨oK, oS, oc, rest, kvs, skv, v1, rfl, hb, hI1, hS1, hK1, hc1, hcell', hdK', hdS', hk', hs', hmK', hmS'⟩ F1 N1
    rw [List.length_map, hlen] at hk' hs'
    exact fin oK oS oc rest kvs skv v1 m h tk hS1 hK1 hc1 hcell' hdK' hdS' hk' hs' hmK' hmS' F1 N1
  · exact ⟨oK₀, oS₀, oc₀, base, kvs₀, [], v₀, rfl, fun _ hp => hp, fun p hp => Nat.ne_of_lt (hI _ (.tail _ (.tail _ (.tail _ hp)))), hbS, hbK, hbc, hcell, hdK, hdS, hk, .nil, hmK, hmS⟩
theorem outer_end {I K S c : Addr} {L : Addr} {s₁ : Shared} {h' : Heap} {tk : Nat} {m' : Str → Option Value} {base rest ds ts all : List (Addr × Obj)} {oK oS oc it : Obj} {kvs : List (Str × Value)} {skv : List (Int × Value)} {size : Int} {i nn : Nat} {D : Addr} {ws : List Value} {v : Option Value}
    (F : Fr h₀ L h' m') (N : News h₀ L h' all) (hit : it.cls = .type "tuple_iterator") (hdK : oK.IsDictOf (strKind prog w) kvs) (hdS : oS.IsDictOf (intKind prog w) (stored skv size (.ref D)))
    (hsub : ∀ p ∈ (I, it) :: (S, oS) :: (K, oK) :: (c, oc) :: ds, p ∈ all) (hsub2 : ∀ p ∈ rest, p ∈ all) (hsub3 : ∀ p ∈ ts, p ∈ all)
    (hl1 : @LT.lt Nat _ S I) (hl2 : @LT.lt Nat _ K I) (hl3 : @LT.lt Nat _ c I) (hds : ∀ p ∈ ds, @Ne Nat p.1 I ∧ @Ne Nat p.1 S ∧ @Ne Nat p.1 K ∧ @Ne Nat p.1 c) (hb : ∀ p ∈ base, p ∈ rest) (hI : ∀ p ∈ rest, p.1 ≠ I) (hS : ∀ p ∈ rest, p.1 ≠ S) (hK : ∀ p ∈ rest, p.1 ≠ K) (hc : ∀ p ∈ rest, p.1 ≠ c) (htc : ∀ p ∈ ts, p.1 ≠ c)
    (ht : ∀ p ∈ ts, p.2.cls = .type "tuple") (hcell : oc.data = .cell v) (hr : rowsT[i]? = some size) (hD : (D, (⟨.type "list", none, .seq ws.toArray nn, #[]⟩ : Obj)) ∈ ds) (hws : StrsAre ws (gprNames size)) (hz : SizesIs rest (zsAt i) skv)
    (hk : KnownIs (rest ++ ts) (esAt i ++ entsOf (Str.ofString "gpr") size 0 (gprNames size)) kvs) (hmK : m' (Str.ofString "known") = some (.ref K)) (hmS : m' (Str.ofString "sizes") = some (.ref S)) :
    UnrEndW h₀ L s₁ [(I, it)] (OutJ prog w I K S c base (i + 1)) { s₁ with heap := h', toks := tk } := by
  have hIt := hsub (I, it) (.head _)
  have hSm := hsub (S, oS) (.tail _ (.head _))
  have hKm := hsub (K, oK) (.tail _ (.tail _ (.head _)))
  have hcm := hsub (c, oc) (.tail _ (.tail _ (.tail _ (.head _))))
  have hdm : ∀ p ∈ ds, p ∈ all := fun p hp => hsub p (.tail _ (.tail _ (.tail _ (.tail _ hp))))
  have hSc : oS.cls = .type "dict" := by obtain ⟨_, _, h, _⟩ := hdS; exact h.1
  have hKc : oK.cls = .type "dict" := by obtain ⟨_, _, h, _⟩ := hdK; exact h.1
  have cases' : ∀ {P : Addr × Obj → Prop}, (∀ p ∈ ds, P p) → (∀ p ∈ rest, P p) → (∀ p ∈ ts, P p) → ∀ p ∈ ds ++ (rest ++ ts), P p := fun a b c p hp => by
    rcases List.mem_append.mp hp with hp | hp
    · exact a p hp
    · rcases List.mem_append.mp hp with hp | hp
      · exact b p hp
      · exact c p hp
  have hall : ∀ p ∈ ds ++ (rest ++ ts), p ∈ all := cases' hdm hsub2 hsub3
  have hnI : ∀ p ∈ ds ++ (rest ++ ts), p.1 ≠ I := cases' (fun p hp => (hds p hp).1) hI (fun p hp => off_cls N (hsub3 p hp) hIt (by rw [ht p hp, hit]; decide))
  have hnS : ∀ p ∈ ds ++ (rest ++ ts), p.1 ≠ S := cases' (fun p hp => (hds p hp).2.1) hS (fun p hp => off_cls N (hsub3 p hp) hSm (by rw [ht p hp, hSc]; decide))
  have hnK : ∀ p ∈ ds ++ (rest ++ ts), p.1 ≠ K := cases' (fun p hp => (hds p hp).2.2.1) hK (fun p hp => off_cls N (hsub3 p hp) hKm (by rw [ht p hp, hKc]; decide))
  have hnc : ∀ p ∈ ds ++ (rest ++ ts), p.1 ≠ c := cases' (fun p hp => (hds p hp).2.2.2) hc htc
  obtain ⟨e1, e2⟩ := row_next hr
  obtain ⟨_, _, _, hfr, _⟩ := row_facts hr
  refine ⟨h', tk, m', (S, oS) :: (K, oK) :: (c, oc) :: (ds ++ (rest ++ ts)), rfl, F, fun p hp => N p ?_, fun p hp q hq => ?_, oK, oS, oc, _, kvs, _, v, rfl, fun p hp => List.mem_append_right _ (List.mem_append_left _ (hb p hp)), hnI, hnS, hnK, hnc, hcell, hdK, hdS, ?_, ?_, hmK, hmS⟩
  · rcases List.mem_append.mp hp with hp | hp
    · rw [List.mem_singleton.mp hp]; exact hIt
    · rcases List.mem_cons.mp hp with rfl | hp
      · exact hSm
      rcases List.mem_cons.mp hp with rfl | hp
      · exact hKm
      rcases List.mem_cons.mp hp with rfl | hp
      · exact hcm
      exact hall p hp
  · rw [List.mem_singleton.mp hq]
    rcases List.mem_cons.mp hp with rfl | hp
    · exact Nat.ne_of_lt hl1
    rcases List.mem_cons.mp hp with rfl | hp
    · exact Nat.ne_of_lt hl2
    rcases List.mem_cons.mp hp with rfl | hp
    · exact Nat.ne_of_lt hl3
    exact hnI p hp
  · rw [e1]; exact hk.more fun p hp => List.mem_append_right _ hp
  · rw [e2]; exact (hz.more fun p hp => List.mem_append_right _ (List.mem_append_left _ hp)).add (List.mem_append_left _ hD) hws hfr
theorem outer_end2 {I K S c : Addr} {L : Addr} {s₁ : Shared} {h' : Heap} {tk : Nat} {m' : Str → Option Value} {base rest ts : List (Addr × Obj)} {D1 D2 D3 : Addr × Obj} {oK oS oc it : Obj} {kvs : List (Str × Value)} {skv : List (Int × Value)} {size : Int} {i nn : Nat} {D : Addr} {ws : List Value} {v : Option Value}
    (F : Fr h₀ L h' m') (N : News h₀ L h' ((K, oK) :: D1 :: D2 :: D3 :: (I, it) :: (S, oS) :: (c, oc) :: (rest ++ ts))) (hit : it.cls = .type "tuple_iterator") (hdK : oK.IsDictOf (strKind prog w) kvs) (hdS : oS.IsDictOf (intKind prog w) (stored skv size (.ref D)))
    (hl1 : @LT.lt Nat _ S I) (hl2 : @LT.lt Nat _ K I) (hl3 : @LT.lt Nat _ c I) (h1 : @Ne Nat D1.1 I ∧ @Ne Nat D1.1 S ∧ @Ne Nat D1.1 K ∧ @Ne Nat D1.1 c) (h2 : @Ne Nat D2.1 I ∧ @Ne Nat D2.1 S ∧ @Ne Nat D2.1 K ∧ @Ne Nat D2.1 c) (h3 : @Ne Nat D3.1 I ∧ @Ne Nat D3.1 S ∧ @Ne Nat D3.1 K ∧ @Ne Nat D3.1 c) (hb : ∀ p ∈ base, p ∈ rest) (hI : ∀ p ∈ rest, p.1 ≠ I) (hS : ∀ p ∈ rest, p.1 ≠ S) (hK : ∀ p ∈ rest, p.1 ≠ K) (hc : ∀ p ∈ rest, p.1 ≠ c)
    (htc : ∀ p ∈ ts, ∀ q ∈ D1 :: D2 :: D3 :: (I, it) :: (S, oS) :: (c, oc) :: rest, p.1 ≠ q.1)
    (ht : ∀ p ∈ ts, p.2.cls = .type "tuple") (hcell : oc.data = .cell v) (hr : rowsT[i]? = some size) (hD : D1 = (D, (⟨.type "list", none, .seq ws.toArray nn, #[]⟩ : Obj))) (hws : StrsAre ws (gprNames size)) (hz : SizesIs rest (zsAt i) skv)
    (hk : KnownIs (rest ++ ts) (esAt i ++ entsOf (Str.ofString "gpr") size 0 (gprNames size)) kvs) (hmK : m' (Str.ofString "known") = some (.ref K)) (hmS : m' (Str.ofString "sizes") = some (.ref S)) :
    UnrEndW h₀ L s₁ [(I, it)] (OutJ prog w I K S c base (i + 1)) { s₁ with heap := h', toks := tk } := by
  refine outer_end (ds := [D1, D2, D3]) F N hit hdK hdS (fun p hp => ?_) (fun p hp => ?_) (fun p hp => ?_) hl1 hl2 hl3 (fun p hp => ?_) hb hI hS hK hc (fun p hp => htc p hp (c, oc) (by simp)) ht hcell hr (D := D) (nn := nn) (ws := ws) (by rw [hD]; exact .head _) hws hz hk hmK hmS
  · simp only [List.mem_cons, List.not_mem_nil, or_false] at hp ⊢
    rcases hp with rfl | rfl | rfl | rfl | rfl | rfl | rfl <;> simp
  · simp [hp]
  · simp [hp]
  · simp only [List.mem_cons, List.not_mem_nil, or_false] at hp
    rcases hp with rfl | rfl | rfl
    · exact h1
    · exact h2
    · exact h3
theorem outer_tab2 {elts : List PySem.Expr} {k : Nat} {pos : Pos} {ax K S c : Addr} {lo oK₀ oS₀ oc₀ : Obj} {vs : List Value} {nn : Nat} {m₀ : Str → Option Value} {news n1 n2 base : List (Addr × Obj)} {kvs₀ : List (Str × Value)} {v₀ : Option Value}
    (hh : A.handled = none) (F : Fr h₀ env.locals s.heap m₀) (N : News h₀ env.locals s.heap news) (hmK : m₀ (Str.ofString "known") = some (.ref K)) (hmS : m₀ (Str.ofString "sizes") = some (.ref S)) (hcl : env.cells.lookup (Str.ofString "tail") = some c) (hdK : oK₀.IsDictOf (strKind prog w) kvs₀) (hdS : oS₀.IsDictOf (intKind prog w) [])
    (hO1 : OutF S oS₀ news n1) (hO2 : OutF K oK₀ n1 n2) (hO3 : OutF c oc₀ n2 base) (hm : (ax, lo) ∈ base) (hc : lo.cls = .type "tuple") (hd : lo.data = .seq vs.toArray nn)
    (hrow : ∀ i v, vs[i]? = some v → ∃ size f t1 t2 t3 T o n, v = .ref T ∧ (T, o) ∈ base ∧ o.cls = .type "tuple" ∧ o.data = .seq #[.int size t1, .str f t2, .str (lateEnd size) t3] n ∧ RowOk i size f)
    (hlen : vs.length = 4) (hcell : oc₀.data = .cell v₀) (hk : KnownIs base baseE kvs₀)
    (turn : ∀ (I T : Addr) (i : Nat) (size : Int) (f : Str) (t1 t2 t3 : Tok) (oK oS oc it : Obj) (rest : List (Addr × Obj)) (kvs : List (Str × Value)) (skv : List (Int × Value)) (v : Option Value) (m : Str → Option Value) (h : Heap) (tk : Nat),
      (@LT.lt Nat _ S I) → (@LT.lt Nat _ K I) → (@LT.lt Nat _ c I) → (∀ p ∈ base, p ∈ rest) → (∀ p ∈ rest, p.1 ≠ I) → (∀ p ∈ rest, p.1 ≠ S) → (∀ p ∈ rest, p.1 ≠ K) → (∀ p ∈ rest, p.1 ≠ c) →
      rowsT[i]? = some size → Txt.split f (Str.ofString " ") = earlyL size → f.length ≤ 1000 → IsTup h T #[.int size t1, .str f t2, .str (lateEnd size) t3] → it.cls = .type "tuple_iterator" → oc.data = .cell v → oK.IsDictOf (strKind prog w) kvs → oS.IsDictOf (intKind prog w) skv →
      KnownIs rest (esAt i) kvs → SizesIs rest (zsAt i) skv → m (Str.ofString "known") = some (.ref K) → m (Str.ofString "sizes") = some (.ref S) → Fr h₀ env.locals h m → News h₀ env.locals h ((I, it) :: (S, oS) :: (K, oK) :: (c, oc) :: rest) →
      (earlyL size).length = 8 → (esAt i).length ≤ 100 → ((esAt i).map (·.1) ++ gprNames size).Nodup → (gprNames size).length ≤ 100 → (lateEnd size).length ≤ 1 → skv.length ≤ 100 → S ≠ K ∧ S ≠ c ∧ K ≠ c → (UseComp (fun i : Nat => Str.ofString "r" ++ Str.ofString (toString (8 + (i : Int))) ++ lateEnd size) 8) → (UseTab K (gprNames size) (Str.ofString "gpr") size 0 (esAt i) (fun m => m (Str.ofString "known") = some (.ref K) ∧ m (Str.ofString "sizes") = some (.ref S) ∧ m (Str.ofString "size") = some (.int size t1))) →
      wpAny (model prog w) A (assign (.Tuple elts k pos) env (.ref T)) (fun _ s₂ => wpAny (model prog w) A (execs body env) (UnrPostW h₀ env.locals { s with heap := h, toks := tk } [(I, it)] (OutJ prog w I K S c base (i + 1)) Q) E s₂) E { s with heap := h, toks := tk })
    (fin : ∀ (oK oS oc : Obj) (rest : List (Addr × Obj)) (kvs : List (Str × Value)) (skv : List (Int × Value)) (v : Option Value) (m : Str → Option Value) (h : Heap) (tk : Nat),
      (∀ p ∈ rest, p.1 ≠ S) → (∀ p ∈ rest, p.1 ≠ K) → (∀ p ∈ rest, p.1 ≠ c) → oc.data = .cell v → oK.IsDictOf (strKind prog w) kvs → oS.IsDictOf (intKind prog w) skv →
      KnownIs rest (esAt 4) kvs → SizesIs rest (zsAt 4) skv → m (Str.ofString "known") = some (.ref K) → m (Str.ofString "sizes") = some (.ref S) → skv.length ≤ 100 → S ≠ K ∧ S ≠ c ∧ K ≠ c → (UseTab K xmmNames (Str.ofString "xmm") 128 0 (esAt 4 ++ entsOf (Str.ofString "high") 8 4 highs) (fun m => m (Str.ofString "known") = some (.ref K) ∧ m (Str.ofString "sizes") = some (.ref S) ∧ True)) → (UseTab K highs (Str.ofString "high") 8 4 (esAt 4) (fun m => m (Str.ofString "known") = some (.ref K) ∧ m (Str.ofString "sizes") = some (.ref S) ∧ True)) → (UseComp (fun i : Nat => Str.ofString "xmm" ++ Str.ofString (toString (0 + (i : Int)))) 16) → ((esAt 4).map (·.1) ++ highs).Nodup → ((esAt 4 ++ entsOf (Str.ofString "high") 8 4 highs).map (·.1) ++ xmmNames).Nodup → (esAt 4).length ≤ 100 → (esAt 4 ++ entsOf (Str.ofString "high") 8 4 highs).length ≤ 100 → highs.length ≤ 100 → xmmNames.length ≤ 100 → Fr h₀ env.locals h m → News h₀ env.locals h ((S, oS) :: (K, oK) :: (c, oc) :: rest) → Q .next { s with heap := h, toks := tk }) :
    wpAny (model prog w) A (pyIter (.ref ax)) (fun it s₂ => TurnsAt prog w A h₀ env (.Tuple elts k pos) body Q E it s₂) E s := by
  have a1 := hO1.mem
  have a2 := hO2.mem
  have a3 := hO3.mem
  have hne : S ≠ K ∧ S ≠ c ∧ K ≠ c := ⟨Ne.symm (a1.2.2 _ a2.1), Ne.symm (a1.2.2 _ (a2.2.1 _ a3.1)), Ne.symm (a2.2.2 _ a3.1)⟩
  refine outer_tab (S := S) (K := K) (c := c) (base := base) hh F N hm hc hd (fun p hp => ?_) (fun p hp => a1.2.2 _ (a2.2.1 _ (a3.2.1 _ hp))) (fun p hp => a2.2.2 _ (a3.2.1 _ hp)) a3.2.2 hrow hlen hcell hdK hdS hk hmK hmS ?_ ?_
  · rcases List.mem_cons.mp hp with rfl | hp
    · exact a1.1
    rcases List.mem_cons.mp hp with rfl | hp
    · exact a1.2.1 _ a2.1
    rcases List.mem_cons.mp hp with rfl | hp
    · exact a1.2.1 _ (a2.2.1 _ a3.1)
    exact a1.2.1 _ (a2.2.1 _ (a3.2.1 _ hp))
  · intro I T i size f t1 t2 t3 oK oS oc it rest kvs skv v m h tk b1 b2 b3 b4 b5 b6 b7 b8 b9 b10 b11 b12 b13 b14 b15 b16 b17 b18 b19 b20 b21 b22
    obtain ⟨c1, c2, c3, _, c5⟩ := row_facts b9
    refine turn I T i size f t1 t2 t3 oK oS oc it rest kvs skv v m h tk b1 b2 b3 b4 b5 b6 b7 b8 b9 b10 b11 b12 b13 b14 b15 b16 b17 b18 b19 b20 b21 b22 c1 c2 c3 c5 (lateEnd_len size) ?_ hne (UseComp.mk _ _) (UseTab.mk _ _ _ _ _ _ _)
    rw [b18.length]
    rcases row_cases b9 with ⟨rfl, rfl⟩ | ⟨rfl, rfl⟩ | ⟨rfl, rfl⟩ | ⟨rfl, rfl⟩ <;> decide
  · intro oK oS oc rest kvs skv v m h tk b1 b2 b3 b4 b5 b6 b7 b8 b9 b10 b11 b12
    refine fin oK oS oc rest kvs skv v m h tk b1 b2 b3 b4 b5 b6 b7 b8 b9 b10 ?_ hne (UseTab.mk _ _ _ _ _ _ _) (UseTab.mk _ _ _ _ _ _ _) (UseComp.mk _ _) (by decide +kernel) (by decide +kernel) (by decide +kernel) (by decide +kernel) (by decide +kernel) (by decide +kernel) b11 b12
    rw [b8.length]; decide
end
end Mine
end
section
theorem Mine.none_Tab4 : True := by
  k_with_none
  w_top off
  trivial
set_option maxRecDepth 100000
open PySem PySem.W PySem.Calls PyProof.Rows PySem.SeqAt
namespace Mine
def allEs : List Ent := esAt 4 ++ entsOf (Str.ofString "high") 8 4 highs ++ entsOf (Str.ofString "xmm") 128 0 xmmNames
def allZs : List (Int × List Str) := zsAt 4 ++ [(128, xmmNames)]
/-- what _law_table answers -/
def TableOut (prog : Program) (w : World) (v : Value) (ns : List (Addr × Obj)) : Prop :=
  ∃ D S K ep oS oK kvs skv rest, v = .ref D ∧ ns = (D, ({ cls := .type "tuple", data := .seq #[.ref S, .ref K] ep } : Obj)) :: (S, oS) :: (K, oK) :: rest ∧ oK.IsDictOf (strKind prog w) kvs ∧ oS.IsDictOf (intKind prog w) skv ∧
    KnownIs rest allEs kvs ∧ SizesIs rest allZs skv ∧ (@Ne Nat S K ∧ @Ne Nat S D ∧ @Ne Nat K D) ∧ (∀ p ∈ rest, @Ne Nat p.1 S ∧ @Ne Nat p.1 K ∧ @Ne Nat p.1 D) ∧ (S == sysModules) = false ∧ (K == sysModules) = false
theorem allLt_mem {d : Addr} {l : List (Addr × Obj)} (h : AllLt d l) : ∀ p ∈ l, @LT.lt Nat _ p.1 d := by
  induction l with
  | nil => exact List.forall_mem_nil _
  | cons q r ih =>
    intro p hp
    rcases List.mem_cons.mp hp with rfl | hp
    · exact h.1
    · exact ih h.2 p hp
theorem table_out {prog : Program} {w : World} {g h' : Heap} {L D K l D1 S c : Addr} {ol oS oK oc : Obj} {ys : List Value} {ep : Nat} {rest ts1 ts2 : List (Addr × Obj)} {kvs : List (Str × Value)} {skv : List (Int × Value)}
    (N : News g L h' ((D, ({ cls := .type "tuple", data := .seq #[.ref S, .ref K] ep } : Obj)) :: (K, oK) :: (l, ol) :: (D1, LCg.lst ys) :: (S, oS) :: (c, oc) :: (rest ++ ts1 ++ ts2)))
    (hdK : oK.IsDictOf (strKind prog w) kvs) (hdS : oS.IsDictOf (intKind prog w) (stored skv 128 (.ref D1))) (hk : KnownIs (rest ++ ts1 ++ ts2) allEs kvs) (hz : SizesIs rest (zsAt 4) skv) (hys : StrsAre ys xmmNames)
    (hrS : ∀ p ∈ rest, p.1 ≠ S) (hrK : ∀ p ∈ rest, p.1 ≠ K) (ho1 : ∀ p ∈ ts1, ∀ q ∈ (l, ol) :: (D1, LCg.lst ys) :: (S, oS) :: (c, oc) :: rest, p.1 ≠ q.1) (ho2 : ∀ p ∈ ts2, ∀ q ∈ (l, ol) :: (D1, LCg.lst ys) :: (S, oS) :: (c, oc) :: (rest ++ ts1), p.1 ≠ q.1)
    (hK1 : ∀ p ∈ ts1, p.1 ≠ K) (hK2 : ∀ p ∈ ts2, p.1 ≠ K) (hne : S ≠ K ∧ S ≠ c ∧ K ≠ c) (h1 : @Ne Nat S D1 ∧ @Ne Nat K D1 ∧ @Ne Nat c D1 ∧ LCg.Off1 D1 rest) (hl : @LT.lt Nat _ K D ∧ @LT.lt Nat _ l D ∧ @LT.lt Nat _ D1 D ∧ @LT.lt Nat _ S D ∧ @LT.lt Nat _ c D ∧ AllLt D (rest ++ ts1 ++ ts2)) (hs1 : (S == sysModules) = false) (hk1 : (K == sysModules) = false) :
    ∃ ns, New g h' ns ∧ TableOut prog w (.ref D) ns := by
  obtain ⟨l1, l2, l3, l4, l5, l6⟩ := hl
  refine ⟨(D, ({ cls := .type "tuple", data := .seq #[.ref S, .ref K] ep } : Obj)) :: (S, oS) :: (K, oK) :: (D1, LCg.lst ys) :: (rest ++ ts1 ++ ts2), new_of N fun p hp => ?_, D, S, K, ep, oS, oK, kvs, _, (D1, LCg.lst ys) :: (rest ++ ts1 ++ ts2), rfl, rfl, hdK, hdS, ?_, ?_, ⟨hne.1, Nat.ne_of_lt l4, Nat.ne_of_lt l1⟩, fun p hp => ?_, hs1, hk1⟩
  · simp only [List.mem_cons] at hp ⊢
    rcases hp with rfl | rfl | rfl | rfl | hp
    · exact .inl rfl
    · exact .inr (.inr (.inr (.inr (.inl rfl))))
    · exact .inr (.inl rfl)
    · exact .inr (.inr (.inr (.inl rfl)))
    · exact .inr (.inr (.inr (.inr (.inr (.inr hp)))))
  · exact hk.more fun p hp => .tail _ hp
  · exact (hz.more fun p hp => .tail _ (List.mem_append_left _ (List.mem_append_left _ hp))).add (.head _) hys (by decide +kernel)
  · rcases List.mem_cons.mp hp with rfl | hp
    · exact ⟨Ne.symm h1.1, Ne.symm h1.2.1, Nat.ne_of_lt l3⟩
    · refine ⟨?_, ?_, Nat.ne_of_lt (allLt_mem l6 p hp)⟩
      · rcases List.mem_append.mp hp with hp | hp
        · rcases List.mem_append.mp hp with hp | hp
          · exact hrS p hp
          · exact ho1 p hp (S, oS) (.tail _ (.tail _ (.head _)))
        · exact ho2 p hp (S, oS) (.tail _ (.tail _ (.head _)))
      · rcases List.mem_append.mp hp with hp | hp
        · rcases List.mem_append.mp hp with hp | hp
          · exact hrK p hp
          · exact hK1 p hp
        · exact hK2 p hp
end Mine
end
section
theorem Mine.none_Plain2 : True := by
  k_with_none
  w_top off
  trivial
set_option maxRecDepth 100000
open PySem PySem.W PySem.Calls PyProof.Rows PySem.SeqAt
namespace Mine
theorem pick_list (l : List Nat) (a : Nat) : ∀ k, ((List.range k).map (a + ·)).filterMap (fun i => l[i]?) = (l.drop a).take k
  | 0 => by simp
  | k + 1 => by
    rw [List.range_succ, List.map_append, List.filterMap_append, pick_list l a k, List.take_add_one]
    congr 1
    simp only [List.map_cons, List.map_nil, List.filterMap_cons, List.filterMap_nil, List.getElem?_drop]
    cases l[a + k]? <;> rfl
theorem slice_list {x : Str} {lo hi : Option Int} {a b : Nat} (e : Builtin.Str.strSliceIndices lo hi 1 x.length = sliceRange (a : Int) (b : Int) 1) (ha : a ≤ x.length) (hb : b ≤ x.length) : (Txt.slice x lo hi).cps.toList = (x.cps.toList.drop a).take (b - a) := by
  have hl : x.cps.toList.length = x.length := by simp [Str.length]
  unfold Txt.slice
  rw [e, sliceRange_one]
  split
  · rename_i h
    have h2 : b - a = x.length := by simpa using h
    have ha0 : a = 0 ∨ x.length = 0 := by lia
    rcases ha0 with rfl | h0
    · rw [h2, ← hl, List.drop_zero, List.take_length]
    · have : x.cps.toList = [] := List.length_eq_zero_iff.mp (hl.trans h0)
      rw [this]; simp
  · have := pick_list x.cps.toList a (b - a)
    simpa using this
theorem slice_pre (x : Str) (k : Nat) : (Txt.slice x none (some (k : Int))).cps.toList = x.cps.toList.take k := by
  have hl : x.cps.toList.length = x.length := by simp [Str.length]
  rw [slice_list (a := 0) (b := min k x.length) ?_ (Nat.zero_le _) (Nat.min_le_right _ _), List.drop_zero, Nat.sub_zero]
  · rw [← hl]
    rcases Nat.le_total k x.cps.toList.length with h | h
    · rw [Nat.min_eq_left h]
    · rw [Nat.min_eq_right h, List.take_length, List.take_of_length_le h]
  · unfold Builtin.Str.strSliceIndices
    simp only [show (1 : Int) > 0 by decide, if_true]
    congr 1
    rw [if_neg (by lia)]
    lia
theorem slice_post (x : Str) (k : Nat) : (Txt.slice x (some (k : Int)) none).cps.toList = x.cps.toList.drop k := by
  have hl : x.cps.toList.length = x.length := by simp [Str.length]
  rw [slice_list (a := min k x.length) (b := x.length) ?_ (Nat.min_le_right _ _) (Nat.le_refl _)]
  · rw [List.take_of_length_le (by rw [List.length_drop, hl]; exact Nat.le_refl _)]
    rcases Nat.le_total k x.length with h | h
    · rw [Nat.min_eq_left h]
    · rw [Nat.min_eq_right h, List.drop_of_length_le (by lia), List.drop_of_length_le (by lia)]
  · unfold Builtin.Str.strSliceIndices
    simp only [show (1 : Int) > 0 by decide, if_true]
    congr 1
    rw [if_neg (by lia)]
    lia
theorem slice_join (x : Str) (k : Nat) : Txt.slice x none (some (k : Int)) ++ Txt.slice x (some (k : Int)) none = x := by
  have e : (Txt.slice x none (some (k : Int)) ++ Txt.slice x (some (k : Int)) none).cps.toList = x.cps.toList := by
    rw [Str.cps_append, Array.toList_append, slice_pre, slice_post, List.take_append_drop]
  cases x with
  | mk c => exact congrArg Str.mk (Array.toList_inj.mp e)
/-- the table's answer -/
def tabLook (x : Str) : Option (Str × Int × Int) := (allEs.find? fun e => e.1 == x).map (·.2)
theorem look_mem {x : Str} (h : x ∈ allEs.map (·.1)) : regLook x = tabLook x := by
  have : ∀ y ∈ allEs.map (·.1), regLook y = tabLook y := by decide +kernel
  exact this x h
theorem look_names {x : Str} {r : Str × Int × Int} (h : regLook x = some r) : x ∈ allEs.map (·.1) := by
  unfold regLook at h
  split at h
  · rename_i n hn
    have h1 := List.find?_some hn
    have h2 := List.mem_of_find?_eq_some hn
    have hm := any_cases h1
    have key : ∀ n ∈ ([64, 32, 16, 8] : List Int), ∀ y ∈ earlyL n, y ∈ allEs.map (·.1) := by decide +kernel
    exact key n h2 x hm
  · split at h
    · rename_i h1
      have hm := any_cases h1
      have key : ∀ y ∈ highs, y ∈ allEs.map (·.1) := by decide +kernel
      exact key x hm
    · split at h
      · rename_i h1
        obtain ⟨a, b⟩ := Bool.and_eq_true_iff.mp h1
        have hb := any_cases b
        have key : ∀ y ∈ xmms, Str.ofString "xmm" ++ y ∈ allEs.map (·.1) := by decide +kernel
        have e := slice_join x 3
        rw [← e, show Txt.slice x none (some ((3 : Nat) : Int)) = Str.ofString "xmm" from beq_iff_eq.mp a]
        exact key _ hb
      · split at h
        · rename_i h1
          rw [beq_iff_eq.mp h1]
          decide +kernel
        · split at h
          · rename_i h1
            have hm := any_cases h1
            have key : ∀ y ∈ segs2, y ∈ allEs.map (·.1) := by decide +kernel
            exact key x hm
          · cases hl : lateLook x with
            | none => rw [hl] at h; cases h
            | some p =>
              unfold lateLook at hl
              split at hl
              · cases hl
              · rename_i hr
                cases hf : ([64, 32, 16, 8] : List Int).find? (lateHit x) with
                | none => rw [hf] at hl; cases hl
                | some n =>
                  have h1 := List.find?_some hf
                  have h2 := List.mem_of_find?_eq_some hf
                  unfold lateHit at h1
                  obtain ⟨a, b⟩ := Bool.and_eq_true_iff.mp h1
                  have hb := any_cases b
                  have hr' : Txt.slice x none (some 1) = Str.ofString "r" := by
                    have : (Txt.slice x none (some 1) != Str.ofString "r") = false := by simpa using hr
                    simpa using this
                  have key : ∀ n ∈ ([64, 32, 16, 8] : List Int), ∀ y ∈ lates, Str.ofString "r" ++ (y ++ lateEnd n) ∈ allEs.map (·.1) := by decide +kernel
                  have e := slice_join x 1
                  rw [← e, show Txt.slice x none (some ((1 : Nat) : Int)) = Str.ofString "r" from hr', show Txt.slice x (some ((1 : Nat) : Int)) none = lateFig n x ++ lateEnd n from beq_iff_eq.mp a]
                  exact key n h2 _ hb
/-- find_register answers what the table says -/
theorem look_eq (x : Str) : regLook x = tabLook x := by
  by_cases h : x ∈ allEs.map (·.1)
  · exact look_mem h
  · have h1 : regLook x = none := by
      cases e : regLook x with
      | none => rfl
      | some r => exact absurd (look_names e) h
    have h2 : tabLook x = none := by
      unfold tabLook
      have : allEs.find? (fun e => e.1 == x) = none := by
        rw [List.find?_eq_none]
        intro e he hx
        exact h (List.mem_map.mpr ⟨e, he, beq_iff_eq.mp hx⟩)
      rw [this]; rfl
    rw [h1, h2]
/-- what the table's dict gives -/
theorem known_at {ts : List (Addr × Obj)} {es : List Ent} {kvs : List (Str × Value)} (h : KnownIs ts es kvs) (x : Str) :
    match (es.find? fun e => e.1 == x).map (·.2) with
    | none => valueAt kvs x = none
    | some e => ∃ T o, valueAt kvs x = some (.ref T) ∧ (T, o) ∈ ts ∧ TupIs o e := by
  induction h with
  | nil => rfl
  | @cons y e es kvs T o hm ht _ ih =>
    by_cases hx : y = x
    · subst hx
      have e1 : (((y, e) :: es).find? fun e => e.1 == y) = some (y, e) := by simp
      rw [e1]
      exact ⟨T, o, by simp [valueAt], hm, ht⟩
    · have e1 : (((y, e) :: es).find? fun e => e.1 == x) = es.find? fun e => e.1 == x := by
        rw [List.find?_cons_of_neg]
        simpa using hx
      have e2 : valueAt ((y, .ref T) :: kvs) x = valueAt kvs x := by
        unfold valueAt
        rw [List.find?_cons_of_neg]
        simpa using hx
      rw [e1, e2]
      exact ih
end Mine
end
section
open PySem PySem.W PySem.Calls PyProof.Rows
namespace Mine
theorem rows_C7_1 : True := by
  k_with_none
  k_with "m:on" => skip
  k_with "m:klt" => (intro l0; replace l0 := allLt_of l0; dsimp only [AllLt] at l0; (repeat (have := And.left l0; replace l0 := And.right l0)); revert l0)
  k_with "m:ktr_room" => k_dflt (first | exact rm1 (by with_reducible assumption) rfl | exact rm2 (by with_reducible assumption) rfl | exact rm3 (by with_reducible assumption) rfl)
  k_with "m:ktr_units" => k_dflt (first | exact un0 (by with_reducible assumption) rfl | exact un1 (by with_reducible assumption) rfl | exact un2 (by with_reducible assumption) rfl | exact un3 (by with_reducible assumption) rfl)
  k_with "m:k_ne" => (refine neN ?_; (try dsimp only); first | with_reducible assumption | exact Ne.symm (by with_reducible assumption) | exact Nat.ne_of_lt (by with_reducible assumption) | exact Nat.ne_of_gt (by with_reducible assumption) | lia)
  k_with "m:cell_enter" => (refine' enterGC ?zk1_C7r1 ?zk2_C7r1 ?zk3_C7r1 ?zk4_C7r1 ?zk5_C7r1 ?zk6_C7r1 ?zk7_C7r1 ?zk8_C7r1 ?zk9_C7r1 ?zkB_C7r1 ?zkD_C7r1 ?_ ?zc2_C7r1 ?zc3_C7r1 ?zc4_C7r1; (case zk1_C7r1 => k_asm); (case zk2_C7r1 => k_asm); (case zk3_C7r1 => k_asm); (case zk4_C7r1 => k_asm); (case zk5_C7r1 => k_asm); (case zk6_C7r1 => k_is); (case zk7_C7r1 => k_is); (case zk8_C7r1 => lia); (case zk9_C7r1 => first | exact BindsTo.of_eq rfl | exact binds_K (by k_in) rfl (by k_is) rfl rfl rfl); (case zkB_C7r1 => exact rfl); (case zkD_C7r1 => decide +kernel); (case zc2_C7r1 => exact rfl); (case zc3_C7r1 => exact rfl); (case zc4_C7r1 => exact rfl); k_whole; intro L' h' tk' cells' F' N' Y' l1; (try k_lt l1); k_cells Y'; (try simp only [List.cons_append, List.nil_append, List.append_nil] at N'); (try dsimp only); (try k_fold))
  k_with "m:cell_enter" => (refine' enterG ?zk1_C7r2 ?zk2_C7r2 ?zk3_C7r2 ?zk4_C7r2 ?zk5_C7r2 ?zk6_C7r2 ?zk7_C7r2 ?zk8_C7r2 ?zk9_C7r2 ?zkB_C7r2 ?_ ?zc2_C7r2 ?zc3_C7r2 ?zc4_C7r2 ?zc5_C7r2; (case zk1_C7r2 => k_asm); (case zk2_C7r2 => k_asm); (case zk3_C7r2 => k_asm); (case zk4_C7r2 => k_asm); (case zk5_C7r2 => k_asm); (case zk6_C7r2 => k_is); (case zk7_C7r2 => k_is); (case zk8_C7r2 => lia); (case zk9_C7r2 => first | exact BindsTo.of_eq rfl | exact binds_K (by k_in) rfl (by k_is) rfl rfl rfl); (case zc5_C7r2 => decide); (case zkB_C7r2 => exact locs rfl); (case zc2_C7r2 => exact rfl); (case zc3_C7r2 => exact rfl); (case zc4_C7r2 => exact rfl); k_whole; intro L' h' F' N' l1; (try k_lt l1); (try dsimp only); (try k_fold))
  k_with "m:exec Raise some none" => (k_here; (with_reducible show wpAny _ _ (exec (Stmt.Raise (some (Expr.Call (Expr.Name _ _) _ _ _)) none _) _) _ _ _); k_dflt (refine Raise_mint (by exact rfl) ?_))
  k_with "m:call ref" => (k_here; (with_reducible show wpAny _ _ (call (Value.ref _) [Value.str _ _]) (RaisedO _) _ _); k_dflt (refine' mint_callN PySem.F.excBase_Exception ?zX_C7r4 ?zF_C7r4 ?zN_C7r4 ?zC_C7r4 ?zi_C7r4 ?zf_C7r4 ?zc_C7r4 ?_; (case zX_C7r4 => k_asm); (case zF_C7r4 => k_asm); (case zN_C7r4 => k_asm); (case zC_C7r4 => k_is); (case zi_C7r4 => k_is); (case zf_C7r4 => k_is); (case zc_C7r4 => rfl); k_whole); intro e' t' h' F' N' l1 l2; (try k_lt l1); (try k_lt2 l2); k_dflt (refine wpAny_call ?_; k_enter))
  k_with "m:getMethod type:Exception" => (k_here; refine' method_type ?zF_C7r5 ?zX_C7r5 ?zm_C7r5 (by decide +kernel) ?ze_C7r5 ?zh_C7r5 ?_; (case zF_C7r5 => k_asm); (case zX_C7r5 => k_asm); (case zm_C7r5 => exact meta_Exception); (case ze_C7r5 => k_dflt k_is); (case zh_C7r5 => k_handed))
  k_with "m:call builtin:Exception.__init__" => (k_here; k_dflt (refine' exc_initN' PySem.F.excBase_Exception ?zC_C7r6 ?zF_C7r6 ?zN_C7r6 ?zh2_C7r6 ?_; (case zF_C7r6 => k_asm); (case zN_C7r6 => k_asm); (case zC_C7r6 => exact Frag.In.keeps (by k_asm) (Fr.keep (by k_asm)) _ _ (by k_is)); (case zh2_C7r6 => k_all); k_whole); intro D' h' F' N' l1; (try simp only [List.nil_append] at F' N' l1); (try k_lt l1))
  k_with "m:setAttr ref" => (k_here; k_dflt (refine' exc_set2 ?zF_C7r7 ?zX_C7r7 ?zN_C7r7 ?ze_C7r7 ?zU_C7r7 ?zs_C7r7 ?zc_C7r7 ?zm_C7r7 ?zd_C7r7 ?zt_C7r7 ?zn_C7r7 ?zq_C7r7 ?zz_C7r7 ?_; (case zF_C7r7 => k_asm); (case zX_C7r7 => k_asm); (case zN_C7r7 => k_asm); (case ze_C7r7 => k_mem); (case zU_C7r7 => k_upd); (case zs_C7r7 => k_is); (case zc_C7r7 => k_is); (case zm_C7r7 => rfl); (case zd_C7r7 => rfl); (case zt_C7r7 => k_is); (case zn_C7r7 => rfl); (case zq_C7r7 => rfl); (case zz_C7r7 => exact Nat.le_of_ble_eq_true rfl); k_whole); intro h' tk' F' N')
  k_with "m:setAttr ref" => (k_here; k_dflt (refine' exc_set1' ?zF_C7r8 ?zX_C7r8 ?zN_C7r8 ?zh1_C7r8 ?zh2_C7r8 ?zs_C7r8 ?zc_C7r8 ?zm_C7r8 ?zd_C7r8 ?zt_C7r8 ?_; (case zF_C7r8 => k_asm); (case zX_C7r8 => k_asm); (case zN_C7r8 => k_asm); (case zh1_C7r8 => k_ne); (case zh2_C7r8 => k_all); (case zs_C7r8 => k_is); (case zc_C7r8 => k_is); (case zm_C7r8 => rfl); (case zd_C7r8 => rfl); (case zt_C7r8 => k_is); k_whole); intro D' h' tk' F' N' l1; (try simp only [List.cons_append, List.nil_append] at F' N' l1); (try k_lt l1))
  k_with "m:RaisedO" => (k_dflt (refine' raisedO_of ?zX_C7r9 ?zF_C7r9 ?zN_C7r9 ?ze_C7r9 ?zC_C7r9 ?zb_C7r9 ?_; (case zX_C7r9 => k_asm); (case zF_C7r9 => k_asm); (case zN_C7r9 => k_asm); (case ze_C7r9 => k_mem); (case zC_C7r9 => k_is); (case zb_C7r9 => rfl); k_whole))
  k_with "m:leaving ref" => (k_here; k_dflt (refine' leave_mint4 ?zK_C7r10 ?zF_C7r10 ?zN_C7r10 ?zh1_C7r10 ?zh2_C7r10 ?_; (case zK_C7r10 => k_asm); (case zF_C7r10 => k_asm); (case zN_C7r10 => k_asm); (case zh1_C7r10 => k_all); (case zh2_C7r10 => k_all); k_whole); intro h' R' RK' U'; (try dsimp only at R' RK' U' ⊢))
  k_with "m:compareOp Eq ref ref" => (k_here; k_dflt (refine' eq_strsK ?zN_C7r11 ?zl_C7r11 ?zS_C7r11 ?zl2_C7r11 ?zS2_C7r11 ?zu_C7r11 ?zo_C7r11 ?zo2_C7r11 ?_; (case zN_C7r11 => k_asm); (case zl_C7r11 => k_mem); (case zS_C7r11 => k_asm); (case zl2_C7r11 => k_mem); (case zS2_C7r11 => exact StrsAre.nil); (case zu_C7r11 => ktr_units); (case zo_C7r11 => exact early_ok1 _); (case zo2_C7r11 => rfl); k_whole))
  k_with "m:subscriptTail Name Name ref int" => (k_here; k_dflt (refine' item_strsK ?zN_C7r12 ?zl_C7r12 ?zS_C7r12 ?z0_C7r12 ?zk_C7r12 ?zf_C7r12 ?_ ?zs_C7r12 ?zg_C7r12; (case zN_C7r12 => k_asm); (case zl_C7r12 => k_mem); (case zS_C7r12 => k_asm); (case z0_C7r12 => lia); (case zk_C7r12 => first | exact early_lt (by assumption) (by lia) | (show _ < ((_ : Nat) : Int); lia)); (case zf_C7r12 => lia); (case zs_C7r12 => with_unfolding_all rfl); (case zg_C7r12 => (intro _; with_unfolding_all rfl)); k_whole; intro t'))
  k_with "m:call ref" => (k_here; (with_reducible show wpAny _ _ (call (Value.ref 153) [Value.int _ _]) _ _ _); k_dflt (refine' callList (early_ok _ _ _) ?zB_C7r13 ?zF_C7r13 ?zX_C7r13 ?zN_C7r13 ?zT_C7r13 ?zA_C7r13 ?zf_C7r13 ?zk_C7r13 ?zd_C7r13 ?zu_C7r13 ?_; (case zF_C7r13 => k_asm); (case zB_C7r13 => k_asm); (case zX_C7r13 => k_asm); (case zN_C7r13 => k_asm); (case zT_C7r13 => k_asm); (case zA_C7r13 => exact rfl); (case zf_C7r13 => exact rfl); (case zk_C7r13 => exact rfl); (case zd_C7r13 => ktr_room); (case zu_C7r13 => ktr_units); k_whole; intro D' vs' n' h' tk' S' F' N' l1; (try dsimp only [AllNe] at l1); (repeat (have := And.left l1; replace l1 := And.right l1))))
  k_with "m:call ref" => (k_here; (with_reducible show wpAny _ _ (call (Value.ref 160) [Value.int _ _]) _ _ _); k_dflt (refine' callEnd (ending_ok _ _ _) ?zB_C7r14 ?zF_C7r14 ?zX_C7r14 ?zN_C7r14 ?zT_C7r14 ?zA_C7r14 ?zf_C7r14 ?zk_C7r14 ?zd_C7r14 ?zu_C7r14 ?_; (case zF_C7r14 => k_asm); (case zB_C7r14 => k_asm); (case zX_C7r14 => k_asm); (case zN_C7r14 => k_asm); (case zT_C7r14 => k_asm); (case zA_C7r14 => exact rfl); (case zf_C7r14 => exact rfl); (case zk_C7r14 => exact rfl); (case zd_C7r14 => ktr_room); (case zu_C7r14 => ktr_units); k_whole; intro t' h' tk' hl' F' N'))
  k_with "m:call builtin:list.index" => (k_here; (with_reducible show wpAny _ _ (call (Value.builtin _) [Value.ref _, Value.str _ _]) _ _ _); k_dflt (refine' index_list_strs ?zN_C7r15 ?zl_C7r15 ?zS_C7r15 ?zz_C7r15 ?zk_C7r15 ?_; (case zN_C7r15 => k_asm); (case zl_C7r15 => k_mem); (case zS_C7r15 => k_asm); (case zz_C7r15 => first | exact early_lenOk _ | decide | rfl); (case zk_C7r15 => first | with_reducible assumption | assumption | decide +kernel); k_whole; intro hi'; (try simp only [List.length_cons, List.length_nil, Nat.reduceAdd, Nat.zero_add] at hi')))
  k_with "m:call ref" => (k_here; (with_reducible show wpAny _ _ (call (Value.ref 167) [Value.int _ _, Value.int _ _]) _ _ _); k_dflt (refine' callMayReg (gpr_ok _ _ _ _ _ ?zh_C7r16 ?zh2_C7r16) ?zB_C7r16 ?zF_C7r16 ?zX_C7r16 ?zN_C7r16 ?zT_C7r16 ?zA_C7r16 ?zf_C7r16 ?zk_C7r16 ?zd_C7r16 ?zu_C7r16 ?zo_C7r16 ?zr_C7r16; (case zF_C7r16 => k_asm); (case zB_C7r16 => k_asm); (case zX_C7r16 => k_asm); (case zN_C7r16 => k_asm); (case zT_C7r16 => k_asm); (case zA_C7r16 => exact rfl); (case zf_C7r16 => exact rfl); (case zk_C7r16 => exact rfl); (case zd_C7r16 => ktr_room); (case zu_C7r16 => ktr_units); (case zh_C7r16 => lia); (case zh2_C7r16 => lia); k_whole; (try (case zr_C7r16 => (intro hz; exact absurd ⟨by first | with_reducible assumption | assumption | decide, by lia, by lia⟩ hz))); (all_goals first | (intro hz x' d' u1 u2 u3 u4 u5 u6 u7 u8 h' tk' hx' F' N' l1 l2; (try dsimp only [AllNe] at l1 l2); (repeat (have := And.left l1; replace l1 := And.right l1)); (repeat (have := And.left l2; replace l2 := And.right l2))) | (intro hz e' t' ws' h' tk' R' RK' U'))))
  k_with "m:call ref" => (k_here; (with_reducible show wpAny _ _ (call (Value.ref 174) [Value.int _ _]) _ _ _); k_dflt (refine' callMayReg (high_ok _ _ _ ?zh_C7r17 ?zh2_C7r17) ?zB_C7r17 ?zF_C7r17 ?zX_C7r17 ?zN_C7r17 ?zT_C7r17 ?zA_C7r17 ?zf_C7r17 ?zk_C7r17 ?zd_C7r17 ?zu_C7r17 ?zo_C7r17 ?zr_C7r17; (case zF_C7r17 => k_asm); (case zB_C7r17 => k_asm); (case zX_C7r17 => k_asm); (case zN_C7r17 => k_asm); (case zT_C7r17 => k_asm); (case zA_C7r17 => exact rfl); (case zf_C7r17 => exact rfl); (case zk_C7r17 => exact rfl); (case zd_C7r17 => ktr_room); (case zu_C7r17 => ktr_units); (case zh_C7r17 => lia); (case zh2_C7r17 => lia); k_whole; (try (case zr_C7r17 => (intro hz; exact absurd ⟨by lia, by lia⟩ hz))); (all_goals first | (intro hz x' d' u1 u2 u3 u4 u5 u6 u7 u8 h' tk' hx' F' N' l1 l2; (try dsimp only [AllNe] at l1 l2); (repeat (have := And.left l1; replace l1 := And.right l1)); (repeat (have := And.left l2; replace l2 := And.right l2))) | (intro hz e' t' ws' h' tk' R' RK' U'))))
  k_with "m:call ref" => (k_here; (with_reducible show wpAny _ _ (call (Value.ref 188) [Value.int _ _]) _ _ _); k_dflt (refine' callMayReg (xmm_ok _ _ _ ?zh_C7r18 ?zh2_C7r18) ?zB_C7r18 ?zF_C7r18 ?zX_C7r18 ?zN_C7r18 ?zT_C7r18 ?zA_C7r18 ?zf_C7r18 ?zk_C7r18 ?zd_C7r18 ?zu_C7r18 ?zo_C7r18 ?zr_C7r18; (case zF_C7r18 => k_asm); (case zB_C7r18 => k_asm); (case zX_C7r18 => k_asm); (case zN_C7r18 => k_asm); (case zT_C7r18 => k_asm); (case zA_C7r18 => exact rfl); (case zf_C7r18 => exact rfl); (case zk_C7r18 => exact rfl); (case zd_C7r18 => ktr_room); (case zu_C7r18 => ktr_units); (case zh_C7r18 => lia); (case zh2_C7r18 => lia); k_whole; (try (case zr_C7r18 => (intro hz; exact absurd ⟨by lia, by lia⟩ hz))); (all_goals first | (intro hz x' d' u1 u2 u3 u4 u5 u6 u7 u8 h' tk' hx' F' N' l1 l2; (try dsimp only [AllNe] at l1 l2); (repeat (have := And.left l1; replace l1 := And.right l1)); (repeat (have := And.left l2; replace l2 := And.right l2))) | (intro hz e' t' ws' h' tk' R' RK' U'))))
  k_with "m:call ref" => (k_here; (with_reducible show wpAny _ _ (call (Value.ref 195) []) _ _ _); k_dflt (refine' callReg (rip_ok _) ?zB_C7r19 ?zF_C7r19 ?zX_C7r19 ?zN_C7r19 ?zT_C7r19 ?zA_C7r19 ?zf_C7r19 ?zk_C7r19 ?zd_C7r19 ?zu_C7r19 ?_; (case zF_C7r19 => k_asm); (case zB_C7r19 => k_asm); (case zX_C7r19 => k_asm); (case zN_C7r19 => k_asm); (case zT_C7r19 => k_asm); (case zA_C7r19 => exact rfl); (case zf_C7r19 => exact rfl); (case zk_C7r19 => exact rfl); (case zd_C7r19 => ktr_room); (case zu_C7r19 => ktr_units); k_whole; intro x' d' u1 u2 u3 u4 u5 u6 u7 u8 h' tk' hx' F' N' l1 l2; (try dsimp only [AllNe] at l1 l2); (repeat (have := And.left l1; replace l1 := And.right l1)); (repeat (have := And.left l2; replace l2 := And.right l2))))
  k_with "m:call ref" => (k_here; (with_reducible show wpAny _ _ (call (Value.ref 202) [Value.str (PySem.Str.ofString "fs") _]) _ _ _); k_dflt (refine' callReg (fs_ok _ _) ?zB_C7r20 ?zF_C7r20 ?zX_C7r20 ?zN_C7r20 ?zT_C7r20 ?zA_C7r20 ?zf_C7r20 ?zk_C7r20 ?zd_C7r20 ?zu_C7r20 ?_; (case zF_C7r20 => k_asm); (case zB_C7r20 => k_asm); (case zX_C7r20 => k_asm); (case zN_C7r20 => k_asm); (case zT_C7r20 => k_asm); (case zA_C7r20 => exact rfl); (case zf_C7r20 => exact rfl); (case zk_C7r20 => exact rfl); (case zd_C7r20 => ktr_room); (case zu_C7r20 => ktr_units); k_whole; intro x' d' u1 u2 u3 u4 u5 u6 u7 u8 h' tk' hx' F' N' l1 l2; (try dsimp only [AllNe] at l1 l2); (repeat (have := And.left l1; replace l1 := And.right l1)); (repeat (have := And.left l2; replace l2 := And.right l2))))
  k_with "m:call ref" => (k_here; (with_reducible show wpAny _ _ (call (Value.ref 202) [Value.str (PySem.Str.ofString "gs") _]) _ _ _); k_dflt (refine' callReg (gs_ok _ _) ?zB_C7r21 ?zF_C7r21 ?zX_C7r21 ?zN_C7r21 ?zT_C7r21 ?zA_C7r21 ?zf_C7r21 ?zk_C7r21 ?zd_C7r21 ?zu_C7r21 ?_; (case zF_C7r21 => k_asm); (case zB_C7r21 => k_asm); (case zX_C7r21 => k_asm); (case zN_C7r21 => k_asm); (case zT_C7r21 => k_asm); (case zA_C7r21 => exact rfl); (case zf_C7r21 => exact rfl); (case zk_C7r21 => exact rfl); (case zd_C7r21 => ktr_room); (case zu_C7r21 => ktr_units); k_whole; intro x' d' u1 u2 u3 u4 u5 u6 u7 u8 h' tk' hx' F' N' l1 l2; (try dsimp only [AllNe] at l1 l2); (repeat (have := And.left l1; replace l1 := And.right l1)); (repeat (have := And.left l2; replace l2 := And.right l2))))
  k_with "m:call type:int" => (k_here; (with_reducible show wpAny _ _ (call (Value.type _) [Value.str _ _]) _ _ _); k_dflt (first | (refine' call_xmm ?zk_C7r22 ?_; (case zk_C7r22 => k_asm); k_whole; intro hi') | (refine' call_late ?zk_C7r22 ?_; (case zk_C7r22 => k_asm); k_whole; intro hi')))
  k_with "m:compareOp In str ref" => (k_here; k_dflt (refine' in_strsK ?zN_C7r23 ?zl_C7r23 ?zS_C7r23 ?_; (case zN_C7r23 => k_asm); (case zl_C7r23 => k_mem); (case zS_C7r23 => k_asm); k_whole))
  k_with "m:subscriptTail Name Constant ref int" => (k_here; k_dflt (refine' item_ledger ?zN_C7r24 ?zl_C7r24 ?z0_C7r24 ?zf_C7r24 ?zx_C7r24 ?_ ?zs_C7r24 ?zg_C7r24; (case zN_C7r24 => k_asm); (case zl_C7r24 => k_mem); (case z0_C7r24 => decide); (case zf_C7r24 => decide); (case zx_C7r24 => rfl); (case zs_C7r24 => with_unfolding_all rfl); (case zg_C7r24 => (intro _; with_unfolding_all rfl)); k_whole))
  k_with "m:binaryOp Mult int int" => (k_here; k_dflt (refine' mul_small ?zb_C7r25 ?_; (case zb_C7r25 => lia); k_whole))
  k_with "m:call ref" => (k_here; (with_reducible show wpAny _ _ (call (Value.ref 242) [Value.ref _, Value.int _ _]) _ _ _); k_dflt (refine' callTake (take_ok _ _ _ _ _ _ _ _ _ _ _ _ ?zp_C7r26 ?zj_C7r26 ?zn_C7r26 ?zn2_C7r26) ?zB_C7r26 ?zF_C7r26 ?zX_C7r26 ?zN_C7r26 ?zU_C7r26 ?zT_C7r26 ?zA_C7r26 ?zf_C7r26 ?zk_C7r26 ?zd_C7r26 ?zu_C7r26 ?_; (case zF_C7r26 => k_asm); (case zB_C7r26 => k_asm); (case zX_C7r26 => k_asm); (case zN_C7r26 => k_asm); (case zU_C7r26 => k_updF); (case zT_C7r26 => k_asm); (case zA_C7r26 => exact rfl); (case zf_C7r26 => exact rfl); (case zk_C7r26 => exact rfl); (case zd_C7r26 => ktr_room); (case zu_C7r26 => ktr_units); (case zp_C7r26 => k_asm); (case zj_C7r26 => lia); (case zn_C7r26 => lia); (case zn2_C7r26 => lia); k_whole; intro k' a' b' c' ta' tb' tc' t' ep' h' tk' k0' k1' hp' F' N'; (try dsimp only at N')))
  k_with "m:subscriptTail Name Call str int" => (k_here; k_dflt (refine' item_str ?zr_C7r27 ?z1_C7r27 ?z2_C7r27 ?_ ?zs_C7r27 ?zt_C7r27; (case zr_C7r27 => exact fits_small (by lia) (by lia)); (case z1_C7r27 => lia); (case z2_C7r27 => lia); (case zs_C7r27 => with_unfolding_all rfl); (case zt_C7r27 => (intro _; with_unfolding_all rfl)); k_whole; intro hI'))
  trivial

set_option maxRecDepth 100000 in
set_option maxHeartbeats 2000000 in
theorem bent_ok (w : World) (l : Addr) (a b c j : Int) (x sg : Str) (ta tb tc tx ts : Tok) (ep : Nat) (hp : PenOk a b c j) (hj : j < 90000) (hx : x.length ≤ 100) (hs : 0 < sg.length) (hs2 : sg.length ≤ 100) :
    FnG w 3 266 [.ref l, .str x tx, .str sg ts] [(l, W.listOf #[.int a ta, .int b tb, .int c tc] ep)] (BentG l x sg j) := by
  w_top off
  dsimp only [FnG, BentG]; k_fill; intros; rename_i hret
  cell_enter
  k_steps
  all_goals (try dsimp only)
  · refine hret _ _ _ _ _ _ _ _ _ _ _ (Fr.keep (by assumption)) (News.get (by assumption) (.tail _ (.head _))) (by rw [show j + 3 = j + 1 + 1 + 1 from by lia]; assumption) ⟨?_, fun p h1 h2 => signs_append (signs_append (signs_slice h1 _ _) signs_empty) (signs_slice h1 _ _)⟩
    have z0 : (Str.ofString "").length = 0 := by decide +kernel
    lia
  · refine hret _ _ _ _ _ _ _ _ _ _ _ (Fr.keep (by assumption)) (News.get (by assumption) (.tail _ (.head _))) (by rw [show j + 3 = j + 1 + 1 + 1 from by lia]; assumption) ⟨?_, fun p h1 h2 => signs_append (signs_append (signs_slice h1 _ _) (signs_item h2 (by assumption) (by assumption))) (signs_slice h1 _ _)⟩
    lia

end Mine
end
section
open PySem PySem.W PySem.Calls PyProof.Rows
namespace Mine
theorem rows_C8_1 : True := by
  k_with_none
  k_with "m:on" => skip
  k_with "m:klt" => (intro l0; replace l0 := allLt_of l0; dsimp only [AllLt] at l0; (repeat (have := And.left l0; replace l0 := And.right l0)); revert l0)
  k_with "m:ktr_room" => k_dflt (first | exact rm1 (by with_reducible assumption) rfl | exact rm2 (by with_reducible assumption) rfl | exact rm3 (by with_reducible assumption) rfl)
  k_with "m:ktr_units" => k_dflt (first | exact un0 (by with_reducible assumption) rfl | exact un1 (by with_reducible assumption) rfl | exact un2 (by with_reducible assumption) rfl | exact un3 (by with_reducible assumption) rfl)
  k_with "m:k_ne" => (refine neN ?_; (try dsimp only); first | with_reducible assumption | exact Ne.symm (by with_reducible assumption) | exact Nat.ne_of_lt (by with_reducible assumption) | exact Nat.ne_of_gt (by with_reducible assumption) | lia)
  k_with "m:cell_enter" => (refine' enterGC ?zk1_C8r1 ?zk2_C8r1 ?zk3_C8r1 ?zk4_C8r1 ?zk5_C8r1 ?zk6_C8r1 ?zk7_C8r1 ?zk8_C8r1 ?zk9_C8r1 ?zkB_C8r1 ?zkD_C8r1 ?_ ?zc2_C8r1 ?zc3_C8r1 ?zc4_C8r1; (case zk1_C8r1 => k_asm); (case zk2_C8r1 => k_asm); (case zk3_C8r1 => k_asm); (case zk4_C8r1 => k_asm); (case zk5_C8r1 => k_asm); (case zk6_C8r1 => k_is); (case zk7_C8r1 => k_is); (case zk8_C8r1 => lia); (case zk9_C8r1 => first | exact BindsTo.of_eq rfl | exact binds_K (by k_in) rfl (by k_is) rfl rfl rfl); (case zkB_C8r1 => exact rfl); (case zkD_C8r1 => decide +kernel); (case zc2_C8r1 => exact rfl); (case zc3_C8r1 => exact rfl); (case zc4_C8r1 => exact rfl); k_whole; intro L' h' tk' cells' F' N' Y' l1; (try k_lt l1); k_cells Y'; (try simp only [List.cons_append, List.nil_append, List.append_nil] at N'); (try dsimp only); (try k_fold))
  k_with "m:cell_enter" => (refine' enterG ?zk1_C8r2 ?zk2_C8r2 ?zk3_C8r2 ?zk4_C8r2 ?zk5_C8r2 ?zk6_C8r2 ?zk7_C8r2 ?zk8_C8r2 ?zk9_C8r2 ?zkB_C8r2 ?_ ?zc2_C8r2 ?zc3_C8r2 ?zc4_C8r2 ?zc5_C8r2; (case zk1_C8r2 => k_asm); (case zk2_C8r2 => k_asm); (case zk3_C8r2 => k_asm); (case zk4_C8r2 => k_asm); (case zk5_C8r2 => k_asm); (case zk6_C8r2 => k_is); (case zk7_C8r2 => k_is); (case zk8_C8r2 => lia); (case zk9_C8r2 => first | exact BindsTo.of_eq rfl | exact binds_K (by k_in) rfl (by k_is) rfl rfl rfl); (case zc5_C8r2 => decide); (case zkB_C8r2 => exact locs rfl); (case zc2_C8r2 => exact rfl); (case zc3_C8r2 => exact rfl); (case zc4_C8r2 => exact rfl); k_whole; intro L' h' F' N' l1; (try k_lt l1); (try dsimp only); (try k_fold))
  k_with "m:exec Raise some none" => (k_here; (with_reducible show wpAny _ _ (exec (Stmt.Raise (some (Expr.Call (Expr.Name _ _) _ _ _)) none _) _) _ _ _); k_dflt (refine Raise_mint (by exact rfl) ?_))
  k_with "m:call ref" => (k_here; (with_reducible show wpAny _ _ (call (Value.ref _) [Value.str _ _]) (RaisedO _) _ _); k_dflt (refine' mint_callN PySem.F.excBase_Exception ?zX_C8r4 ?zF_C8r4 ?zN_C8r4 ?zC_C8r4 ?zi_C8r4 ?zf_C8r4 ?zc_C8r4 ?_; (case zX_C8r4 => k_asm); (case zF_C8r4 => k_asm); (case zN_C8r4 => k_asm); (case zC_C8r4 => k_is); (case zi_C8r4 => k_is); (case zf_C8r4 => k_is); (case zc_C8r4 => rfl); k_whole); intro e' t' h' F' N' l1 l2; (try k_lt l1); (try k_lt2 l2); k_dflt (refine wpAny_call ?_; k_enter))
  k_with "m:getMethod type:Exception" => (k_here; refine' method_type ?zF_C8r5 ?zX_C8r5 ?zm_C8r5 (by decide +kernel) ?ze_C8r5 ?zh_C8r5 ?_; (case zF_C8r5 => k_asm); (case zX_C8r5 => k_asm); (case zm_C8r5 => exact meta_Exception); (case ze_C8r5 => k_dflt k_is); (case zh_C8r5 => k_handed))
  k_with "m:call builtin:Exception.__init__" => (k_here; k_dflt (refine' exc_initN' PySem.F.excBase_Exception ?zC_C8r6 ?zF_C8r6 ?zN_C8r6 ?zh2_C8r6 ?_; (case zF_C8r6 => k_asm); (case zN_C8r6 => k_asm); (case zC_C8r6 => exact Frag.In.keeps (by k_asm) (Fr.keep (by k_asm)) _ _ (by k_is)); (case zh2_C8r6 => k_all); k_whole); intro D' h' F' N' l1; (try simp only [List.nil_append] at F' N' l1); (try k_lt l1))
  k_with "m:setAttr ref" => (k_here; k_dflt (refine' exc_set2 ?zF_C8r7 ?zX_C8r7 ?zN_C8r7 ?ze_C8r7 ?zU_C8r7 ?zs_C8r7 ?zc_C8r7 ?zm_C8r7 ?zd_C8r7 ?zt_C8r7 ?zn_C8r7 ?zq_C8r7 ?zz_C8r7 ?_; (case zF_C8r7 => k_asm); (case zX_C8r7 => k_asm); (case zN_C8r7 => k_asm); (case ze_C8r7 => k_mem); (case zU_C8r7 => k_upd); (case zs_C8r7 => k_is); (case zc_C8r7 => k_is); (case zm_C8r7 => rfl); (case zd_C8r7 => rfl); (case zt_C8r7 => k_is); (case zn_C8r7 => rfl); (case zq_C8r7 => rfl); (case zz_C8r7 => exact Nat.le_of_ble_eq_true rfl); k_whole); intro h' tk' F' N')
  k_with "m:setAttr ref" => (k_here; k_dflt (refine' exc_set1' ?zF_C8r8 ?zX_C8r8 ?zN_C8r8 ?zh1_C8r8 ?zh2_C8r8 ?zs_C8r8 ?zc_C8r8 ?zm_C8r8 ?zd_C8r8 ?zt_C8r8 ?_; (case zF_C8r8 => k_asm); (case zX_C8r8 => k_asm); (case zN_C8r8 => k_asm); (case zh1_C8r8 => k_ne); (case zh2_C8r8 => k_all); (case zs_C8r8 => k_is); (case zc_C8r8 => k_is); (case zm_C8r8 => rfl); (case zd_C8r8 => rfl); (case zt_C8r8 => k_is); k_whole); intro D' h' tk' F' N' l1; (try simp only [List.cons_append, List.nil_append] at F' N' l1); (try k_lt l1))
  k_with "m:RaisedO" => (k_dflt (refine' raisedO_of ?zX_C8r9 ?zF_C8r9 ?zN_C8r9 ?ze_C8r9 ?zC_C8r9 ?zb_C8r9 ?_; (case zX_C8r9 => k_asm); (case zF_C8r9 => k_asm); (case zN_C8r9 => k_asm); (case ze_C8r9 => k_mem); (case zC_C8r9 => k_is); (case zb_C8r9 => rfl); k_whole))
  k_with "m:leaving ref" => (k_here; k_dflt (refine' leave_mint4 ?zK_C8r10 ?zF_C8r10 ?zN_C8r10 ?zh1_C8r10 ?zh2_C8r10 ?_; (case zK_C8r10 => k_asm); (case zF_C8r10 => k_asm); (case zN_C8r10 => k_asm); (case zh1_C8r10 => k_all); (case zh2_C8r10 => k_all); k_whole); intro h' R' RK' U'; (try dsimp only at R' RK' U' ⊢))
  k_with "m:compareOp Eq ref ref" => (k_here; k_dflt (refine' eq_strsK ?zN_C8r11 ?zl_C8r11 ?zS_C8r11 ?zl2_C8r11 ?zS2_C8r11 ?zu_C8r11 ?zo_C8r11 ?zo2_C8r11 ?_; (case zN_C8r11 => k_asm); (case zl_C8r11 => k_mem); (case zS_C8r11 => k_asm); (case zl2_C8r11 => k_mem); (case zS2_C8r11 => exact StrsAre.nil); (case zu_C8r11 => ktr_units); (case zo_C8r11 => exact early_ok1 _); (case zo2_C8r11 => rfl); k_whole))
  k_with "m:subscriptTail Name Name ref int" => (k_here; k_dflt (refine' item_strsK ?zN_C8r12 ?zl_C8r12 ?zS_C8r12 ?z0_C8r12 ?zk_C8r12 ?zf_C8r12 ?_ ?zs_C8r12 ?zg_C8r12; (case zN_C8r12 => k_asm); (case zl_C8r12 => k_mem); (case zS_C8r12 => k_asm); (case z0_C8r12 => lia); (case zk_C8r12 => first | exact early_lt (by assumption) (by lia) | (show _ < ((_ : Nat) : Int); lia)); (case zf_C8r12 => lia); (case zs_C8r12 => with_unfolding_all rfl); (case zg_C8r12 => (intro _; with_unfolding_all rfl)); k_whole; intro t'))
  k_with "m:call ref" => (k_here; (with_reducible show wpAny _ _ (call (Value.ref 153) [Value.int _ _]) _ _ _); k_dflt (refine' callList (early_ok _ _ _) ?zB_C8r13 ?zF_C8r13 ?zX_C8r13 ?zN_C8r13 ?zT_C8r13 ?zA_C8r13 ?zf_C8r13 ?zk_C8r13 ?zd_C8r13 ?zu_C8r13 ?_; (case zF_C8r13 => k_asm); (case zB_C8r13 => k_asm); (case zX_C8r13 => k_asm); (case zN_C8r13 => k_asm); (case zT_C8r13 => k_asm); (case zA_C8r13 => exact rfl); (case zf_C8r13 => exact rfl); (case zk_C8r13 => exact rfl); (case zd_C8r13 => ktr_room); (case zu_C8r13 => ktr_units); k_whole; intro D' vs' n' h' tk' S' F' N' l1; (try dsimp only [AllNe] at l1); (repeat (have := And.left l1; replace l1 := And.right l1))))
  k_with "m:call ref" => (k_here; (with_reducible show wpAny _ _ (call (Value.ref 160) [Value.int _ _]) _ _ _); k_dflt (refine' callEnd (ending_ok _ _ _) ?zB_C8r14 ?zF_C8r14 ?zX_C8r14 ?zN_C8r14 ?zT_C8r14 ?zA_C8r14 ?zf_C8r14 ?zk_C8r14 ?zd_C8r14 ?zu_C8r14 ?_; (case zF_C8r14 => k_asm); (case zB_C8r14 => k_asm); (case zX_C8r14 => k_asm); (case zN_C8r14 => k_asm); (case zT_C8r14 => k_asm); (case zA_C8r14 => exact rfl); (case zf_C8r14 => exact rfl); (case zk_C8r14 => exact rfl); (case zd_C8r14 => ktr_room); (case zu_C8r14 => ktr_units); k_whole; intro t' h' tk' hl' F' N'))
  k_with "m:call builtin:list.index" => (k_here; (with_reducible show wpAny _ _ (call (Value.builtin _) [Value.ref _, Value.str _ _]) _ _ _); k_dflt (refine' index_list_strs ?zN_C8r15 ?zl_C8r15 ?zS_C8r15 ?zz_C8r15 ?zk_C8r15 ?_; (case zN_C8r15 => k_asm); (case zl_C8r15 => k_mem); (case zS_C8r15 => k_asm); (case zz_C8r15 => first | exact early_lenOk _ | decide | rfl); (case zk_C8r15 => first | with_reducible assumption | assumption | decide +kernel); k_whole; intro hi'; (try simp only [List.length_cons, List.length_nil, Nat.reduceAdd, Nat.zero_add] at hi')))
  k_with "m:call ref" => (k_here; (with_reducible show wpAny _ _ (call (Value.ref 167) [Value.int _ _, Value.int _ _]) _ _ _); k_dflt (refine' callMayReg (gpr_ok _ _ _ _ _ ?zh_C8r16 ?zh2_C8r16) ?zB_C8r16 ?zF_C8r16 ?zX_C8r16 ?zN_C8r16 ?zT_C8r16 ?zA_C8r16 ?zf_C8r16 ?zk_C8r16 ?zd_C8r16 ?zu_C8r16 ?zo_C8r16 ?zr_C8r16; (case zF_C8r16 => k_asm); (case zB_C8r16 => k_asm); (case zX_C8r16 => k_asm); (case zN_C8r16 => k_asm); (case zT_C8r16 => k_asm); (case zA_C8r16 => exact rfl); (case zf_C8r16 => exact rfl); (case zk_C8r16 => exact rfl); (case zd_C8r16 => ktr_room); (case zu_C8r16 => ktr_units); (case zh_C8r16 => lia); (case zh2_C8r16 => lia); k_whole; (try (case zr_C8r16 => (intro hz; exact absurd ⟨by first | with_reducible assumption | assumption | decide, by lia, by lia⟩ hz))); (all_goals first | (intro hz x' d' u1 u2 u3 u4 u5 u6 u7 u8 h' tk' hx' F' N' l1 l2; (try dsimp only [AllNe] at l1 l2); (repeat (have := And.left l1; replace l1 := And.right l1)); (repeat (have := And.left l2; replace l2 := And.right l2))) | (intro hz e' t' ws' h' tk' R' RK' U'))))
  k_with "m:call ref" => (k_here; (with_reducible show wpAny _ _ (call (Value.ref 174) [Value.int _ _]) _ _ _); k_dflt (refine' callMayReg (high_ok _ _ _ ?zh_C8r17 ?zh2_C8r17) ?zB_C8r17 ?zF_C8r17 ?zX_C8r17 ?zN_C8r17 ?zT_C8r17 ?zA_C8r17 ?zf_C8r17 ?zk_C8r17 ?zd_C8r17 ?zu_C8r17 ?zo_C8r17 ?zr_C8r17; (case zF_C8r17 => k_asm); (case zB_C8r17 => k_asm); (case zX_C8r17 => k_asm); (case zN_C8r17 => k_asm); (case zT_C8r17 => k_asm); (case zA_C8r17 => exact rfl); (case zf_C8r17 => exact rfl); (case zk_C8r17 => exact rfl); (case zd_C8r17 => ktr_room); (case zu_C8r17 => ktr_units); (case zh_C8r17 => lia); (case zh2_C8r17 => lia); k_whole; (try (case zr_C8r17 => (intro hz; exact absurd ⟨by lia, by lia⟩ hz))); (all_goals first | (intro hz x' d' u1 u2 u3 u4 u5 u6 u7 u8 h' tk' hx' F' N' l1 l2; (try dsimp only [AllNe] at l1 l2); (repeat (have := And.left l1; replace l1 := And.right l1)); (repeat (have := And.left l2; replace l2 := And.right l2))) | (intro hz e' t' ws' h' tk' R' RK' U'))))
  k_with "m:call ref" => (k_here; (with_reducible show wpAny _ _ (call (Value.ref 188) [Value.int _ _]) _ _ _); k_dflt (refine' callMayReg (xmm_ok _ _ _ ?zh_C8r18 ?zh2_C8r18) ?zB_C8r18 ?zF_C8r18 ?zX_C8r18 ?zN_C8r18 ?zT_C8r18 ?zA_C8r18 ?zf_C8r18 ?zk_C8r18 ?zd_C8r18 ?zu_C8r18 ?zo_C8r18 ?zr_C8r18; (case zF_C8r18 => k_asm); (case zB_C8r18 => k_asm); (case zX_C8r18 => k_asm); (case zN_C8r18 => k_asm); (case zT_C8r18 => k_asm); (case zA_C8r18 => exact rfl); (case zf_C8r18 => exact rfl); (case zk_C8r18 => exact rfl); (case zd_C8r18 => ktr_room); (case zu_C8r18 => ktr_units); (case zh_C8r18 => lia); (case zh2_C8r18 => lia); k_whole; (try (case zr_C8r18 => (intro hz; exact absurd ⟨by lia, by lia⟩ hz))); (all_goals first | (intro hz x' d' u1 u2 u3 u4 u5 u6 u7 u8 h' tk' hx' F' N' l1 l2; (try dsimp only [AllNe] at l1 l2); (repeat (have := And.left l1; replace l1 := And.right l1)); (repeat (have := And.left l2; replace l2 := And.right l2))) | (intro hz e' t' ws' h' tk' R' RK' U'))))
  k_with "m:call ref" => (k_here; (with_reducible show wpAny _ _ (call (Value.ref 195) _) _ _ _); k_dflt (refine' callReg (rip_ok _) ?zB_C8r19 ?zF_C8r19 ?zX_C8r19 ?zN_C8r19 ?zT_C8r19 ?zA_C8r19 ?zf_C8r19 ?zk_C8r19 ?zd_C8r19 ?zu_C8r19 ?_; (case zF_C8r19 => k_asm); (case zB_C8r19 => k_asm); (case zX_C8r19 => k_asm); (case zN_C8r19 => k_asm); (case zT_C8r19 => k_asm); (case zA_C8r19 => exact rfl); (case zf_C8r19 => exact rfl); (case zk_C8r19 => exact rfl); (case zd_C8r19 => ktr_room); (case zu_C8r19 => ktr_units); k_whole; intro x' d' u1 u2 u3 u4 u5 u6 u7 u8 h' tk' hx' F' N' l1 l2; (try dsimp only [AllNe] at l1 l2); (repeat (have := And.left l1; replace l1 := And.right l1)); (repeat (have := And.left l2; replace l2 := And.right l2))))
  k_with "m:call ref" => (k_here; (with_reducible show wpAny _ _ (call (Value.ref 202) [Value.str (PySem.Str.ofString "fs") _]) _ _ _); k_dflt (refine' callReg (fs_ok _ _) ?zB_C8r20 ?zF_C8r20 ?zX_C8r20 ?zN_C8r20 ?zT_C8r20 ?zA_C8r20 ?zf_C8r20 ?zk_C8r20 ?zd_C8r20 ?zu_C8r20 ?_; (case zF_C8r20 => k_asm); (case zB_C8r20 => k_asm); (case zX_C8r20 => k_asm); (case zN_C8r20 => k_asm); (case zT_C8r20 => k_asm); (case zA_C8r20 => exact rfl); (case zf_C8r20 => exact rfl); (case zk_C8r20 => exact rfl); (case zd_C8r20 => ktr_room); (case zu_C8r20 => ktr_units); k_whole; intro x' d' u1 u2 u3 u4 u5 u6 u7 u8 h' tk' hx' F' N' l1 l2; (try dsimp only [AllNe] at l1 l2); (repeat (have := And.left l1; replace l1 := And.right l1)); (repeat (have := And.left l2; replace l2 := And.right l2))))
  k_with "m:call ref" => (k_here; (with_reducible show wpAny _ _ (call (Value.ref 202) [Value.str (PySem.Str.ofString "gs") _]) _ _ _); k_dflt (refine' callReg (gs_ok _ _) ?zB_C8r21 ?zF_C8r21 ?zX_C8r21 ?zN_C8r21 ?zT_C8r21 ?zA_C8r21 ?zf_C8r21 ?zk_C8r21 ?zd_C8r21 ?zu_C8r21 ?_; (case zF_C8r21 => k_asm); (case zB_C8r21 => k_asm); (case zX_C8r21 => k_asm); (case zN_C8r21 => k_asm); (case zT_C8r21 => k_asm); (case zA_C8r21 => exact rfl); (case zf_C8r21 => exact rfl); (case zk_C8r21 => exact rfl); (case zd_C8r21 => ktr_room); (case zu_C8r21 => ktr_units); k_whole; intro x' d' u1 u2 u3 u4 u5 u6 u7 u8 h' tk' hx' F' N' l1 l2; (try dsimp only [AllNe] at l1 l2); (repeat (have := And.left l1; replace l1 := And.right l1)); (repeat (have := And.left l2; replace l2 := And.right l2))))
  k_with "m:call type:int" => (k_here; (with_reducible show wpAny _ _ (call (Value.type _) [Value.str _ _]) _ _ _); k_dflt (first | (refine' call_xmm ?zk_C8r22 ?_; (case zk_C8r22 => k_asm); k_whole; intro hi') | (refine' call_late ?zk_C8r22 ?_; (case zk_C8r22 => k_asm); k_whole; intro hi')))
  k_with "m:compareOp In str ref" => (k_here; k_dflt (refine' in_strsK ?zN_C8r23 ?zl_C8r23 ?zS_C8r23 ?_; (case zN_C8r23 => k_asm); (case zl_C8r23 => k_mem); (case zS_C8r23 => k_asm); k_whole))
  k_with "m:UnrEndW" => ((with_reducible show UnrEndW _ _ _ _ (TurnKeep _ _) _); k_dflt (refine' turn_end ?zF_C8r24 ?zN_C8r24 ?zs_C8r24 ?zo_C8r24 ?zc_C8r24; (case zF_C8r24 => k_asm); (case zN_C8r24 => k_asm); (case zs_C8r24 => repeat' (first | exact trivial | (refine ⟨by k_mem, ?_⟩))); (case zo_C8r24 => k_all); (case zc_C8r24 => ktr_rel)))
  k_with "m:eval Name" => (k_here; k_dflt (refine' ld ?zF_C8r25 ?zv_C8r25 ?_; (case zF_C8r25 => k_asm); (case zv_C8r25 => k_asm); k_whole))
  k_with "m:pyIter ref" => (k_here; (with_reducible show wpAny _ _ (pyIter (Value.ref _)) (fun it s₂ => TurnsAt _ _ _ _ _ _ _ _ _ it s₂) _ _); (with_reducible rename UseInv _ _ _ => uI); k_dflt (refine' iter_invL uI ?zh_C8r26 ?zF_C8r26 ?zN_C8r26 ?zm_C8r26 ?zc_C8r26 ?zd_C8r26 ?zi_C8r26 ?zk_C8r26 ?zs_C8r26 ?_ ?_; (case zh_C8r26 => exact rfl); (case zF_C8r26 => k_asm); (case zN_C8r26 => k_asm); (case zm_C8r26 => k_mem); (case zc_C8r26 => exact rfl); (case zd_C8r26 => exact rfl); (case zi_C8r26 => k_asm); (case zk_C8r26 => repeat' (first | exact trivial | (refine ⟨by k_mem, ?_⟩))); (case zs_C8r26 => ktr_rel); k_whole; (all_goals first | (intro I' pre' i' post' tn' m' h' tk' o' l1 hi' hC' ho' F' N'; (try k_lt l1); (try dsimp only at hC' F' N'); obtain ⟨hm', hc'⟩ := hC'; (try tb_start)) | (intro m' h' tk' hC' F' N'; (try dsimp only at hC' F' N'); obtain ⟨hm', hc'⟩ := hC'; (try tb_start)))))
  k_with "m:exec For Name Subscript cons nil" => (k_here; (rename Fr _ _ _ _ => lF'); (with_unfolding_all refine' For_turns lF' ?_; k_whole))
  k_with "m:binaryOp Mult int int" => (k_here; k_dflt (refine' mul_small ?zb_C8r28 ?_; (case zb_C8r28 => lia); k_whole))
  trivial

def BASE : Int := 1000000000000000000000000000057
set_option maxRecDepth 100000 in
set_option maxHeartbeats 2000000 in
theorem base_ok (w : World) : Pure w 1 228 [] (fun v ns => ∃ t, v = .int BASE t ∧ ns = []) := by
  w_top off
  dsimp only [FnG, Pure]; k_fill; intros; rename_i hret
  cell_enter
  k_steps
  all_goals (try dsimp only)
  · exact hret _ [] _ _ (Fr.keep (by assumption)) New.nil ⟨_, rfl, rfl⟩

theorem rows_C8_2 : True := by
  k_with "m:call ref" => (k_here; (with_reducible show wpAny _ _ (call (Value.ref 228) _) _ _ _); k_dflt (refine' callPure (base_ok _) ?zB_C8r29 ?zF_C8r29 ?zX_C8r29 ?zN_C8r29 ?zT_C8r29 ?zA_C8r29 ?zf_C8r29 ?zk_C8r29 ?zd_C8r29 ?zu_C8r29 ?_; (case zF_C8r29 => k_asm); (case zB_C8r29 => k_asm); (case zX_C8r29 => k_asm); (case zN_C8r29 => k_asm); (case zT_C8r29 => k_asm); (case zA_C8r29 => exact rfl); (case zf_C8r29 => exact rfl); (case zk_C8r29 => exact rfl); (case zd_C8r29 => ktr_room); (case zu_C8r29 => ktr_units); k_whole; intro v' ns' h' tk' P' F' N' l1; obtain ⟨t', e1, e2⟩ := P'; subst e1 e2; clear l1; (try simp only [List.nil_append] at N')))
  trivial

def StoreOk (pre : List Int) (m : Str → Option Value) : Prop := ∃ v t, m (Str.ofString "store") = some (.int v t) ∧ 0 ≤ v ∧ v.natAbs < 2 ^ (110 * pre.length)
theorem rows_C8_3 : True := by
  k_with "m:ktr_rel" => (dsimp only; first
  | (refine ⟨rfl, ?_⟩; unfold StoreOk; exact ⟨_, _, rfl, by lia, by decide⟩)
  | (refine ⟨?_, ?_⟩; (refine (if_neg (by decide)).trans ((if_neg (by decide)).trans ?_); assumption); unfold StoreOk; refine ⟨_, _, rfl, ?_⟩; exact store_next (by assumption) (by assumption)))
  trivial

theorem store_aux {v b r : Int} {X P : Nat} (hv : 0 ≤ v) (hX : v.natAbs < X) (hb : 0 ≤ b) (hbP : b ≤ (P : Int)) (hr : 0 ≤ r) (hrP : r < (P : Int)) : 0 ≤ v * b + r ∧ (v * b + r).natAbs < X * P := by
  have h1 : 0 ≤ v * b := Int.mul_nonneg hv hb
  have h2 : v * b ≤ v * (P : Int) := Int.mul_le_mul_of_nonneg_left hbP hv
  have h3 : (v + 1) * (P : Int) ≤ (X : Int) * (P : Int) := Int.mul_le_mul_of_nonneg_right (by lia) (by lia)
  rw [Int.add_mul, Int.one_mul] at h3
  have h4 : ((X * P : Nat) : Int) = (X : Int) * (P : Int) := Int.natCast_mul X P
  lia
theorem base_lt : BASE ≤ ((2 ^ 110 : Nat) : Int) := by decide
theorem store_next {v x : Int} {pre : List Int} {i : Int} (h0 : 0 ≤ v) (h1 : v.natAbs < 2 ^ (110 * pre.length)) : 0 ≤ v * BASE + x.fmod BASE ∧ (v * BASE + x.fmod BASE).natAbs < 2 ^ (110 * (pre ++ [i]).length) := by
  have hb := fmod_in x (n := BASE) (by decide)
  have e : 2 ^ (110 * (pre ++ [i]).length) = 2 ^ (110 * pre.length) * 2 ^ 110 := by
    rw [List.length_append, List.length_singleton, Nat.mul_add, Nat.pow_add]
  rw [e]
  exact store_aux h0 h1 (by decide) base_lt hb.1 (Int.lt_of_lt_of_le hb.2 base_lt)
theorem store_mul {v : Int} {ns pre post : List Int} {i : Int} (h : (ns.take 40).reverse = pre ++ i :: post) (h1 : v.natAbs < 2 ^ (110 * pre.length)) : IntMulOk v BASE := by
  have hl : pre.length ≤ 40 := by
    have : (pre ++ i :: post).length ≤ 40 := by rw [← h, List.length_reverse, List.length_take]; lia
    rw [List.length_append] at this; lia
  refine IntMulOk.of_bits (intBits_le (Nat.lt_of_lt_of_le h1 (Nat.pow_le_pow_right (by decide) (by lia)))) (intBits_le (k := 2 ^ 20) ?_)
  exact Nat.lt_of_lt_of_le (by decide : BASE.natAbs < 2 ^ 110) (Nat.pow_le_pow_right (by decide) (by decide))
theorem rows_C8_4 : True := by
  k_with "m:binaryOp Mult int int" => (k_here; k_dflt (refine' PyProof.Rows.mul_int ?_ ?zm_C8r31; rotate_left; (case zm_C8r31 => exact store_mul (by assumption) (by assumption)); k_whole))
  k_with "m:tb_start" => (have hv' := (by assumption : StoreOk _ _); obtain ⟨v', tv', hs', hv0', hv1'⟩ := hv')
  trivial

abbrev PenG (l0 : Addr) (vs : List Value) : Heap → List Env → Heap → Shared → (Result → Shared → Prop) → Prop := fun _ _ g s R => g.IsList l0 vs.toArray ∧
  ∀ (l : Addr) (a b c : Int) (ta tb tc : Tok) (ep : Nat) (h' : Heap) (tk' : Nat), g.StaysIn h' → New g h' [(l, W.listOf #[.int a ta, .int b tb, .int c tc] ep)] → PenOk a b c 0 → R (.ok (.ret (.ref l))) { s with heap := h', toks := tk' }
set_option maxRecDepth 100000 in
set_option maxHeartbeats 2000000 in
theorem pen_ok (w : World) (l0 : Addr) (vs : List Value) (ns : List Int) (hI : IntsAre vs ns) (hlen : ns.length ≤ 63) : FnG w 3 235 [.ref l0] [] (PenG l0 vs) := by
  w_top off
  dsimp only [FnG, PenG]; k_fill; intros; rename_i hret
  obtain ⟨hL, hret⟩ := hret
  have uI : UseInv (ns.take 40).reverse [] (fun pre m => m (Str.ofString "script") = some (.ref l0) ∧ StoreOk pre m) := UseInv.mk _ _ _
  cell_enter
  k_steps
  all_goals (try dsimp only)
  · have hfm := fmod_in (ns.length : Int) (n := 1000) (by decide)
    refine hret _ _ _ _ _ _ _ _ _ _ (Fr.keep (by assumption)) (new1 (by assumption)) ⟨by assumption, by lia, by lia, by lia, by lia⟩

end Mine
end
section
open PySem PySem.W PySem.Calls PyProof.Rows
namespace Mine
theorem sub_tab {a b c d : Addr × Obj} {r : List (Addr × Obj)} : ∀ p ∈ d :: a :: b :: c :: r, p ∈ a :: b :: c :: d :: r := fun p hp => by
  rcases List.mem_cons.mp hp with rfl | hp
  · exact .tail _ (.tail _ (.tail _ (.head _)))
  rcases List.mem_cons.mp hp with rfl | hp
  · exact .head _
  rcases List.mem_cons.mp hp with rfl | hp
  · exact .tail _ (.head _)
  rcases List.mem_cons.mp hp with rfl | hp
  · exact .tail _ (.tail _ (.head _))
  exact .tail _ (.tail _ (.tail _ (.tail _ hp)))
theorem sub_tab2 {a b c d e : Addr × Obj} {r : List (Addr × Obj)} : ∀ p ∈ d :: a :: b :: c :: e :: r, p ∈ a :: b :: c :: e :: d :: r := fun p hp => by
  simp only [List.mem_cons] at hp ⊢
  rcases hp with h | h | h | h | h | h <;> simp only [h, true_or, or_true]
theorem sub_tab3 {a b c d e f : Addr × Obj} {r : List (Addr × Obj)} : ∀ p ∈ d :: a :: b :: c :: e :: f :: r, p ∈ a :: b :: c :: e :: f :: d :: r := fun p hp => by
  simp only [List.mem_cons] at hp ⊢
  rcases hp with h | h | h | h | h | h | h <;> simp only [h, true_or, or_true]
theorem rows_C11_1 : True := by
  k_with_none
  k_with "m:on" => skip
  k_with "m:klt" => (intro l0; replace l0 := allLt_of l0; dsimp only [AllLt] at l0; (repeat (have := And.left l0; replace l0 := And.right l0)); revert l0)
  k_with "m:k_mm" => with_reducible (first | exact List.mem_cons_self | (refine List.mem_cons_of_mem _ ?_; k_extra "m:k_mm"))
  k_with "m:ktr_room" => k_dflt (first | exact rm1 (by with_reducible assumption) rfl | exact rm2 (by with_reducible assumption) rfl | exact rm3 (by with_reducible assumption) rfl)
  k_with "m:ktr_units" => k_dflt (first | exact un0 (by with_reducible assumption) rfl | exact un1 (by with_reducible assumption) rfl | exact un2 (by with_reducible assumption) rfl | exact un3 (by with_reducible assumption) rfl)
  k_with "m:k_ne" => (refine neN ?_; (try dsimp only); first | with_reducible assumption | exact Ne.symm (by with_reducible assumption) | exact Nat.ne_of_lt (by with_reducible assumption) | exact Nat.ne_of_gt (by with_reducible assumption) | lia)
  k_with "m:cell_enter" => (refine' enterGC ?zk1_C11r1 ?zk2_C11r1 ?zk3_C11r1 ?zk4_C11r1 ?zk5_C11r1 ?zk6_C11r1 ?zk7_C11r1 ?zk8_C11r1 ?zk9_C11r1 ?zkB_C11r1 ?zkD_C11r1 ?_ ?zc2_C11r1 ?zc3_C11r1 ?zc4_C11r1; (case zk1_C11r1 => k_asm); (case zk2_C11r1 => k_asm); (case zk3_C11r1 => k_asm); (case zk4_C11r1 => k_asm); (case zk5_C11r1 => k_asm); (case zk6_C11r1 => k_is); (case zk7_C11r1 => k_is); (case zk8_C11r1 => lia); (case zk9_C11r1 => first | exact BindsTo.of_eq rfl | exact binds_K (by k_in) rfl (by k_is) rfl rfl rfl); (case zkB_C11r1 => exact rfl); (case zkD_C11r1 => decide +kernel); (case zc2_C11r1 => exact rfl); (case zc3_C11r1 => exact rfl); (case zc4_C11r1 => exact rfl); k_whole; intro L' h' tk' cells' F' N' Y' l1; (try k_lt l1); k_cells Y'; (try simp only [List.cons_append, List.nil_append, List.append_nil] at N'); (try dsimp only); (try k_fold))
  k_with "m:cell_enter" => (first | (refine' enterG ?zk1_C11r2 ?zk2_C11r2 ?zk3_C11r2 ?zk4_C11r2 ?zk5_C11r2 ?zk6_C11r2 ?zk7_C11r2 ?zk8_C11r2 ?zk9_C11r2 ?zkB_C11r2 ?_ ?zc2_C11r2 ?zc3_C11r2 ?zc4_C11r2 ?zc5_C11r2; (case zk1_C11r2 => k_asm); (case zk2_C11r2 => k_asm); (case zk3_C11r2 => k_asm); (case zk4_C11r2 => k_asm); (case zk5_C11r2 => k_asm); (case zk6_C11r2 => k_is); (case zk7_C11r2 => k_is); (case zk8_C11r2 => lia); (case zk9_C11r2 => first | exact BindsTo.of_eq rfl | exact binds_K (by k_in) rfl (by k_is) rfl rfl rfl); (case zc5_C11r2 => decide); (case zkB_C11r2 => exact locs rfl); (case zc2_C11r2 => exact rfl); (case zc3_C11r2 => exact rfl); (case zc4_C11r2 => exact rfl); k_whole; intro L' h' F' N' l1; (try k_lt l1); (try dsimp only); (try k_fold)) | fail)
  k_with "m:exec Raise some none" => (k_here; (with_reducible show wpAny _ _ (exec (Stmt.Raise (some (Expr.Call (Expr.Name _ _) _ _ _)) none _) _) _ _ _); k_dflt (refine Raise_mint (by exact rfl) ?_))
  k_with "m:call ref" => (k_here; (with_reducible show wpAny _ _ (call (Value.ref _) [Value.str _ _]) (RaisedO _) _ _); k_dflt (refine' mint_callN PySem.F.excBase_Exception ?zX_C11r4 ?zF_C11r4 ?zN_C11r4 ?zC_C11r4 ?zi_C11r4 ?zf_C11r4 ?zc_C11r4 ?_; (case zX_C11r4 => k_asm); (case zF_C11r4 => k_asm); (case zN_C11r4 => k_asm); (case zC_C11r4 => k_is); (case zi_C11r4 => k_is); (case zf_C11r4 => k_is); (case zc_C11r4 => rfl); k_whole); intro e' t' h' F' N' l1 l2; (try k_lt l1); (try k_lt2 l2); k_dflt (refine wpAny_call ?_; k_enter))
  k_with "m:getMethod type:Exception" => (k_here; refine' method_type ?zF_C11r5 ?zX_C11r5 ?zm_C11r5 (by decide +kernel) ?ze_C11r5 ?zh_C11r5 ?_; (case zF_C11r5 => k_asm); (case zX_C11r5 => k_asm); (case zm_C11r5 => exact meta_Exception); (case ze_C11r5 => k_dflt k_is); (case zh_C11r5 => k_handed))
  k_with "m:call builtin:Exception.__init__" => (k_here; k_dflt (refine' exc_initN' PySem.F.excBase_Exception ?zC_C11r6 ?zF_C11r6 ?zN_C11r6 ?zh2_C11r6 ?_; (case zF_C11r6 => k_asm); (case zN_C11r6 => k_asm); (case zC_C11r6 => exact Frag.In.keeps (by k_asm) (Fr.keep (by k_asm)) _ _ (by k_is)); (case zh2_C11r6 => k_all); k_whole); intro D' h' F' N' l1; (try simp only [List.nil_append] at F' N' l1); (try k_lt l1))
  k_with "m:setAttr ref" => (k_here; k_dflt (refine' exc_set2 ?zF_C11r7 ?zX_C11r7 ?zN_C11r7 ?ze_C11r7 ?zU_C11r7 ?zs_C11r7 ?zc_C11r7 ?zm_C11r7 ?zd_C11r7 ?zt_C11r7 ?zn_C11r7 ?zq_C11r7 ?zz_C11r7 ?_; (case zF_C11r7 => k_asm); (case zX_C11r7 => k_asm); (case zN_C11r7 => k_asm); (case ze_C11r7 => k_mem); (case zU_C11r7 => k_upd); (case zs_C11r7 => k_is); (case zc_C11r7 => k_is); (case zm_C11r7 => rfl); (case zd_C11r7 => rfl); (case zt_C11r7 => k_is); (case zn_C11r7 => rfl); (case zq_C11r7 => rfl); (case zz_C11r7 => exact Nat.le_of_ble_eq_true rfl); k_whole); intro h' tk' F' N')
  k_with "m:setAttr ref" => (k_here; k_dflt (refine' exc_set1' ?zF_C11r8 ?zX_C11r8 ?zN_C11r8 ?zh1_C11r8 ?zh2_C11r8 ?zs_C11r8 ?zc_C11r8 ?zm_C11r8 ?zd_C11r8 ?zt_C11r8 ?_; (case zF_C11r8 => k_asm); (case zX_C11r8 => k_asm); (case zN_C11r8 => k_asm); (case zh1_C11r8 => k_ne); (case zh2_C11r8 => k_all); (case zs_C11r8 => k_is); (case zc_C11r8 => k_is); (case zm_C11r8 => rfl); (case zd_C11r8 => rfl); (case zt_C11r8 => k_is); k_whole); intro D' h' tk' F' N' l1; (try simp only [List.cons_append, List.nil_append] at F' N' l1); (try k_lt l1))
  k_with "m:RaisedO" => (k_dflt (refine' raisedO_of ?zX_C11r9 ?zF_C11r9 ?zN_C11r9 ?ze_C11r9 ?zC_C11r9 ?zb_C11r9 ?_; (case zX_C11r9 => k_asm); (case zF_C11r9 => k_asm); (case zN_C11r9 => k_asm); (case ze_C11r9 => k_mem); (case zC_C11r9 => k_is); (case zb_C11r9 => rfl); k_whole))
  k_with "m:leaving ref" => (k_here; k_dflt (refine' leave_mint4 ?zK_C11r10 ?zF_C11r10 ?zN_C11r10 ?zh1_C11r10 ?zh2_C11r10 ?_; (case zK_C11r10 => k_asm); (case zF_C11r10 => k_asm); (case zN_C11r10 => k_asm); (case zh1_C11r10 => k_all); (case zh2_C11r10 => k_all); k_whole); intro h' R' RK' U'; (try dsimp only at R' RK' U' ⊢))
  k_with "m:compareOp Eq ref ref" => (k_here; k_dflt (refine' eq_strsK ?zN_C11r11 ?zl_C11r11 ?zS_C11r11 ?zl2_C11r11 ?zS2_C11r11 ?zu_C11r11 ?zo_C11r11 ?zo2_C11r11 ?_; (case zN_C11r11 => k_asm); (case zl_C11r11 => k_mem); (case zS_C11r11 => k_asm); (case zl2_C11r11 => k_mem); (case zS2_C11r11 => exact StrsAre.nil); (case zu_C11r11 => ktr_units); (case zo_C11r11 => exact early_ok1 _); (case zo2_C11r11 => rfl); k_whole))
  k_with "m:subscriptTail Name Name ref int" => (k_here; k_dflt (refine' item_strsK ?zN_C11r12 ?zl_C11r12 ?zS_C11r12 ?z0_C11r12 ?zk_C11r12 ?zf_C11r12 ?_ ?zs_C11r12 ?zg_C11r12; (case zN_C11r12 => k_asm); (case zl_C11r12 => k_mem); (case zS_C11r12 => k_asm); (case z0_C11r12 => lia); (case zk_C11r12 => first | exact early_lt (by assumption) (by lia) | (show _ < ((_ : Nat) : Int); lia)); (case zf_C11r12 => lia); (case zs_C11r12 => with_unfolding_all rfl); (case zg_C11r12 => (intro _; with_unfolding_all rfl)); k_whole; intro t'))
  k_with "m:call ref" => (k_here; (with_reducible show wpAny _ _ (call (Value.ref 153) [Value.int _ _]) _ _ _); k_dflt (refine' callList (early_ok _ _ _) ?zB_C11r13 ?zF_C11r13 ?zX_C11r13 ?zN_C11r13 ?zT_C11r13 ?zA_C11r13 ?zf_C11r13 ?zk_C11r13 ?zd_C11r13 ?zu_C11r13 ?_; (case zF_C11r13 => k_asm); (case zB_C11r13 => k_asm); (case zX_C11r13 => k_asm); (case zN_C11r13 => k_asm); (case zT_C11r13 => k_asm); (case zA_C11r13 => exact rfl); (case zf_C11r13 => exact rfl); (case zk_C11r13 => exact rfl); (case zd_C11r13 => ktr_room); (case zu_C11r13 => ktr_units); k_whole; intro D' vs' n' h' tk' S' F' N' l1; (try dsimp only [AllNe] at l1); (repeat (have := And.left l1; replace l1 := And.right l1))))
  k_with "m:call ref" => (k_here; (with_reducible show wpAny _ _ (call (Value.ref 160) [Value.int _ _]) _ _ _); k_dflt (refine' callEnd (ending_ok _ _ _) ?zB_C11r14 ?zF_C11r14 ?zX_C11r14 ?zN_C11r14 ?zT_C11r14 ?zA_C11r14 ?zf_C11r14 ?zk_C11r14 ?zd_C11r14 ?zu_C11r14 ?_; (case zF_C11r14 => k_asm); (case zB_C11r14 => k_asm); (case zX_C11r14 => k_asm); (case zN_C11r14 => k_asm); (case zT_C11r14 => k_asm); (case zA_C11r14 => exact rfl); (case zf_C11r14 => exact rfl); (case zk_C11r14 => exact rfl); (case zd_C11r14 => ktr_room); (case zu_C11r14 => ktr_units); k_whole; intro t' h' tk' hl' F' N'))
  k_with "m:call builtin:list.index" => (k_here; (with_reducible show wpAny _ _ (call (Value.builtin _) [Value.ref _, Value.str _ _]) _ _ _); k_dflt (refine' index_list_strs ?zN_C11r15 ?zl_C11r15 ?zS_C11r15 ?zz_C11r15 ?zk_C11r15 ?_; (case zN_C11r15 => k_asm); (case zl_C11r15 => k_mem); (case zS_C11r15 => k_asm); (case zz_C11r15 => first | exact early_lenOk _ | decide | rfl); (case zk_C11r15 => first | with_reducible assumption | assumption | decide +kernel); k_whole; intro hi'; (try simp only [List.length_cons, List.length_nil, Nat.reduceAdd, Nat.zero_add] at hi')))
  k_with "m:call ref" => (k_here; (with_reducible show wpAny _ _ (call (Value.ref 167) [Value.int _ _, Value.int _ _]) _ _ _); k_dflt (refine' callMayReg (gpr_ok _ _ _ _ _ ?zh_C11r16 ?zh2_C11r16) ?zB_C11r16 ?zF_C11r16 ?zX_C11r16 ?zN_C11r16 ?zT_C11r16 ?zA_C11r16 ?zf_C11r16 ?zk_C11r16 ?zd_C11r16 ?zu_C11r16 ?zo_C11r16 ?zr_C11r16; (case zF_C11r16 => k_asm); (case zB_C11r16 => k_asm); (case zX_C11r16 => k_asm); (case zN_C11r16 => k_asm); (case zT_C11r16 => k_asm); (case zA_C11r16 => exact rfl); (case zf_C11r16 => exact rfl); (case zk_C11r16 => exact rfl); (case zd_C11r16 => ktr_room); (case zu_C11r16 => ktr_units); (case zh_C11r16 => lia); (case zh2_C11r16 => lia); k_whole; (try (case zr_C11r16 => (intro hz; exact absurd ⟨by first | with_reducible assumption | assumption | decide, by lia, by lia⟩ hz))); (all_goals first | (intro hz x' d' u1 u2 u3 u4 u5 u6 u7 u8 h' tk' hx' F' N' l1 l2; (try dsimp only [AllNe] at l1 l2); (repeat (have := And.left l1; replace l1 := And.right l1)); (repeat (have := And.left l2; replace l2 := And.right l2))) | (intro hz e' t' ws' h' tk' R' RK' U'))))
  k_with "m:call ref" => (k_here; (with_reducible show wpAny _ _ (call (Value.ref 174) [Value.int _ _]) _ _ _); k_dflt (refine' callMayReg (high_ok _ _ _ ?zh_C11r17 ?zh2_C11r17) ?zB_C11r17 ?zF_C11r17 ?zX_C11r17 ?zN_C11r17 ?zT_C11r17 ?zA_C11r17 ?zf_C11r17 ?zk_C11r17 ?zd_C11r17 ?zu_C11r17 ?zo_C11r17 ?zr_C11r17; (case zF_C11r17 => k_asm); (case zB_C11r17 => k_asm); (case zX_C11r17 => k_asm); (case zN_C11r17 => k_asm); (case zT_C11r17 => k_asm); (case zA_C11r17 => exact rfl); (case zf_C11r17 => exact rfl); (case zk_C11r17 => exact rfl); (case zd_C11r17 => ktr_room); (case zu_C11r17 => ktr_units); (case zh_C11r17 => lia); (case zh2_C11r17 => lia); k_whole; (try (case zr_C11r17 => (intro hz; exact absurd ⟨by lia, by lia⟩ hz))); (all_goals first | (intro hz x' d' u1 u2 u3 u4 u5 u6 u7 u8 h' tk' hx' F' N' l1 l2; (try dsimp only [AllNe] at l1 l2); (repeat (have := And.left l1; replace l1 := And.right l1)); (repeat (have := And.left l2; replace l2 := And.right l2))) | (intro hz e' t' ws' h' tk' R' RK' U'))))
  k_with "m:call ref" => (k_here; (with_reducible show wpAny _ _ (call (Value.ref 188) [Value.int _ _]) _ _ _); k_dflt (refine' callMayReg (xmm_ok _ _ _ ?zh_C11r18 ?zh2_C11r18) ?zB_C11r18 ?zF_C11r18 ?zX_C11r18 ?zN_C11r18 ?zT_C11r18 ?zA_C11r18 ?zf_C11r18 ?zk_C11r18 ?zd_C11r18 ?zu_C11r18 ?zo_C11r18 ?zr_C11r18; (case zF_C11r18 => k_asm); (case zB_C11r18 => k_asm); (case zX_C11r18 => k_asm); (case zN_C11r18 => k_asm); (case zT_C11r18 => k_asm); (case zA_C11r18 => exact rfl); (case zf_C11r18 => exact rfl); (case zk_C11r18 => exact rfl); (case zd_C11r18 => ktr_room); (case zu_C11r18 => ktr_units); (case zh_C11r18 => lia); (case zh2_C11r18 => lia); k_whole; (try (case zr_C11r18 => (intro hz; exact absurd ⟨by lia, by lia⟩ hz))); (all_goals first | (intro hz x' d' u1 u2 u3 u4 u5 u6 u7 u8 h' tk' hx' F' N' l1 l2; (try dsimp only [AllNe] at l1 l2); (repeat (have := And.left l1; replace l1 := And.right l1)); (repeat (have := And.left l2; replace l2 := And.right l2))) | (intro hz e' t' ws' h' tk' R' RK' U'))))
  k_with "m:call ref" => (k_here; (with_reducible show wpAny _ _ (call (Value.ref 195) _) _ _ _); k_dflt (refine' callReg (rip_ok _) ?zB_C11r19 ?zF_C11r19 ?zX_C11r19 ?zN_C11r19 ?zT_C11r19 ?zA_C11r19 ?zf_C11r19 ?zk_C11r19 ?zd_C11r19 ?zu_C11r19 ?_; (case zF_C11r19 => k_asm); (case zB_C11r19 => k_asm); (case zX_C11r19 => k_asm); (case zN_C11r19 => k_asm); (case zT_C11r19 => k_asm); (case zA_C11r19 => exact rfl); (case zf_C11r19 => exact rfl); (case zk_C11r19 => exact rfl); (case zd_C11r19 => ktr_room); (case zu_C11r19 => ktr_units); k_whole; intro x' d' u1 u2 u3 u4 u5 u6 u7 u8 h' tk' hx' F' N' l1 l2; (try dsimp only [AllNe] at l1 l2); (repeat (have := And.left l1; replace l1 := And.right l1)); (repeat (have := And.left l2; replace l2 := And.right l2))))
  k_with "m:call ref" => (k_here; (with_reducible show wpAny _ _ (call (Value.ref 202) [Value.str (PySem.Str.ofString "fs") _]) _ _ _); k_dflt (refine' callReg (fs_ok _ _) ?zB_C11r20 ?zF_C11r20 ?zX_C11r20 ?zN_C11r20 ?zT_C11r20 ?zA_C11r20 ?zf_C11r20 ?zk_C11r20 ?zd_C11r20 ?zu_C11r20 ?_; (case zF_C11r20 => k_asm); (case zB_C11r20 => k_asm); (case zX_C11r20 => k_asm); (case zN_C11r20 => k_asm); (case zT_C11r20 => k_asm); (case zA_C11r20 => exact rfl); (case zf_C11r20 => exact rfl); (case zk_C11r20 => exact rfl); (case zd_C11r20 => ktr_room); (case zu_C11r20 => ktr_units); k_whole; intro x' d' u1 u2 u3 u4 u5 u6 u7 u8 h' tk' hx' F' N' l1 l2; (try dsimp only [AllNe] at l1 l2); (repeat (have := And.left l1; replace l1 := And.right l1)); (repeat (have := And.left l2; replace l2 := And.right l2))))
  k_with "m:call ref" => (k_here; (with_reducible show wpAny _ _ (call (Value.ref 202) [Value.str (PySem.Str.ofString "gs") _]) _ _ _); k_dflt (refine' callReg (gs_ok _ _) ?zB_C11r21 ?zF_C11r21 ?zX_C11r21 ?zN_C11r21 ?zT_C11r21 ?zA_C11r21 ?zf_C11r21 ?zk_C11r21 ?zd_C11r21 ?zu_C11r21 ?_; (case zF_C11r21 => k_asm); (case zB_C11r21 => k_asm); (case zX_C11r21 => k_asm); (case zN_C11r21 => k_asm); (case zT_C11r21 => k_asm); (case zA_C11r21 => exact rfl); (case zf_C11r21 => exact rfl); (case zk_C11r21 => exact rfl); (case zd_C11r21 => ktr_room); (case zu_C11r21 => ktr_units); k_whole; intro x' d' u1 u2 u3 u4 u5 u6 u7 u8 h' tk' hx' F' N' l1 l2; (try dsimp only [AllNe] at l1 l2); (repeat (have := And.left l1; replace l1 := And.right l1)); (repeat (have := And.left l2; replace l2 := And.right l2))))
  k_with "m:call type:int" => (k_here; (with_reducible show wpAny _ _ (call (Value.type _) [Value.str _ _]) _ _ _); k_dflt (first | (refine' call_xmm ?zk_C11r22 ?_; (case zk_C11r22 => k_asm); k_whole; intro hi') | (refine' call_late ?zk_C11r22 ?_; (case zk_C11r22 => k_asm); k_whole; intro hi')))
  k_with "m:compareOp In str ref" => (k_here; k_dflt (refine' in_strsK ?zN_C11r23 ?zl_C11r23 ?zS_C11r23 ?_; (case zN_C11r23 => k_asm); (case zl_C11r23 => k_mem); (case zS_C11r23 => k_asm); k_whole))
  k_with "m:eval Dict nil nil" => (k_here; k_dflt (refine' newDict_K ?zk1_C11r24 ?zk2_C11r24 ?zk3_C11r24 ?_; (case zk1_C11r24 => k_asm); (case zk2_C11r24 => k_asm); (case zk3_C11r24 => (with_reducible exact Top.nolimit (by assumption))); k_whole); intro d' h' o' F' N' l1 lo' hs' fs' hi' fi'; (try k_lt l1))
  k_with "m:eval Dict" => (k_here; k_dflt (refine' kdn_str ?zq_C11r25 ?zF_C11r25 ?zN_C11r25 ?zb_C11r25 ?za_C11r25 ?zl_C11r25 ?ze_C11r25 ?zn_C11r25 ?_; (case zq_C11r25 => rfl); (case zF_C11r25 => k_asm); (case zN_C11r25 => k_asm); (case zb_C11r25 => (with_reducible exact Top.nolimit (by assumption))); (case za_C11r25 => rfl); (case zl_C11r25 => rfl); (case ze_C11r25 => exact List.cons_ne_nil _ _); (case zn_C11r25 => exact Nat.le_of_ble_eq_true rfl)); intro d' h' o' F' N' l1 lo' hd'; (try k_lt l1))
  k_with "m:eval ListComp" => (k_here; (with_reducible show wpAny _ _ _ _ _ _); lcf_look; k_dflt (refine LCg.ListComp_U (F₀ := by k_asm) (by with_unfolding_all rfl) (by decide) (by rfl) (by decide) (by rfl) ?_); k_dflt lcg_toSrc)
  k_with "m:my_var" => first | with_reducible assumption | assumption | exact rfl | exact if_pos rfl | ((with_reducible refine (if_neg (by decide)).trans ?_); k_extra "m:my_var")
  k_with "m:tab_rel" => exact ⟨by k_extra "m:my_var", by k_extra "m:my_var", by first | k_extra "m:my_var" | trivial⟩
  k_with "m:tab_c" => exact ⟨by k_extra "m:my_var", by k_extra "m:my_var", by first | k_extra "m:my_var" | trivial⟩
  k_with "m:my_sub1" => with_reducible (first | (refine List.forall_mem_cons.mpr (And.intro ?_ ?_); focus (k_extra "m:k_mm"); k_extra "m:my_sub1") | (intro p hp; (repeat (first | assumption | refine List.mem_cons_of_mem _ ?_)); done) | assumption | exact List.forall_mem_nil _)
  k_with "m:my_sub" => first | k_extra "m:my_sub1" | assumption | exact List.forall_mem_nil _ | (refine List.forall_mem_cons.mpr ⟨by k_mem, ?_⟩; k_extra "m:my_sub") | (intro p hp; (repeat (first | exact hp | refine List.mem_cons_of_mem _ ?_)))
  k_with "m:my_ne" => first | with_reducible assumption | assumption | exact List.forall_mem_nil _ | exact ne_app (by assumption) (by assumption) | (refine List.forall_mem_cons.mpr ⟨by (dsimp only; k_ne), ?_⟩; k_extra "m:my_ne")
  k_with "m:tab_open" => (with_reducible rename (_ ∧ _ ∧ _) => hc'; have hc1' := hc'.1; have hc2' := hc'.2.1; have hc3' := hc'.2.2; clear hc')
  k_with "m:subscriptTail Name Name ref int" => (k_here; k_dflt (refine kda_item (knd := intKind _ _) (by k_asm) (by k_mem) (by assumption) (intKind_is _ _ _ _) (by first | exact valueAt_add | assumption) ?_))
  k_with "m:my_outF" => first | (refine' OutF.head ?za_C11r34; (case za_C11r34 => first | with_reducible assumption | assumption | k_all | k_extra "m:my_ne")) | (refine' OutF.tail ?za_C11r34 ?zb_C11r34; (case za_C11r34 => k_ne); (case zb_C11r34 => k_extra "m:my_outF"))
  k_with "m:my_strs" => first | with_reducible assumption | assumption | exact StrsAre.nil | (refine StrsAre.cons _ _ ?_; k_extra "m:my_strs")
  k_with "m:call type:enumerate" => (k_here; (with_reducible rename UseTab _ _ _ _ _ _ _ => uT'); k_dflt (refine' enum_tab uT' ?zh_C11r36 ?zF_C11r36 ?zN_C11r36 ?zO_C11r36 ?zm_C11r36 ?zc_C11r36 ?zd_C11r36 ?zx_C11r36 ?zD_C11r36 ?zI_C11r36 ?zC_C11r36 ?_ ?_; (case zh_C11r36 => exact rfl); (case zF_C11r36 => k_asm); (case zN_C11r36 => k_asm)); (case zD_C11r36 => k_asm); (case zO_C11r36 => k_extra "m:my_outF"); (case zI_C11r36 => k_asm); k_dflt ((case zm_C11r36 => k_mem); (case zc_C11r36 => exact rfl); (case zd_C11r36 => exact rfl)); (case zx_C11r36 => k_dflt (k_extra "m:my_strs")); (case zC_C11r36 => k_dflt (k_extra "m:tab_rel")); rotate_left; ((intro o' ts' kvs' m' h' tk' hd' ht' hk' hoff' hc' F' N'); clear uT'; (have hK9' := tup_offK N' hd' ht'); (try dsimp only at hc'); (try dsimp only [List.cons_append] at N'); k_extra "m:tab_open"); rotate_right; ((intro I' T' pre' x' post' ti' tx' o' it' ie' ts' rest' kvs' m' h' tk' hKI' hKI2' hkl' hR' hrK' e' hT' hit' hie' hd' ht' hk' hoff' hc' F' N'); clear uT'; (try dsimp only at hc'); k_extra "m:tab_open"))
  k_with "m:exec For Tuple Call cons nil" => (k_here; k_dflt (refine' For_turns ?zF_FT1 ?_ ?zh_FT1 ?zE_FT1; (case zF_FT1 => k_asm); (case zh_FT1 => exact fun _ => rfl); (case zE_FT1 => passes_own); k_whole))
  k_with "m:eval Name" => (k_here; k_dflt (refine' nameX_L ?zF_C11r38 ?zv_C11r38 ?_ ?zk_C11r38 ?zx_C11r38 ?zd_C11r38; (case zk_C11r38 => exact rfl); (case zx_C11r38 => with_unfolding_all rfl); (case zd_C11r38 => decide); (case zF_C11r38 => k_asm); k_whole); (case zv_C11r38 => k_extra "m:my_var"))
  k_with "m:my_updF" => first | (refine' UpdF.head ?za_C11r39; (case za_C11r39 => first | with_reducible assumption | assumption | k_all | k_extra "m:my_ne")) | (refine' UpdF.tail ?za_C11r39 ?zb_C11r39; (case za_C11r39 => k_ne); (case zb_C11r39 => k_extra "m:my_updF"))
  k_with "m:setItem ref str" => (k_here; k_dflt (refine' kda_set (knd := PySem.strKind _ _) ?zF_C11r40 ?zN_C11r40 ?zU_C11r40 ?zd_C11r40 (strKind_is _ _ _ _) ?zz_C11r40 ?_; (case zF_C11r40 => k_asm); (case zN_C11r40 => k_asm); k_whole); (case zU_C11r40 => k_extra "m:my_updF"); (case zd_C11r40 => k_asm); (case zz_C11r40 => (refine' known_small ?zq1_C11r40 ?zq2_C11r40 ?zq3_C11r40 ?zq4_C11r40; (case zq1_C11r40 => k_asm); (case zq4_C11r40 => k_asm); (case zq2_C11r40 => k_asm); (case zq3_C11r40 => k_asm))); intro h' o' F' N' hd'; (try dsimp only at N'))
  k_with "m:UnrEndW" => (k_dflt (refine' tab_end ?zF_C11r41 ?zN_C11r41 ?zR_C11r41 ?zsub_C11r41 ?zI1_C11r41 ?zI2_C11r41 ?zit_C11r41 ?zie_C11r41 ?zd_C11r41 ?zt_C11r41 ?zk_C11r41 ?zx_C11r41 ?zoff_C11r41 ?zIT_C11r41 ?ztup_C11r41 ?zb_C11r41 ?zC_C11r41; (case zoff_C11r41 => k_asm); (case zF_C11r41 => k_asm); (case zN_C11r41 => k_asm); (case zR_C11r41 => k_asm); (case zsub_C11r41 => first | with_reducible exact sub_tab | with_reducible exact sub_tab2 | with_reducible exact sub_tab3 | exact sub_tab | k_extra "m:my_sub"); (case zI1_C11r41 => k_asm); (case zI2_C11r41 => k_asm); (case zit_C11r41 => k_asm); (case zie_C11r41 => k_asm); (case zd_C11r41 => k_asm); (case zt_C11r41 => k_asm); (case zk_C11r41 => k_asm); (case ztup_C11r41 => exact ⟨rfl, _, _, _, _, rfl⟩); (case zb_C11r41 => first | exact rfl | exact (Int.zero_add _).symm)); (case zx_C11r41 => (refine' fresh_of ?zx1_C11r41 ?zx2_C11r41; (case zx2_C11r41 => k_asm); (case zx1_C11r41 => k_asm))); (case zIT_C11r41 => first | with_reducible assumption | lia); (case zC_C11r41 => (dsimp only; k_extra "m:tab_c")))
  k_with "m:subscriptTail Name Constant ref int" => (k_here; k_dflt (refine kda_item (knd := intKind _ _) (by k_asm) (by k_mem) (by assumption) (intKind_is _ _ _ _) (by first | exact valueAt_add | assumption) ?_))
  k_with "m:call builtin:str.split" => (k_here; k_dflt (refine' split_strsK ?zF_C11r43 ?zN_C11r43 ?zy_C11r43 ?zs_C11r43 ?zz_C11r43 ?_; (case zF_C11r43 => k_asm); (case zN_C11r43 => k_asm); (case zy_C11r43 => rfl)); (case zs_C11r43 => k_asm); (case zz_C11r43 => k_asm); intro D' vs' h' k' F' N' l1 hs'; (try k_lt l1))
  k_with "m:binaryOp Add ref ref" => (k_here; k_dflt (refine' add_strsK ?zF_C11r44 ?zN_C11r44 ?za_C11r44 ?zi_C11r44 ?zb_C11r44 ?zj_C11r44 ?zz_C11r44 ?_; (case zF_C11r44 => k_asm); (case zN_C11r44 => k_asm); (case za_C11r44 => k_mem); (case zb_C11r44 => k_mem)); (case zi_C11r44 => k_asm); (case zj_C11r44 => k_asm); (case zz_C11r44 => k_extra "m:my_len"); intro D' ws' h' F' N' l1 hs'; (try k_lt l1))
  k_with "m:eval ListComp" => (k_here; k_dflt (refine LCg.ListComp_U (F₀ := by k_asm) (by with_unfolding_all rfl) (by decide) (by rfl) (by decide) (by rfl) ?_); k_dflt lcg_toSrc)
  k_with "m:FinE" => ((unfold LCg.FinE); intro D' h' tk' F' N' o1'; (try simp only [LCg.Off1, and_true] at o1'))
  k_with "m:my_len" => first | lia | (simp only [lateNames, List.length_map, List.length_range]; lia)
  k_with "m:setItem ref int" => (k_here; k_dflt (refine' kda_set (knd := PySem.intKind _ _) ?zF_C11r48 ?zN_C11r48 ?zU_C11r48 ?zd_C11r48 (intKind_is _ _ _ _) ?zz_C11r48 ?_; (case zF_C11r48 => k_asm); (case zN_C11r48 => k_asm); k_whole); (case zU_C11r48 => k_extra "m:my_updF"); (case zd_C11r48 => k_asm); (case zz_C11r48 => (rw [sizeLine_eq]; lia)); intro h' o' F' N' hd'; (try dsimp only at N'))
  k_with "m:CompSrc" => (k_here; (with_reducible rename UseComp _ _ => uC'); k_dflt (refine LCg.CompSrc.range (by rfl) (by k_asm) (by k_asm) (by assumption) (by first | decide | rfl) (by first | rfl | decide) (by first | size_fits | exact Nat.le_of_ble_eq_true rfl) (fun g' => comp_strs uC' ?_ ?_)); (rotate_left; (intro ys' hs'; clear uC'); rotate_right; (intro i' ys' v' I' oI' C' oC' D' m' h' tk' E' hi' hv' hC' hx' F' N' off' ne'; clear uC'; (obtain ⟨t9', hv9'⟩ := hv'); subst hv9')))
  k_with "m:CompEnd" => (k_dflt (refine' compEnd_strs ?zF_C11r50 ?zN_C11r50 ?zoff_C11r50 ?zsub_C11r50 ?zS_C11r50 ?zr_C11r50; (case zF_C11r50 => k_asm); (case zN_C11r50 => k_asm); (case zr_C11r50 => exact rfl); (case zS_C11r50 => exact trivial)); (case zoff_C11r50 => k_asm); (case zsub_C11r50 => k_extra "m:my_sub"))
  k_with "m:tab_row" => (intro i' v' hv'; (rcases i' with _ | _ | _ | _ | i'); (all_goals (first | (have hv9' := Option.some.inj hv'; subst hv9'; exact ⟨_, _, _, _, _, _, _, _, rfl, by k_mem, rfl, rfl, ⟨rfl, by decide +kernel, by decide⟩⟩) | (cases hv'; done) | (simp at hv'; done))))
  k_with "m:tab_base" => exact .cons (by k_mem) ⟨rfl, _, _, _, _, rfl⟩ (.cons (by k_mem) ⟨rfl, _, _, _, _, rfl⟩ (.cons (by k_mem) ⟨rfl, _, _, _, _, rfl⟩ .nil))
  k_with "m:pyIter ref" => (k_here; k_dflt (refine' outer_tab2 ?zh_C11r53 ?zF_C11r53 ?zN_C11r53 ?zmK_C11r53 ?zmS_C11r53 ?zcl_C11r53 ?zdK_C11r53 ?zdS_C11r53 ?zO1_C11r53 ?zO2_C11r53 ?zO3_C11r53 ?zm_C11r53 ?zc_C11r53 ?zd_C11r53 ?zrow_C11r53 ?zlen_C11r53 ?zcell_C11r53 ?zk_C11r53 ?_ ?_; (case zh_C11r53 => exact rfl); (case zF_C11r53 => k_asm); (case zN_C11r53 => k_asm); (case zmK_C11r53 => exact rfl); (case zmS_C11r53 => exact rfl); (case zcl_C11r53 => exact rfl)); (case zdK_C11r53 => k_asm); (case zdS_C11r53 => k_asm); (case zO1_C11r53 => k_extra "m:my_outF"); (case zO2_C11r53 => k_extra "m:my_outF"); (case zO3_C11r53 => k_extra "m:my_outF"); k_dflt ((case zm_C11r53 => k_mem); (case zc_C11r53 => exact rfl); (case zd_C11r53 => exact rfl); (case zrow_C11r53 => k_extra "m:tab_row"); (case zlen_C11r53 => exact rfl)); (case zcell_C11r53 => k_asm); (case zk_C11r53 => k_dflt (k_extra "m:tab_base")); rotate_left; (intro oK' oS' oc' rest' kvs' skv' v' m' h' tk' hrS' hrK' hrc' hcell' hdK' hdS' hk' hz' hmK' hmS' hsk' hne' uT2' uT1' uC' n1' n2' n3' n4' n5' n6' F' N'); rotate_right; (intro I' T' i' size' f' t1' t2' t3' oK' oS' oc' it' rest' kvs' skv' v' m' h' tk' hSI' hKI' hcI' hb' hrI' hrS' hrK' hrc' hrow' hsp' hfl' hT' hit' hcell' hdK' hdS' hk' hz' hmK' hmS' F' N' hel' hes' hnd' hgl' hle' hsk' hne' uC' uT'))
  k_with "m:newTuple" => (k_here; k_dflt (refine' kup_newTuple ?zF_C11r54 ?zN_C11r54 ?_ ?zz_C11r54; (case zF_C11r54 => k_asm); (case zN_C11r54 => k_asm); (case zz_C11r54 => kmk_size)); intro D' h' F' N' l1; (try k_lt l1))
  k_with "m:storeName" => (k_here; k_dflt (refine' storeX_C ?zF_C11r55 ?zN_C11r55 ?zc_C11r55 ?zU_C11r55 ?zd_C11r55 ?_ ?zk_C11r55 ?zx_C11r55; (case zk_C11r55 => exact rfl); (case zx_C11r55 => with_unfolding_all rfl); (case zF_C11r55 => k_asm); (case zN_C11r55 => k_asm); (case zc_C11r55 => exact rfl); k_whole); (case zU_C11r55 => k_extra "m:my_updF"); (case zd_C11r55 => k_asm); intro h' o' F' N' hd'; (try dsimp only at N'))
  k_with "m:UnrEndW" => (k_dflt (refine' outer_end2 ?zF_C11r56 ?zN_C11r56 ?zit_C11r56 ?zdK_C11r56 ?zdS_C11r56 ?zl1_C11r56 ?zl2_C11r56 ?zl3_C11r56 ?zh1_C11r56 ?zh2_C11r56 ?zh3_C11r56 ?zb_C11r56 ?zI_C11r56 ?zS_C11r56 ?zK_C11r56 ?zc_C11r56 ?ztc_C11r56 ?zt_C11r56 ?zcell_C11r56 ?zr_C11r56 ?zD_C11r56 ?zws_C11r56 ?zz_C11r56 ?zk_C11r56 ?zmK_C11r56 ?zmS_C11r56; (case zF_C11r56 => k_asm); (case zN_C11r56 => k_asm); (case zit_C11r56 => k_asm); (case zdK_C11r56 => k_asm); (case zdS_C11r56 => k_asm); (case zb_C11r56 => k_asm); (case zI_C11r56 => k_asm); (case zS_C11r56 => k_asm); (case zK_C11r56 => k_asm); (case zc_C11r56 => k_asm); (case ztc_C11r56 => k_asm); (case zt_C11r56 => k_asm); (case zcell_C11r56 => k_asm); (case zr_C11r56 => k_asm); (case zD_C11r56 => exact rfl); (case zws_C11r56 => k_asm); (case zz_C11r56 => k_asm); (case zk_C11r56 => k_asm)); (case zl1_C11r56 => k_asm); (case zl2_C11r56 => k_asm); (case zl3_C11r56 => k_asm); (case zh1_C11r56 => (dsimp only; exact ⟨by k_ne, by k_ne, by k_ne, by k_ne⟩)); (case zh2_C11r56 => (dsimp only; exact ⟨by k_ne, by k_ne, by k_ne, by k_ne⟩)); (case zh3_C11r56 => (dsimp only; exact ⟨by k_ne, by k_ne, by k_ne, by k_ne⟩)); (case zmK_C11r56 => k_dflt ((try dsimp only); k_extra "m:my_var")); (case zmS_C11r56 => k_dflt ((try dsimp only); k_extra "m:my_var")))
  k_with "m:exec For Tuple Tuple cons nil" => (k_here; k_dflt (refine' For_turns ?zF_FT2 ?_ ?zh_FT2 ?zE_FT2; (case zF_FT2 => k_asm); (case zh_FT2 => exact fun _ => rfl); (case zE_FT2 => passes_own); k_whole))
  trivial

set_option maxRecDepth 100000 in
set_option maxHeartbeats 8000000 in
theorem table_ok (w : World) : Pure w 3 247 [] (TableOut Challenge.rw_qz0048_01.row.prog w) := by
  w_top off
  dsimp only [FnG, Pure]; k_fill; intros; rename_i hret
  cell_enter
  k_steps
  all_goals (try dsimp only)
  refine' Exists.elim (table_out ?zN ?zdK ?zdS ?zk ?zz ?zys ?zrS ?zrK ?zo1 ?zo2 ?zK1 ?zK2 ?zne ?z1 ?zl ?zs9 ?zk9) (fun ns hns => hret _ ns _ _ (Fr.keep (by assumption)) hns.1 hns.2)
  case zN => assumption
  case zdK => assumption
  case zdS => assumption
  case zk => assumption
  case zz => assumption
  case zys => assumption
  case zrS => assumption
  case zrK => assumption
  case zo1 => assumption
  case zo2 => assumption
  case zK1 => assumption
  case zK2 => assumption
  case zne => assumption
  case z1 => assumption
  case zl => exact ⟨by assumption, by assumption, by assumption, by assumption, by assumption, by assumption⟩
  case zs9 => assumption
  case zk9 => assumption

end Mine
end
section
theorem Mine.none_Loop3 : True := by
  k_with_none
  w_top off
  trivial
set_option maxRecDepth 100000
open PySem PySem.W PySem.Calls PyProof.Rows PySem.SeqAt
namespace Mine
section
variable {prog : Program} {w : World} {A : Around} {E : Value → Shared → Prop} {s : Shared} {h₀ : Heap} {env : Env} {body : List Stmt} {Q : Flow → Shared → Prop}
theorem iter_rangeTurns {x : Str} {px : Pos} {r : Addr} {a b : Int} {t u v : Tok} {n : Nat} {m₀ : Str → Option Value} {news : List (Addr × Obj)} (hh : A.handled = none) (F : Fr h₀ env.locals s.heap m₀) (N : News h₀ env.locals s.heap news)
    (hr : IsRange s.heap r a b 1 t u v) (hsm : Builtin.Range.small a b 1 = true) (hn : Builtin.Range.rangeSize a b 1 = ((n : Nat) : Int))
    (rest₀ : ∀ I : Addr, (∀ p ∈ news, p.1 < I) → ItemsRest prog w A E h₀ env (.Name x px) body Q s [(I, "range_iterator")] [] ((List.range n).map fun (i : Nat) => .tok fun t => .int (a + (i : Int)) t) m₀ news) :
    wpAny (model prog w) A (pyIter (.ref r)) (fun it s₂ => TurnsAt prog w A h₀ env (.Name x px) body Q E it s₂) E s := by
  refine wpAny_pyIter_range hr hsm ?_
  refine ktu_core (tk0 := s.toks) (keep := []) (KTurns.ofWalks (LCg.range_walks (I := s.heap.objs.size) hh a n).bound fun i v s Q E st q => wpAny_pure q) (by simp) (fun i v h hp => ?_) (fun i h st => ?_) (fun b hb => ?_) (fun b hb => by simpa using hb) (fun b hb => ?_) ?_ (fun p hp hI => ?_) ?_ (F.push _) (fun p hp => ⟨Heap.get?_push_of_some _ (N p hp).1, (N p hp).2⟩) trivial (rest₀ _ fun p hp => Heap.lt_size (N p hp).1)
  · have hi : i < n := by
      obtain ⟨hi, _⟩ := hp
      exact hi
    obtain ⟨_, t, rfl⟩ := hp
    exact ⟨.tok fun t => .int (a + (i : Int)) t, by simp [hi], t, rfl⟩
  · exact ⟨[(s.heap.objs.size, _)], ⟨⟨rfl, rfl⟩, trivial⟩, fun p hp => by rw [List.mem_singleton.mp hp]; exact st⟩
  · have hb' : b = s.heap.objs.size := by simpa using hb
    rw [hb']
    exact ⟨List.mem_cons_self .., next_is_new F⟩
  · exact .inl (by simpa using hb)
  · intro hI
    exact absurd F.ns.lt ((List.mem_singleton.mp hI) ▸ Nat.lt_irrefl _)
  · exact absurd (Heap.lt_size (N p hp).1) ((List.mem_singleton.mp hI) ▸ Nat.lt_irrefl _)
  · show IsRangeIter _ _ _ _ _
    rw [hn]; simpa using Heap.get?_push_size _ rfl
/-- a loop over a range by an invariant on frame and ledger -/
theorem iter_rangeJ {x : Str} {px : Pos} {r : Addr} {a b : Int} {t u v : Tok} {n : Nat} {m₀ : Str → Option Value} {news : List (Addr × Obj)} (hh : A.handled = none) (F : Fr h₀ env.locals s.heap m₀) (N : News h₀ env.locals s.heap news)
    (hr : IsRange s.heap r a b 1 t u v) (hsm : Builtin.Range.small a b 1 = true) (hn : Builtin.Range.rangeSize a b 1 = ((n : Nat) : Int)) (J : Addr → Nat → (Str → Option Value) → List (Addr × Obj) → Prop) (h0 : ∀ I : Addr, (∀ p ∈ news, @LT.lt Nat _ p.1 I) → J I 0 m₀ news)
    (turn : ∀ (I : Addr) (i : Nat) (t : Tok) (it : Obj) (m : Str → Option Value) (nw : List (Addr × Obj)) (h : Heap) (tk : Nat), (∀ p ∈ news, @LT.lt Nat _ p.1 I) → i < n → it.cls = .type "range_iterator" → J I i m nw → Fr h₀ env.locals h m → News h₀ env.locals h ((I, it) :: nw) →
      wpAny (model prog w) A (assign (.Name x px) env (.int (a + (i : Int)) t)) (fun _ s₂ => wpAny (model prog w) A (execs body env) (UnrPostW h₀ env.locals { s with heap := h, toks := tk } [(I, it)] (J I (i + 1)) Q) E s₂) E { s with heap := h, toks := tk })
    (fin : ∀ (I : Addr) (m : Str → Option Value) (nw : List (Addr × Obj)) (h : Heap) (tk : Nat), J I n m nw → Fr h₀ env.locals h m → News h₀ env.locals h nw → Q .next { s with heap := h, toks := tk }) :
    wpAny (model prog w) A (pyIter (.ref r)) (fun it s₂ => TurnsAt prog w A h₀ env (.Name x px) body Q E it s₂) E s := by
  refine iter_rangeTurns hh F N hr hsm hn fun I hI => ?_
  refine items_J (keep := []) (J := J I) (all := (List.range n).map fun (i : Nat) => .tok fun t => .int (a + (i : Int)) t) (fun _ _ _ _ => trivial) ?_ ?_ _ 0 m₀ news rfl (Nat.zero_le _) (h0 I hI)
  · intro i a' v h tk m nw hi hv hj F1
    rw [List.getElem?_map] at hi
    cases e : (List.range n)[i]? with
    | none => rw [e] at hi; cases hi
    | some k =>
      rw [e] at hi
      obtain ⟨hlt, ek⟩ := List.getElem?_eq_some_iff.mp e
      rw [List.getElem_range] at ek
      subst ek
      have ea := Option.some.inj hi
      subst ea
      obtain ⟨t, rfl⟩ := hv
      refine AllObj.cons fun it hit => AllObj.nil ?_
      intro N1
      exact turn I i t it m nw h tk hI (by simpa using hlt) hit hj F1 N1
  · intro m nw h tk hj F1 N1
    rw [List.length_map, List.length_range] at hj
    exact fin I m nw h tk hj F1 N1
end
end Mine
end
section
theorem Mine.none_Exc4 : True := by
  k_with_none
  w_top off
  trivial
set_option maxRecDepth 100000
open PySem PySem.W PySem.Calls PyProof.Rows
namespace Mine
section
variable {M : Model} {A : Around} {E : Value → Shared → Prop} {s' : Shared} {base g g₂ : Heap} {outer : List Env} {L e t : Addr} {m : Str → Option Value} {env : Env} {Q : Unit → Shared → Prop} {news : List (Addr × Obj)}
/-- an exception that flies through a frame -/
theorem leave_onE {cls : Value} {vs : List Value} (K : Below A base outer g) (F : Fr g L g₂ m) (R : RaisedS base g₂ (env :: outer) e cls t vs news s'.heap) (hsm : g₂.UpToSlots s'.heap)
    (hQ : ∀ h', RaisedS base g outer e cls t vs news h' → RaisedK base outer e cls t vs news h' → g.UpToSlots h' → Q () { s' with heap := h' }) (hf : env.frame = some L) :
    wpAny M (A.deeper env) (leaving env (.ref e)) Q E s' := by
  obtain ⟨⟨B, hB, hBG, hl, hfl, hnew⟩, htup⟩ := R
  exact wpAny_leaves_onW (Around.frames_deeper K.stack) hf hfl fun h' x1 x2 =>
    have R : RaisedS base g outer e cls t vs news h' := ⟨⟨B, hB, fun b o q nm => hBG b o (F.keep b o q) (fun hm => by
      rcases mem_env hf hm with z | z
      · rw [z, kts_self F] at q
        cases q
      · exact nm z), fun q hq => ⟨(hl q hq).1, kts_none F.keep (hl q hq).2.1, (hl q hq).2.2⟩, x1, hnew⟩, htup.of_slots x2⟩
    hQ h' R R.toK ((Heap.UpToSlots.of_keeps F.keep).trans (hsm.trans x2))
end
end Mine
end
section
theorem Mine.none_Num : True := by
  k_with_none
  w_top off
  trivial
set_option maxRecDepth 100000
open PySem PySem.W PySem.Calls PyProof.Rows
namespace Mine
/-- what a callable without arguments does, where the objects us stand -/
abbrev AskG (w : World) (lv : Nat) (fa : Addr) (us : List (Addr × Obj)) (ok : Prop) (P : Value → List (Addr × Obj) → Prop) (C : Addr) : Prop :=
  ∀ (p : Program) (loose : List Str) (mean : ExcName → Option Value) (mg mb : Str → Option Value) (dp un : Nat) (gd : Option (List Code)) (outer : List Env) (base g : Heap) (s : Shared) (R : Result → Shared → Prop),
    (∀ u ∈ us, g.get? u.1 = some u.2) → Below (A0 dp un gd outer) base outer g → (Mine.hd.heap_39 w.params).In g → Top p loose mean mg mb g → g.StaysIn s.heap → g.objs.size ≤ s.heap.objs.size →
    dp + 2 * lv < recursionLimit → un + 10 * lv + 100 < cLine →
    ((ok → ∀ v ns h' tk', g.StaysIn h' → New g h' ns → P v ns → R (.ok (.ret v)) { s with heap := h', toks := tk' }) ∧
    (¬ ok → ∀ e t ws h' tk', RaisedS base g outer e (.ref C) t ws [] h' → RaisedK base outer e (.ref C) t ws [] h' → g.UpToSlots h' → R (.error (.ref e)) { s with heap := h', toks := tk' })) →
    codeAny (model Challenge.rw_qz0048_01.row.prog w) (A0 dp un gd outer) (.call (.ref fa) ⟨[], []⟩) R s
/-- a def that catches, where the objects us stand -/
abbrev FnTU (w : World) (lv : Nat) (f : Addr) (vs : List Value) (us : List (Addr × Obj)) (P : Value → List (Addr × Obj) → Prop) : Prop :=
  ∀ (p : Program) (loose : List Str) (mean : ExcName → Option Value) (mg mb : Str → Option Value) (dp un : Nat) (gd : Option (List Code)) (outer : List Env) (base g : Heap) (s : Shared) (R : Result → Shared → Prop),
    (∀ u ∈ us, g.get? u.1 = some u.2) → (∀ u ∈ ([] : List (Addr × Obj)), s.heap.get? u.1 = some u.2 ∧ g.get? u.1 = none) → (Mine.hd.heap_39 w.params).In base → Top p loose mean mg mb base → KtsDicts (outer.filterMap (·.frame)) g →
    Below (A0 dp un gd outer) base outer g → (Mine.hd.heap_39 w.params).In g → Top p loose mean mg mb g → g.StaysIn s.heap → g.objs.size ≤ s.heap.objs.size →
    dp + 2 * lv < recursionLimit → un + 10 * lv + 100 < cLine → (∀ v g' h' tk', KtsTurn (outer.filterMap (·.frame)) g g' → g'.StaysIn h' → P v [] → R (.ok (.ret v)) { s with heap := h', toks := tk' }) →
    codeAny (model Challenge.rw_qz0048_01.row.prog w) (A0 dp un gd outer) (.call (.ref f) ⟨vs, []⟩) R s
section
variable {prog : Program} {w : World} {s : Shared} {base g : Heap} {outer : List Env} {K : Frag} {dp un : Nat} {gd : Option (List Code)}
  {p : Program} {loose : List Str} {mean : ExcName → Option Value} {mg mb : Str → Option Value}
  {R : Result → Shared → Prop} {name qual : Str} {params : Arguments} {body : PySem.Expr} {scope : Scope} {cl : List (Str × Addr)} {pm ctv : Value} {c' f : Addr} {args : Args} {binds : List (Str × Value)}
theorem enterL (T : Top p loose mean mg mb g) (hg : g.StaysIn s.heap) (hz : g.objs.size ≤ s.heap.objs.size)
    (ho : g.get? f = some (kla_obj name qual params body scope cl pm c' ctv)) (hcd : g.CodeRec (.ref c') qual) (hroom : dp < recursionLimit)
    (hbind : bindArgs (kla_fn name qual params body scope cl pm (.ref c') ctv) args = pure binds) (hloc : ∀ y ∈ binds, scope.names.lookup y.1 = some .local)
    (h : ∀ L' h₁, Fr g L' h₁ (fun y => binds.reverse.lookup y) → News g L' h₁ [] →
      wpAny (model prog w) ((A0 dp un gd outer).deeper (envX qual scope L' f (.ref c') cl)) (eval body (envX qual scope L' f (.ref c') cl))
        (fun v s' => R (.ok (.ret v)) s')
        (fun e s' => wpAny (model prog w) ((A0 dp un gd outer).deeper (envX qual scope L' f (.ref c') cl)) (leaving (envX qual scope L' f (.ref c') cl) e) (fun _ s'' => R (.error e) s'') (fun e' s'' => R (.error e') s'') s')
        { s with heap := h₁, toks := s.toks + binds.length })
    (hco : scope.isCoroutine = false) (hgen : scope.isGenerator = false) (hk : scope.kind = .function)
    (hcell : ∀ x ∈ scope.names, x.2 ≠ .cell) : codeAny (model prog w) (A0 dp un gd outer) (.call (.ref f) args) R s := by
  have hcd' : s.heap.CodeRec (.ref c') qual := by
    obtain ⟨c₂, oc, vs, t, e2, hoc, hd, hv⟩ := hcd
    exact ⟨c₂, oc, vs, t, e2, hg _ _ hoc, hd, hv⟩
  refine kla_callFunE hroom (hg _ _ ho) rfl hco hgen rfl hcd' ?_
  rw [hbind]
  refine wpAny_pure (wpAny_newFunctionEnv hcell hloc (fun h₁ hns hsb => ⟨((T.nolimit).keeps hg).fresh _ hsb, ?_⟩) hk)
  show codeAny _ _ (.expr body (envX qual scope s.heap.objs.size f (.ref c') cl)) _ _
  have hk₁ : ∀ b o, s.heap.get? b = some o → h₁.get? b = some o := fun b o e => hsb.extBut b o (Nat.ne_of_lt (Heap.lt_size e)) (Heap.get?_push_of_some _ e)
  exact kla_codeExpr (h s.heap.objs.size h₁ ⟨hns, fun b o e => hk₁ b o (hg _ _ e), hz⟩ (fun _ hp => nomatch hp))
end
section
variable {M : Model} {A : Around} {E : Value → Shared → Prop} {s : Shared} {h₀ : Heap} {L a : Addr} {m : Str → Option Value} {cn : Str} {cs : Scope} {ccd : Value} {cl : List (Str × Addr)} {x : Str} {pos : Pos} {v : Value} {Q : Value → Shared → Prop} {c : Addr}
/-- a free name whose cell stands -/
theorem nameX_G {o : Obj} (F : Fr h₀ L s.heap m) (hc : cl.lookup x = some c) (hv : h₀.get? c = some o) (hd : o.data = .cell (some v)) (h : Q v s)
    (hk : cs.kind = .function := by rfl) (hx : (envX cn cs L a ccd cl).kindOf x = some .free := by rfl) (hb : (x == ("__debug__" : Str)) = false := by decide) (hn : (x == ("__classdict__" : Str)) = false := by decide) :
    wpAny M A (eval (.Name x pos) (envX cn cs L a ccd cl)) Q E s := wpAny_Name (wpAny_loadName_free hk hx hc ⟨_, F.keep _ _ hv, hd⟩ h hn) hb
end
section
variable {w : World} {s : Shared} {A A₀ : Around} {base h₀ : Heap} {outer : List Env} {L : Addr} {m : Str → Option Value} {env : Env} {news us : List (Addr × Obj)} {Q E : Value → Shared → Prop}
  {p : Program} {loose : List Str} {mean : ExcName → Option Value} {mg mb : Str → Option Value} {dp un : Nat} {gd : Option (List Code)} {f : Addr} {lv : Nat}
theorem callAsk {ok : Prop} {P : Value → List (Addr × Obj) → Prop} {C : Addr} (H : AskG w lv f us ok P C) (hus : ∀ u ∈ us, h₀.get? u.1 = some u.2) (B : Below A₀ base outer h₀) (F : Fr h₀ L s.heap m) (X : (Mine.hd.heap_39 w.params).In h₀) (N : News h₀ L s.heap news) (T : Top p loose mean mg mb h₀)
    (hA : A = A0 dp un gd (env :: outer)) (hf : env.frame = some L) (hke : env.scope.kind = .function) (hd : dp + 2 * lv < recursionLimit) (hun : un + 10 * lv + 100 < cLine)
    (h : ok → ∀ v ns h' tk', P v ns → Fr h₀ L h' m → News h₀ L h' (ns ++ news) → (∀ q ∈ ns, ∀ p ∈ news, p.1 ≠ q.1) → Q v { s with heap := h', toks := tk' })
    (h2 : ¬ ok → ∀ e t ws h' tk', RaisedS base s.heap (env :: outer) e (.ref C) t ws [] h' → RaisedK base (env :: outer) e (.ref C) t ws [] h' → s.heap.UpToSlots h' → E (.ref e) { s with heap := h', toks := tk' }) :
    wpAny (model Challenge.rw_qz0048_01.row.prog w) A (call (.ref f) []) Q E s := by
  subst hA
  refine wpAny_call (H p loose mean mg mb dp un gd (env :: outer) base s.heap s _ (fun u hu => F.keep _ _ (hus u hu)) (groundS B F hf hke) (X.keeps F.keep) (T.keeps F.keep) (fun _ _ e => e) (Nat.le_refl _) hd hun ⟨?_, ?_⟩)
  · intro ho v ns h' tk' hk Nn hP
    exact h ho v ns h' tk' hP (F.after hk) (News.new F N hk Nn) (New.apart N Nn)
  · intro hn e t ws h' tk' R R' U
    exact h2 hn e t ws h' tk' R R' U
end
/-- a name told, or None -/
def ToldP (ok : Prop) (nm : Str) (v : Value) : Prop := (ok ∧ ∃ t, v = .str nm t) ∨ (¬ ok ∧ v = .none)
theorem fnAt_of {h₀ h : Heap} {L fa : Addr} {m : Str → Option Value} {us : List (Addr × Obj)} (F : Fr h₀ L h m) (hus : ∀ u ∈ us, h₀.get? u.1 = some u.2) (hfn : ∃ o fd, (fa, o) ∈ us ∧ o.data = .func fd) : FnAt fa h := by
  obtain ⟨⟨oc, od, d, sl⟩, fd, hm, hd⟩ := hfn
  have hd' : d = .func fd := hd
  subst hd'
  exact ⟨oc, od, fd, sl, F.keep _ _ (hus _ hm)⟩
end Mine
end
section
open PySem PySem.W PySem.Calls PyProof.Rows
namespace Mine
theorem rows_C16_1 : True := by
  k_with_none
  k_with "m:on" => skip
  k_with "m:klt" => (intro l0; replace l0 := allLt_of l0; dsimp only [AllLt] at l0; (repeat (have := And.left l0; replace l0 := And.right l0)); revert l0)
  k_with "m:ktr_room" => k_dflt (first | exact rm1 (by with_reducible assumption) rfl | exact rm2 (by with_reducible assumption) rfl | exact rm3 (by with_reducible assumption) rfl)
  k_with "m:ktr_units" => k_dflt (first | exact un0 (by with_reducible assumption) rfl | exact un1 (by with_reducible assumption) rfl | exact un2 (by with_reducible assumption) rfl | exact un3 (by with_reducible assumption) rfl)
  k_with "m:k_ne" => (refine neN ?_; (try dsimp only); first | with_reducible assumption | exact Ne.symm (by with_reducible assumption) | exact Nat.ne_of_lt (by with_reducible assumption) | exact Nat.ne_of_gt (by with_reducible assumption) | lia)
  k_with "m:cell_enter" => (refine' enterGC ?zk1_C16r1 ?zk2_C16r1 ?zk3_C16r1 ?zk4_C16r1 ?zk5_C16r1 ?zk6_C16r1 ?zk7_C16r1 ?zk8_C16r1 ?zk9_C16r1 ?zkB_C16r1 ?zkD_C16r1 ?_ ?zc2_C16r1 ?zc3_C16r1 ?zc4_C16r1; (case zk1_C16r1 => k_asm); (case zk2_C16r1 => k_asm); (case zk3_C16r1 => k_asm); (case zk4_C16r1 => k_asm); (case zk5_C16r1 => k_asm); (case zk6_C16r1 => k_is); (case zk7_C16r1 => k_is); (case zk8_C16r1 => lia); (case zk9_C16r1 => first | exact BindsTo.of_eq rfl | exact binds_K (by k_in) rfl (by k_is) rfl rfl rfl); (case zkB_C16r1 => exact rfl); (case zkD_C16r1 => decide +kernel); (case zc2_C16r1 => exact rfl); (case zc3_C16r1 => exact rfl); (case zc4_C16r1 => exact rfl); k_whole; intro L' h' tk' cells' F' N' Y' l1; (try k_lt l1); k_cells Y'; (try simp only [List.cons_append, List.nil_append, List.append_nil] at N'); (try dsimp only); (try k_fold))
  k_with "m:cell_enter" => (first | (refine' enterG ?zk1_C16r2 ?zk2_C16r2 ?zk3_C16r2 ?zk4_C16r2 ?zk5_C16r2 ?zk6_C16r2 ?zk7_C16r2 ?zk8_C16r2 ?zk9_C16r2 ?zkB_C16r2 ?_ ?zc2_C16r2 ?zc3_C16r2 ?zc4_C16r2 ?zc5_C16r2; (case zk1_C16r2 => k_asm); (case zk2_C16r2 => k_asm); (case zk3_C16r2 => k_asm); (case zk4_C16r2 => k_asm); (case zk5_C16r2 => k_asm); (case zk6_C16r2 => k_is); (case zk7_C16r2 => k_is); (case zk8_C16r2 => lia); (case zk9_C16r2 => first | exact BindsTo.of_eq rfl | exact binds_K (by k_in) rfl (by k_is) rfl rfl rfl); (case zc5_C16r2 => decide); (case zkB_C16r2 => exact locs rfl); (case zc2_C16r2 => exact rfl); (case zc3_C16r2 => exact rfl); (case zc4_C16r2 => exact rfl); k_whole; intro L' h' F' N' l1; (try k_lt l1); (try dsimp only); (try k_fold)) | fail)
  k_with "m:exec Raise some none" => (k_here; (with_reducible show wpAny _ _ (exec (Stmt.Raise (some (Expr.Call (Expr.Name _ _) _ _ _)) none _) _) _ _ _); k_dflt (refine Raise_mint (by exact rfl) ?_))
  k_with "m:call ref" => (k_here; (with_reducible show wpAny _ _ (call (Value.ref _) [Value.str _ _]) (RaisedO _) _ _); k_dflt (refine' mint_callN PySem.F.excBase_Exception ?zX_C16r4 ?zF_C16r4 ?zN_C16r4 ?zC_C16r4 ?zi_C16r4 ?zf_C16r4 ?zc_C16r4 ?_; (case zX_C16r4 => k_asm); (case zF_C16r4 => k_asm); (case zN_C16r4 => k_asm); (case zC_C16r4 => k_is); (case zi_C16r4 => k_is); (case zf_C16r4 => k_is); (case zc_C16r4 => rfl); k_whole); intro e' t' h' F' N' l1 l2; (try k_lt l1); (try k_lt2 l2); k_dflt (refine wpAny_call ?_; k_enter))
  k_with "m:getMethod type:Exception" => (k_here; refine' method_type ?zF_C16r5 ?zX_C16r5 ?zm_C16r5 (by decide +kernel) ?ze_C16r5 ?zh_C16r5 ?_; (case zF_C16r5 => k_asm); (case zX_C16r5 => k_asm); (case zm_C16r5 => exact meta_Exception); (case ze_C16r5 => k_dflt k_is); (case zh_C16r5 => k_handed))
  k_with "m:call builtin:Exception.__init__" => (k_here; k_dflt (refine' exc_initN' PySem.F.excBase_Exception ?zC_C16r6 ?zF_C16r6 ?zN_C16r6 ?zh2_C16r6 ?_; (case zF_C16r6 => k_asm); (case zN_C16r6 => k_asm); (case zC_C16r6 => exact Frag.In.keeps (by k_asm) (Fr.keep (by k_asm)) _ _ (by k_is)); (case zh2_C16r6 => k_all); k_whole); intro D' h' F' N' l1; (try simp only [List.nil_append] at F' N' l1); (try k_lt l1))
  k_with "m:setAttr ref" => (k_here; k_dflt (refine' exc_set2 ?zF_C16r7 ?zX_C16r7 ?zN_C16r7 ?ze_C16r7 ?zU_C16r7 ?zs_C16r7 ?zc_C16r7 ?zm_C16r7 ?zd_C16r7 ?zt_C16r7 ?zn_C16r7 ?zq_C16r7 ?zz_C16r7 ?_; (case zF_C16r7 => k_asm); (case zX_C16r7 => k_asm); (case zN_C16r7 => k_asm); (case ze_C16r7 => k_mem); (case zU_C16r7 => k_upd); (case zs_C16r7 => k_is); (case zc_C16r7 => k_is); (case zm_C16r7 => rfl); (case zd_C16r7 => rfl); (case zt_C16r7 => k_is); (case zn_C16r7 => rfl); (case zq_C16r7 => rfl); (case zz_C16r7 => exact Nat.le_of_ble_eq_true rfl); k_whole); intro h' tk' F' N')
  k_with "m:setAttr ref" => (k_here; k_dflt (refine' exc_set1' ?zF_C16r8 ?zX_C16r8 ?zN_C16r8 ?zh1_C16r8 ?zh2_C16r8 ?zs_C16r8 ?zc_C16r8 ?zm_C16r8 ?zd_C16r8 ?zt_C16r8 ?_; (case zF_C16r8 => k_asm); (case zX_C16r8 => k_asm); (case zN_C16r8 => k_asm); (case zh1_C16r8 => k_ne); (case zh2_C16r8 => k_all); (case zs_C16r8 => k_is); (case zc_C16r8 => k_is); (case zm_C16r8 => rfl); (case zd_C16r8 => rfl); (case zt_C16r8 => k_is); k_whole); intro D' h' tk' F' N' l1; (try simp only [List.cons_append, List.nil_append] at F' N' l1); (try k_lt l1))
  k_with "m:RaisedO" => (k_dflt (refine' raisedO_of ?zX_C16r9 ?zF_C16r9 ?zN_C16r9 ?ze_C16r9 ?zC_C16r9 ?zb_C16r9 ?_; (case zX_C16r9 => k_asm); (case zF_C16r9 => k_asm); (case zN_C16r9 => k_asm); (case ze_C16r9 => k_mem); (case zC_C16r9 => k_is); (case zb_C16r9 => rfl); k_whole))
  k_with "m:leaving ref" => (k_here; k_dflt (refine' leave_mint4 ?zK_C16r10 ?zF_C16r10 ?zN_C16r10 ?zh1_C16r10 ?zh2_C16r10 ?_; (case zK_C16r10 => k_asm); (case zF_C16r10 => k_asm); (case zN_C16r10 => k_asm); (case zh1_C16r10 => k_all); (case zh2_C16r10 => k_all); k_whole); intro h' R' RK' U'; (try dsimp only at R' RK' U' ⊢))
  k_with "m:call ref" => (k_here; (with_reducible show wpAny _ _ (call (Value.ref _) []) _ _ _); (with_reducible rename AskG _ _ _ _ _ _ _ => hAsk); k_dflt (refine' callAsk hAsk ?zus_C16r11 ?zB_C16r11 ?zF_C16r11 ?zX_C16r11 ?zN_C16r11 ?zT_C16r11 ?zA_C16r11 ?zf_C16r11 ?zk_C16r11 ?zd_C16r11 ?zu_C16r11 ?_ ?_; (case zus_C16r11 => k_asm); (case zF_C16r11 => k_asm); (case zB_C16r11 => k_asm); (case zX_C16r11 => k_asm); (case zN_C16r11 => k_asm); (case zT_C16r11 => k_asm); (case zA_C16r11 => exact rfl); (case zf_C16r11 => exact rfl); (case zk_C16r11 => exact rfl); (case zd_C16r11 => ktr_room); (case zu_C16r11 => ktr_units); k_whole; (all_goals first | (intro hz v' ns' h' tk' P' F' N' l1; obtain ⟨x', d', u1, u2, u3, u4, u5, u6, u7, u8, e1, e2, hx'⟩ := P'; subst e1 e2; clear l1; (try simp only [List.cons_append, List.nil_append] at N')) | (intro hz e' t' ws' h' tk' R' RK' U'))))
  k_with "m:noteFrame ref" => (k_here; k_dflt (refine' caught_SO0 ?zR_C16r12 ?zF_C16r12 ?zK_C16r12 ?zU_C16r12 ?zXB_C16r12 ?zTB_C16r12 ?zD_C16r12 ?zT0_C16r12 ?zex_C16r12 ?zq_C16r12 ?_; (case zR_C16r12 => k_asm); (case zF_C16r12 => k_asm); (case zK_C16r12 => k_asm); (case zU_C16r12 => k_asm); (case zXB_C16r12 => k_asm); (case zTB_C16r12 => k_asm); (case zD_C16r12 => k_asm); (case zT0_C16r12 => exact KtsTurn.refl); (case zex_C16r12 => k_is); (case zq_C16r12 => k_is); k_whole); intro h' g' news' T' F' N' G' N2' K' X' P' D')
  k_with "m:callWith ref nil nil" => (k_here; k_dflt (refine' callWith_F0 ?zX_C16r13 ?_; (case zX_C16r13 => (refine' fnAt_of ?z1_C16r13 ?z2_C16r13 ?z3_C16r13; (case z1_C16r13 => k_asm); (case z2_C16r13 => k_asm); (case z3_C16r13 => k_asm)))); (with_unfolding_all show wpAny _ _ (call (Value.ref _) []) _ _ _))
  trivial

set_option maxRecDepth 100000 in
set_option maxHeartbeats 4000000 in
theorem name_ok (w : World) (fa : Addr) (t : Tok) (us : List (Addr × Obj)) (ok : Prop) (nm kd : Str) (k n : Int) (hfn : ∃ o fd, (fa, o) ∈ us ∧ o.data = .func fd) (hAsk : AskG w 7 fa us ok (RegOut w.params nm kd k n) 71) :
    FnTU w 9 254 [.ref fa] us (fun v _ => ToldP ok nm v) := by
  w_top off
  dsimp only [FnTU]; k_fill; intros; rename_i hret
  cell_enter
  k_steps
  all_goals (try dsimp only)
  · exact hret _ _ _ _ KtsTurn.refl (Fr.keep (by assumption)) (.inl ⟨by assumption, _, rfl⟩)
  · exact hret _ _ _ _ (by assumption) (Fr.keep (by assumption)) (.inr ⟨by assumption, rfl⟩)

end Mine
end
section
theorem Mine.none_Num2 : True := by
  k_with_none
  w_top off
  trivial
set_option maxRecDepth 100000
open PySem PySem.W PySem.Calls PyProof.Rows
namespace Mine
def DictData (o : Obj) : Prop := ∃ es n, o.data = .dict es n
/-- a def called from the one frame that stands; that frame is beside the ground -/
abbrev FnN (w : World) (lv : Nat) (f : Addr) (vs : List Value) (us : List (Addr × Obj)) (P : Value → Prop) : Prop :=
  ∀ (p : Program) (loose : List Str) (mean : ExcName → Option Value) (mg mb : Str → Option Value) (dp un : Nat) (gd : Option (List Code)) (le : Env) (Ll : Addr) (oLl : Obj) (g : Heap) (s : Shared) (R : Result → Shared → Prop),
    le.frame = some Ll → le.scope.kind = .function → DictData oLl → CodeHd g 258 256 → (Mine.hd.heap_39 w.params).In g → Top p loose mean mg mb g → g.StaysIn s.heap → g.objs.size ≤ s.heap.objs.size → (∀ u ∈ us, u.1 ≠ Ll) → (∀ u ∈ (Ll, oLl) :: us, s.heap.get? u.1 = some u.2 ∧ g.get? u.1 = none) →
    dp + 2 * lv < recursionLimit → un + 10 * lv + 100 < cLine → (∀ v oLl' h' tk', oLl'.data = oLl.data → h'.get? Ll = some oLl' → g.StaysIn h' → P v → GrownAt 256 h' → R (.ok (.ret v)) { s with heap := h', toks := tk' }) →
    codeAny (model Challenge.rw_qz0048_01.row.prog w) (A0 dp un gd [le]) (.call (.ref f) ⟨vs, []⟩) R s
section
variable {w : World} {s : Shared} {A : Around} {h₀ : Heap} {L Ll : Addr} {m : Str → Option Value} {env le : Env} {news us : List (Addr × Obj)} {Q E : Value → Shared → Prop}
  {p : Program} {loose : List Str} {mean : ExcName → Option Value} {mg mb : Str → Option Value} {dp un : Nat} {gd : Option (List Code)} {f : Addr} {vs : List Value} {lv : Nat} {oLl : Obj}
theorem callName {P : Value → List (Addr × Obj) → Prop} (H : FnTU w lv f vs us P) (hle : le.frame = some Ll) (hlk : le.scope.kind = .function) (hdd : DictData oLl) (F : Fr h₀ L s.heap m) (X : (Mine.hd.heap_39 w.params).In h₀) (T : Top p loose mean mg mb h₀)
    (N : News h₀ L s.heap ((Ll, oLl) :: news)) (hoff : ∀ q ∈ news, q.1 ≠ Ll) (hus : ∀ u ∈ us, u ∈ news)
    (hA : A = A0 dp un gd [env, le]) (hf : env.frame = some L) (hke : env.scope.kind = .function) (hd : dp + 2 * lv < recursionLimit) (hun : un + 10 * lv + 100 < cLine)
    (h : ∀ v oLl' h' tk', P v [] → oLl'.data = oLl.data → Fr h₀ L h' m → News h₀ L h' ((Ll, oLl') :: news) → Q v { s with heap := h', toks := tk' }) :
    wpAny (model Challenge.rw_qz0048_01.row.prog w) A (call (.ref f) vs) Q E s := by
  subst hA
  have NL := N (Ll, oLl) (.head _)
  obtain ⟨es, en, hde⟩ := hdd
  obtain ⟨oL, es', en', hoL, hdL, hkL⟩ := F.ns
  have hL0 : h₀.get? L = none := kts_self F
  have fsE : ([env, le].filterMap (·.frame)) = [L, Ll] := by simp [hf, hle]
  refine wpAny_call (H p loose mean mg mb dp un gd [env, le] h₀ s.heap s _ (fun u hu => (N _ (.tail _ (hus u hu))).1) (fun _ hp => nomatch hp) X T ?_ ⟨rfl, F.keep, ?_⟩ (X.keeps F.keep) (T.keeps F.keep) (fun _ _ e => e) (Nat.le_refl _) hd hun ?_)
  · rw [fsE]
    intro b hb
    rcases List.mem_cons.mp hb with rfl | hb
    · exact ⟨oL, es', en', hoL, hdL⟩
    · rw [List.mem_singleton.mp hb]
      exact ⟨oLl, es, en, NL.1, hde⟩
  · refine ⟨by rw [hke]; decide, ⟨L, oL, hf, hL0, hoL, fun vs q => ?_⟩, by rw [hlk]; decide, ⟨Ll, oLl, hle, NL.2.2, NL.1, fun vs q => ?_⟩, trivial⟩
    · rw [hdL] at q; cases q
    · rw [hde] at q; cases q
  · intro v g' h' tk' hT hk hP
    rw [fsE] at hT
    obtain ⟨sl, e1⟩ := hT.frame Ll oLl NL.1 (by simp)
    obtain ⟨sL, e2⟩ := hT.frame L oL hoL (by simp)
    refine h v { oLl with slots := sl } h' tk' hP rfl ⟨⟨_, es', en', hk _ _ e2, hdL, hkL⟩, fun b o e => hk _ _ (hT.other b o (F.keep _ _ e) ?_), F.above⟩ ?_
    · intro hm
      simp only [List.mem_cons, List.not_mem_nil, or_false] at hm
      rcases hm with rfl | rfl
      · rw [hL0] at e; cases e
      · rw [NL.2.2] at e; cases e
    · intro q hq
      rcases List.mem_cons.mp hq with rfl | hq
      · exact ⟨hk _ _ e1, NL.2⟩
      · have Nq := N q (.tail _ hq)
        refine ⟨hk _ _ (hT.other _ _ Nq.1 ?_), Nq.2⟩
        intro hm
        simp only [List.mem_cons, List.not_mem_nil, or_false] at hm
        rcases hm with hm | hm
        · exact Nq.2.1 hm
        · exact hoff q hq hm
/-- a catching def called from the outermost frame -/
theorem callT {A₀ : Around} {base : Heap} {P : Value → List (Addr × Obj) → Prop} (H : FnT w lv f vs [] P) (B : Below A₀ base [] h₀) (F : Fr h₀ L s.heap m) (X : (Mine.hd.heap_39 w.params).In h₀) (N : News h₀ L s.heap news) (T : Top p loose mean mg mb h₀)
    (hA : A = A0 dp un gd [env]) (hf : env.frame = some L) (hke : env.scope.kind = .function) (hd : dp + 2 * lv < recursionLimit) (hun : un + 10 * lv + 100 < cLine)
    (h : ∀ v ns h' tk', P v ns → Fr h₀ L h' m → News h₀ L h' news → Q v { s with heap := h', toks := tk' }) :
    wpAny (model Challenge.rw_qz0048_01.row.prog w) A (call (.ref f) vs) Q E s := by
  subst hA
  obtain ⟨oL, es', en', hoL, hdL, hkL⟩ := F.ns
  have hL0 : h₀.get? L = none := kts_self F
  have fsE : ([env].filterMap (·.frame)) = [L] := by simp [hf]
  refine wpAny_call (H p loose mean mg mb dp un gd [env] h₀ s.heap s _ X T ?_ ⟨rfl, F.keep, ?_⟩ (X.keeps F.keep) (T.keeps F.keep) (fun _ _ e => e) (Nat.le_refl _) (fun _ hp => nomatch hp) hd hun ?_)
  · rw [fsE]
    intro b hb
    rw [List.mem_singleton.mp hb]
    exact ⟨oL, es', en', hoL, hdL⟩
  · refine ⟨by rw [hke]; decide, ⟨L, oL, hf, hL0, hoL, fun vs q => ?_⟩, trivial⟩
    rw [hdL] at q; cases q
  · intro v ns g' h' tk' hT hk _ hP
    rw [fsE] at hT
    obtain ⟨sL, e2⟩ := hT.frame L oL hoL (by simp)
    refine h v ns h' tk' hP ⟨⟨_, es', en', hk _ _ e2, hdL, hkL⟩, fun b o e => hk _ _ (hT.other b o (F.keep _ _ e) ?_), F.above⟩ ?_
    · intro hm
      rw [List.mem_singleton.mp hm, hL0] at e; cases e
    · intro q hq
      have Nq := N q hq
      exact ⟨hk _ _ (hT.other _ _ Nq.1 (by simpa using Nq.2.1)), Nq.2⟩
/-- the law's last call -/
theorem callN {P : Value → Prop} (H : FnN w lv f vs us P) (C : CodeHd h₀ 258 256) (F : Fr h₀ L s.heap m) (X : (Mine.hd.heap_39 w.params).In h₀) (N : News h₀ L s.heap news) (T : Top p loose mean mg mb h₀) (hus : ∀ u ∈ us, u ∈ news)
    (hA : A = A0 dp un gd [env]) (hf : env.frame = some L) (hke : env.scope.kind = .function) (hd : dp + 2 * lv < recursionLimit) (hun : un + 10 * lv + 100 < cLine)
    (h : ∀ v h' tk', P v → Fr h₀ L h' m → GrownAt 256 h' → Q v { s with heap := h', toks := tk' }) :
    wpAny (model Challenge.rw_qz0048_01.row.prog w) A (call (.ref f) vs) Q E s := by
  subst hA
  obtain ⟨oL, es', en', hoL, hdL, hkL⟩ := F.ns
  have hL0 : h₀.get? L = none := kts_self F
  have st : h₀.StaysIn (hideAll s.heap (L :: us.map (fun (u : Addr × Obj) => u.1))) := fun b o e => hideAll_get _ (F.keep _ _ e) fun hm => by
    rcases List.mem_cons.mp hm with rfl | hm
    · rw [hL0] at e; cases e
    · obtain ⟨u, hu, rfl⟩ := List.mem_map.mp hm
      rw [(N u (hus u hu)).2.2] at e; cases e
  refine wpAny_call (H p loose mean mg mb dp un gd env L oL (hideAll s.heap (L :: us.map (fun (u : Addr × Obj) => u.1))) s _ hf hke ⟨es', en', hdL⟩ (C.keeps st) (X.keeps st) (T.keeps st) (fun _ _ e => of_hideAll _ e) (Nat.le_of_eq (hideAll_size _ _)) (fun u hu => (N u (hus u hu)).2.1) (fun u hu => ?_) hd hun ?_)
  · rcases List.mem_cons.mp hu with rfl | hu
    · exact ⟨hoL, hideAll_none _ (.head _)⟩
    · exact ⟨(N u (hus u hu)).1, hideAll_none _ (.tail _ (List.mem_map_of_mem hu))⟩
  · intro v oLl' h' tk' hd' hg hk hP hG
    exact h v h' tk' hP ⟨⟨oLl', es', en', hg, by rw [hd', hdL], hkL⟩, fun b o e => hk _ _ (st _ _ e), F.above⟩ hG
end
end Mine
end
section
theorem Mine.none_Main1 : True := by
  k_with_none
  w_top off
  trivial
set_option maxRecDepth 100000
open PySem PySem.W PySem.Calls PyProof.Rows PyProof.Rows.LCg PyProof.Rows.LCt PySem.SeqAt
namespace Mine
theorem all_keys_len : allEs.length = 87 := by decide +kernel
theorem all_keys_ok : ∀ y ∈ allEs.map (·.1), y.length ≤ 20 := by decide +kernel
theorem KnownIs.keysL {ts : List (Addr × Obj)} {es : List Ent} {kvs : List (Str × Value)} (h : KnownIs ts es kvs) : kvs.map (·.1) = es.map (·.1) := h.keys
/-- the pen's object -/
def penObj (a b c : Int) (ta tb tc : Tok) (ep : Nat) : Obj := W.listOf #[.int a ta, .int b tb, .int c tc] ep
def PenJ (l : Addr) (fix : List (Addr × Obj)) (C : Nat → (Str → Option Value) → Prop) (j : Nat → Int) (i : Nat) (m : Str → Option Value) (n : List (Addr × Obj)) : Prop :=
  ∃ a b c ta tb tc ep, n = (l, W.listOf #[.int a ta, .int b tb, .int c tc] ep) :: fix ∧ PenOk a b c (j i) ∧ C i m
def UsePen (C : Nat → (Str → Option Value) → Prop) (j : Nat → Int) : Prop := C = C ∧ j = j
theorem UsePen.mk (C : Nat → (Str → Option Value) → Prop) (j : Nat → Int) : UsePen C j := ⟨rfl, rfl⟩
section
variable {prog : Program} {w : World} {A : Around} {E : Value → Shared → Prop} {s : Shared} {h₀ : Heap} {env : Env} {body : List Stmt} {Q : Flow → Shared → Prop}
theorem iter_pen {x : Str} {px : Pos} {r l : Addr} {t u v : Tok} {z : Int} {n : Nat} {m₀ : Str → Option Value} {news fix : List (Addr × Obj)} {C : Nat → (Str → Option Value) → Prop} {j : Nat → Int} {a₀ b₀ c₀ : Int} {ta₀ tb₀ tc₀ : Tok} {ep₀ : Nat} (_ : UsePen C j)
    (hh : A.handled = none) (F : Fr h₀ env.locals s.heap m₀) (N : News h₀ env.locals s.heap news)
    (hr : IsRange s.heap r 0 z 1 t u v) (hsm : Builtin.Range.small 0 z 1 = true) (hn : Builtin.Range.rangeSize 0 z 1 = ((n : Nat) : Int)) (hO : OutF l (W.listOf #[.int a₀ ta₀, .int b₀ tb₀, .int c₀ tc₀] ep₀) news fix) (hp : PenOk a₀ b₀ c₀ (j 0)) (hC : C 0 m₀)
    (turn : ∀ (I : Addr) (i : Nat) (t : Tok) (it : Obj) (a b c : Int) (ta tb tc : Tok) (ep : Nat) (m : Str → Option Value) (h : Heap) (tk : Nat), (∀ p ∈ fix, p.1 < I) → @LT.lt Nat _ l I → i < n → PenOk a b c (j i) → C i m → Fr h₀ env.locals h m → News h₀ env.locals h ((I, it) :: (l, W.listOf #[.int a ta, .int b tb, .int c tc] ep) :: fix) →
      wpAny (model prog w) A (assign (.Name x px) env (.int (0 + (i : Int)) t)) (fun _ s₂ => wpAny (model prog w) A (execs body env) (UnrPostW h₀ env.locals { s with heap := h, toks := tk } [(I, it)] (PenJ l fix C j (i + 1)) Q) E s₂) E { s with heap := h, toks := tk })
    (fin : ∀ (a b c : Int) (ta tb tc : Tok) (ep : Nat) (m : Str → Option Value) (h : Heap) (tk : Nat), PenOk a b c (j n) → C n m → Fr h₀ env.locals h m → News h₀ env.locals h ((l, W.listOf #[.int a ta, .int b tb, .int c tc] ep) :: fix) → Q .next { s with heap := h, toks := tk }) :
    wpAny (model prog w) A (pyIter (.ref r)) (fun it s₂ => TurnsAt prog w A h₀ env (.Name x px) body Q E it s₂) E s := by
  obtain ⟨m1, m2, m3⟩ := hO.mem
  refine iter_rangeJ (news := (l, W.listOf #[.int a₀ ta₀, .int b₀ tb₀, .int c₀ tc₀] ep₀) :: fix) hh F (fun p hp => ?_) hr hsm hn (fun _ => PenJ l fix C j) (fun I hI => ⟨a₀, b₀, c₀, ta₀, tb₀, tc₀, ep₀, rfl, hp, hC⟩) ?_ ?_
  · rcases List.mem_cons.mp hp with rfl | hp
    · exact N _ m1
    · exact N _ (m2 p hp)
  · rintro I i t it m nw h tk hI hi hit ⟨a, b, c, ta, tb, tc, ep, rfl, h1, h2⟩ F1 N1
    exact turn I i t it a b c ta tb tc ep m h tk (fun p hp => hI p (.tail _ hp)) (hI _ (.head _)) hi h1 h2 F1 N1
  · rintro I m nw h tk ⟨a, b, c, ta, tb, tc, ep, rfl, h1, h2⟩ F1 N1
    exact fin a b c ta tb tc ep m h tk h1 h2 F1 N1
theorem penEnd {L : Addr} {s₁ : Shared} {h' : Heap} {tk : Nat} {m' : Str → Option Value} {all fix : List (Addr × Obj)} {I l : Addr} {it : Obj} {C : Nat → (Str → Option Value) → Prop} {j : Nat → Int} {i : Nat} {a b c : Int} {ta tb tc : Tok} {ep : Nat} {j' : Int}
    (F : Fr h₀ L h' m') (N : News h₀ L h' all) (hf : ∀ p ∈ fix, p.1 < I) (hl : @LT.lt Nat _ l I) (hsub : ∀ p ∈ (I, it) :: (l, W.listOf #[.int a ta, .int b tb, .int c tc] ep) :: fix, p ∈ all) (hp : PenOk a b c j') (hj : j' = j i) (hC : C i m') :
    UnrEndW h₀ L s₁ [(I, it)] (PenJ l fix C j i) { s₁ with heap := h', toks := tk } := by
  subst hj
  refine ⟨h', tk, m', (l, W.listOf #[.int a ta, .int b tb, .int c tc] ep) :: fix, rfl, F, fun p hp => N p (hsub p ?_), fun p hp q hq => ?_, a, b, c, ta, tb, tc, ep, rfl, hp, hC⟩
  · rcases List.mem_append.mp hp with hp | hp
    · rw [List.mem_singleton.mp hp]; exact .head _
    · exact .tail _ hp
  · rw [List.mem_singleton.mp hq]
    rcases List.mem_cons.mp hp with rfl | hp
    · exact Nat.ne_of_lt hl
    · exact Nat.ne_of_lt (hf p hp)
end
section
variable {w : World} {s : Shared} {A A₀ : Around} {base h₀ : Heap} {outer : List Env} {L : Addr} {m : Str → Option Value} {env : Env} {news us : List (Addr × Obj)} {Q E : Value → Shared → Prop}
  {p : Program} {loose : List Str} {mean : ExcName → Option Value} {mg mb : Str → Option Value} {dp un : Nat} {gd : Option (List Code)} {f : Addr} {vs : List Value} {lv : Nat}
/-- the pen made -/
theorem callPen {l0 : Addr} {vs : List Value} {ns : List Int} (hI : IntsAre vs ns) (hlen : ns.length ≤ 63) (hL : h₀.IsList l0 vs.toArray) (B : Below A₀ base outer h₀) (F : Fr h₀ L s.heap m) (X : (Mine.hd.heap_39 w.params).In h₀) (N : News h₀ L s.heap news) (T : Top p loose mean mg mb h₀)
    (hA : A = A0 dp un gd (env :: outer)) (hf : env.frame = some L) (hke : env.scope.kind = .function) (hd : dp + 2 * 3 < recursionLimit) (hun : un + 10 * 3 + 100 < cLine)
    (h : ∀ (l : Addr) (a b c : Int) (ta tb tc : Tok) (ep : Nat) (h' : Heap) (tk' : Nat), PenOk a b c 0 → Fr h₀ L h' m → News h₀ L h' ((l, W.listOf #[.int a ta, .int b tb, .int c tc] ep) :: news) → (∀ p ∈ news, p.1 ≠ l) → Q (.ref l) { s with heap := h', toks := tk' }) :
    wpAny (model Challenge.rw_qz0048_01.row.prog w) A (call (.ref 235) [.ref l0]) Q E s := by
  subst hA
  refine wpAny_call (pen_ok w l0 vs ns hI hlen p loose mean mg mb dp un gd (env :: outer) base s.heap s _ (groundS B F hf hke) (X.keeps F.keep) (T.keeps F.keep) (fun _ _ e => e) (Nat.le_refl _) (fun _ hq => nomatch hq) hd hun ⟨?_, ?_⟩)
  · obtain ⟨o, ho, r⟩ := hL
    exact ⟨o, F.keep _ _ ho, r⟩
  · intro l a b c ta tb tc ep h' tk' hk Nn hP
    exact h l a b c ta tb tc ep h' tk' hP (F.after hk) (News.new F N hk Nn) (fun p hp => New.apart N Nn _ (.head _) p hp)
theorem callBent {l : Addr} {o : Obj} {j : Int} {x sg : Str} {fn : Obj → List (Addr × Obj)} (H : FnG w lv f vs [(l, o)] (BentG l x sg j)) (B : Below A₀ base outer h₀) (F : Fr h₀ L s.heap m) (X : (Mine.hd.heap_39 w.params).In h₀) (N : News h₀ L s.heap news) (U : UpdF l o news fn) (T : Top p loose mean mg mb h₀)
    (hA : A = A0 dp un gd (env :: outer)) (hf : env.frame = some L) (hke : env.scope.kind = .function) (hd : dp + 2 * lv < recursionLimit) (hun : un + 10 * lv + 100 < cLine)
    (h : ∀ (y : Str) (a' b' c' : Int) (ta tb tc t : Tok) (ep : Nat) (h' : Heap) (tk' : Nat), PenOk a' b' c' (j + 3) → BentP x sg y → Fr h₀ L h' m → News h₀ L h' (fn (W.listOf #[.int a' ta, .int b' tb, .int c' tc] ep)) → Q (.str y t) { s with heap := h', toks := tk' }) :
    wpAny (model Challenge.rw_qz0048_01.row.prog w) A (call (.ref f) vs) Q E s := by
  subst hA
  obtain ⟨pre, post, rfl, hfn, hpre, hpost⟩ := updF_split U
  have N1 : News h₀ L s.heap [(l, o)] := fun q hq => by
    rw [List.mem_singleton.mp hq]
    exact N _ (List.mem_append_right _ (.head _))
  have hl := N1 _ (List.mem_singleton.mpr rfl)
  obtain ⟨FG, BG, st, _⟩ := groundX (A := A0 dp un gd (env :: outer)) (R := fun _ _ => True) B F N1 rfl hf hke
  refine wpAny_call (H p loose mean mg mb dp un gd (env :: outer) base (hideAll s.heap [l]) s _ BG (X.keeps st) (T.keeps st) (fun _ _ e => of_hideAll _ e) (Nat.le_of_eq (hideAll_size _ _)) (fun u hu => ?_) hd hun ?_)
  · rw [List.mem_singleton.mp hu]
    exact ⟨hl.1, hideAll_none _ (List.mem_singleton.mpr rfl)⟩
  · intro y a' b' c' ta tb tc t ep h' tk' hk hl' hp hb
    refine h y a' b' c' ta tb tc t ep h' tk' hp hb (FG.after hk) ?_
    rw [hfn]
    intro q hq
    have other : q.1 ≠ l → q ∈ pre ++ (l, o) :: post → h'.get? q.1 = some q.2 ∧ q.1 ≠ L ∧ h₀.get? q.1 = none := fun hne hq => ⟨hk _ _ (hideAll_get _ (N q hq).1 (by simpa using hne)), (N q hq).2⟩
    rcases List.mem_append.mp hq with hq | hq
    · exact other (hpre q hq) (List.mem_append_left _ hq)
    · rcases List.mem_cons.mp hq with rfl | hq
      · exact ⟨hl', hl.2⟩
      · exact other (hpost q hq) (List.mem_append_right _ (.tail _ hq))
/-- find_register, beside what the law's table says -/
theorem callFind {x : Str} {t : Tok} {rest : List (Addr × Obj)} {kvs : List (Str × Value)} (hx : x.length ≤ 1000) (hk : KnownIs rest allEs kvs) (B : Below A₀ base outer h₀) (F : Fr h₀ L s.heap m) (X : (Mine.hd.heap_39 w.params).In h₀) (N : News h₀ L s.heap news) (T : Top p loose mean mg mb h₀)
    (hA : A = A0 dp un gd (env :: outer)) (hf : env.frame = some L) (hke : env.scope.kind = .function) (hd : dp + 2 * 6 < recursionLimit) (hun : un + 10 * 6 + 100 < cLine)
    (h1 : ∀ h' tk', valueAt kvs x = none → Fr h₀ L h' m → News h₀ L h' news → Q .none { s with heap := h', toks := tk' })
    (h2 : ∀ nm kd k n X d t1 t2 t3 t4 t5 t6 t7 t8 Tt ot h' tk', valueAt kvs x = some (.ref Tt) → (Tt, ot) ∈ rest → TupIs ot (kd, k, n) → @Ne Nat X d → Fr h₀ L h' m → News h₀ L h' ((X, instObj 142 d) :: (d, regDict w.params nm kd k n t1 t2 t3 t4 t5 t6 t7 t8) :: news) →
      (∀ p ∈ news, p.1 ≠ X) → (∀ p ∈ news, p.1 ≠ d) → Q (.ref X) { s with heap := h', toks := tk' }) :
    wpAny (model Challenge.rw_qz0048_01.row.prog w) A (call (.ref 216) [.str x t]) Q E s := by
  refine callPure (find_ok w x t hx) B F X N T hA hf hke hd hun fun v ns h' tk' hP F' N' hap => ?_
  have ha := known_at hk x
  unfold FindOut at hP
  have e : regLook x = (allEs.find? fun e => e.1 == x).map (·.2) := look_eq x
  rw [← e] at ha
  cases hr : regLook x with
  | none =>
    rw [hr] at hP ha
    obtain ⟨rfl, rfl⟩ := hP
    exact h1 h' tk' ha F' N'
  | some r =>
    obtain ⟨kd, k, n⟩ := r
    rw [hr] at hP ha
    obtain ⟨nm, X, d, t1, t2, t3, t4, t5, t6, t7, t8, rfl, rfl, hne⟩ := hP
    obtain ⟨Tt, ot, hv, hm, ht⟩ := ha
    exact h2 nm kd k n X d t1 t2 t3 t4 t5 t6 t7 t8 Tt ot h' tk' hv hm ht hne F' N' (fun p hp => hap _ (.head _) p hp) (fun p hp => hap _ (.tail _ (.head _)) p hp)
end
end Mine
end
section
theorem Mine.none_Main2 : True := by
  k_with_none
  w_top off
  trivial
set_option maxRecDepth 100000
open PySem PySem.W PySem.Calls PyProof.Rows PyProof.Rows.LCg PyProof.Rows.LCt PySem.SeqAt
namespace Mine
section
variable {prog : Program} {w : World} {A : Around} {E : Value → Shared → Prop} {s : Shared} {h₀ : Heap} {L : Addr} {m : Str → Option Value} {env : Env} {news fix : List (Addr × Obj)}
/-- octets drawn -/
theorem comp_takes {elt : PySem.Expr} {x : Str} {scope : Scope} {cl : List (Str × Addr)} {S : List (Addr × Obj) → Prop} {Fin : List Value → List (Addr × Obj) → Prop} {n : Nat} {P : Nat → Value → Prop} {l : Addr} {j : Int} {a₀ b₀ c₀ : Int} {ta₀ tb₀ tc₀ : Tok} {ep₀ : Nat} (hS : ∀ nw, S nw) (hp : PenOk a₀ b₀ c₀ j) (hfix : ∀ p ∈ fix, p.1 ≠ l)
    (turn : ∀ (i : Nat) (a b c : Int) (ta tb tc : Tok) (ep : Nat) I oI C oC D ys m₂ h tk (E' : Value → Shared → Prop), (∀ p ∈ fix, p.1 ≠ l) → i < n → PenOk a b c (j + (i : Int)) → NsObj oC m₂ → Fr h₀ L h m → News h₀ L h ((I, oI) :: (C, oC) :: (D, lst ys) :: (l, W.listOf #[.int a ta, .int b tb, .int c tc] ep) :: fix) → Off3 I C D ((l, W.listOf #[.int a ta, .int b tb, .int c tc] ep) :: fix) → ((@Ne Nat I C) ∧ (@Ne Nat I D) ∧ (@Ne Nat C D)) →
      wpAny (model prog w) A (eval elt (compEnvC scope cl C env)) (CompEnd h₀ L m { s with heap := h, toks := tk } I oI C oC D (lst ys) S (fun y nw => (∃ a b c ta tb tc ep, nw = (l, W.listOf #[.int a ta, .int b tb, .int c tc] ep) :: fix ∧ PenOk a b c (j + (i : Int) + 1)) ∧ ∃ k t, y = .int k t ∧ 0 ≤ k ∧ k < 256)) E' { s with heap := h, toks := tk })
    (fin : ∀ ys ks a b c ta tb tc ep, IntsAre ys ks → ks.length = n → (∀ k ∈ ks, 0 ≤ k ∧ k < 256) → PenOk a b c (j + (n : Int)) → Fin ys ((l, W.listOf #[.int a ta, .int b tb, .int c tc] ep) :: fix)) :
    CompRest prog w A h₀ L m env elt x scope cl s S P Fin n 0 [] ((l, W.listOf #[.int a₀ ta₀, .int b₀ tb₀, .int c₀ tc₀] ep₀) :: fix) := by
  refine comp_J (fun i ys nw => ∃ ks a b c ta tb tc ep, nw = (l, W.listOf #[.int a ta, .int b tb, .int c tc] ep) :: fix ∧ PenOk a b c (j + (i : Int)) ∧ IntsAre ys ks ∧ ks.length = i ∧ ∀ k ∈ ks, 0 ≤ k ∧ k < 256) ?_ ?_ ⟨[], a₀, b₀, c₀, ta₀, tb₀, tc₀, ep₀, rfl, by simpa using hp, .nil, rfl, List.forall_mem_nil _⟩
  · rintro i ys nw v I oI C oC D m₂ h tk E' hi ⟨ks, a, b, c, ta, tb, tc, ep, rfl, h1, h2, h3, h4⟩ hv hC hx F N off ne
    refine wpAny_mono (turn i a b c ta tb tc ep I oI C oC D ys m₂ h tk E' hfix hi h1 hC F N off ne) (fun y s₂ hq => ?_) fun _ _ e => e
    obtain ⟨h', tk', nw', e1, F', N', off', hS, ⟨a', b', c', ta', tb', tc', ep', e2, hp'⟩, k, t, e3, hk⟩ := hq
    refine ⟨h', tk', nw', e1, F', N', off', hS, ks ++ [k], a', b', c', ta', tb', tc', ep', e2, ?_, ?_, by simp [h3], fun q hq => ?_⟩
    · rw [show j + ((i + 1 : Nat) : Int) = j + (i : Int) + 1 from by lia]; exact hp'
    · rw [e3]; exact ints_snoc h2 _ _
    · rcases List.mem_append.mp hq with hq | hq
      · exact h4 q hq
      · rw [List.mem_singleton.mp hq]; exact hk
  · rintro ys nw ⟨ks, a, b, c, ta, tb, tc, ep, rfl, h1, h2, h3, h4⟩
    exact fin ys ks a b c ta tb tc ep h2 h3 h4 h1
theorem takesEnd {I C D l : Addr} {s₁ : Shared} {oI oC oD : Obj} {S : List (Addr × Obj) → Prop} {h' : Heap} {tk : Nat} {j i k a b c : Int} {ta tb tc t : Tok} {ep : Nat} {o : Obj}
    (F : Fr h₀ L h' m) (N : News h₀ L h' ((I, oI) :: (C, oC) :: (D, oD) :: (l, W.listOf #[.int a ta, .int b tb, .int c tc] ep) :: fix)) (off : Off3 I C D ((l, o) :: fix)) (hS : ∀ nw, S nw) (hp : PenOk a b c (j + i + 1)) (hk : 0 ≤ k) (hk2 : k < 256) :
    CompEnd h₀ L m s₁ I oI C oC D oD S (fun y nw => (∃ a b c ta tb tc ep, nw = (l, W.listOf #[.int a ta, .int b tb, .int c tc] ep) :: fix ∧ PenOk a b c (j + i + 1)) ∧ ∃ k t, y = .int k t ∧ 0 ≤ k ∧ k < 256) (.int k t) { s₁ with heap := h', toks := tk } :=
  CompEnd.intro F N ((l, W.listOf #[.int a ta, .int b tb, .int c tc] ep) :: fix) (fun _ hp => hp) ⟨off.1, off.2⟩ (hS _) ⟨⟨a, b, c, ta, tb, tc, ep, rfl, hp⟩, k, t, rfl, hk, hk2⟩
theorem small_4 {k : Int} (h0 : 0 ≤ k) (h1 : k < 5) : Builtin.Range.small 0 k 1 = true := by
  have : ∀ n < 5, Builtin.Range.small 0 ((n : Nat) : Int) 1 = true := by decide
  have := this k.toNat (by lia)
  rwa [Int.toNat_of_nonneg h0] at this
theorem size_4 {k : Int} (h0 : 0 ≤ k) (h1 : k < 5) : Builtin.Range.rangeSize 0 k 1 = ((k.toNat : Nat) : Int) := by
  have : ∀ n < 5, Builtin.Range.rangeSize 0 ((n : Nat) : Int) 1 = ((n : Nat) : Int) := by decide
  have := this k.toNat (by lia)
  rw [Int.toNat_of_nonneg h0] at this
  rw [this, Int.toNat_of_nonneg h0]
theorem bytes_ints {l : Addr} {ys : List Value} {ks : List Int} {Q : Value → Shared → Prop} (N : News h₀ L s.heap news) (hm : (l, lst ys) ∈ news) (hi : IntsAre ys ks) (hr : ∀ k ∈ ks, 0 ≤ k ∧ k < 256) (hz : ks.length ≤ 100) (hh : A.handled = none) (F : Fr h₀ L s.heap m)
    (h : ∀ t h' k, Fr h₀ L h' m → News h₀ L h' news → (byteArr ks).size ≤ ks.length → Q (.bytes (byteArr ks) t) { s with heap := h', toks := k }) : wpAny (model prog w) A (call (.type "bytes") [.ref l]) Q E s := by
  have hlen : ys.length = ks.length := hi.length
  exact call_bytes_ints ⟨_, (N _ hm).1, rfl, _, rfl⟩ hi hr (by rw [sizeLine_eq]; lia) hh fun h' t k hk => h t h' k (F.keeps hk) (fun q hq => ⟨hk _ _ (N q hq).1, (N q hq).2⟩) (Nat.le_of_eq (byteArr_size ks))
/-- two readings of one text are equal -/
theorem cmp_read {cs : List Nat} {u v : Value} {Q : Value → Shared → Prop} (h1 : ReadP cs u) (h2 : ReadP cs v) (h : Q (.bool false) s) : wpAny (model prog w) A (compareOp .NotEq u v) Q E s := by
  rcases h1 with ⟨g, t, rfl⟩ | ⟨g, rfl⟩
  · rcases h2 with ⟨_, t', rfl⟩ | ⟨g', _⟩
    · refine ne_bytes ?_
      have : ((byteArr (ValU cs)).toList != (byteArr (ValU cs)).toList) = false := by simp
      rw [this]; exact h
    · exact absurd g g'
  · rcases h2 with ⟨g', _⟩ | ⟨_, rfl⟩
    · exact absurd g' g
    · exact EqNone.ne_none_none h
theorem bytes_back (b : Array UInt8) : byteArr (KBw.bInts b) = b := by
  unfold byteArr KBw.bInts
  rw [List.map_map]
  have : ((fun n : Int => n.toNat.toUInt8) ∘ fun c : UInt8 => (c.toNat : Int)) = id := by
    funext c
    simp
  rw [this, List.map_id, Array.toArray_toList]
theorem cmp_back {b : Array UInt8} {t : Tok} {v : Value} {Q : Value → Shared → Prop} (h1 : HeardP (Txt.lower (octText (KBw.bInts b))).cps.toList v) (h : Q (.bool true) s) : wpAny (model prog w) A (compareOp .Eq v (.bytes b t)) Q E s := by
  obtain ⟨g1, g2, g3, _⟩ := octText_ok (ks := KBw.bInts b) fun k hk => KBw.ints_in hk
  rcases heard_read g3 h1 with ⟨_, t', rfl⟩ | ⟨g, _⟩
  · rw [g2, bytes_back]
    refine eq_bytes ?_
    have : (b.toList == b.toList) = true := by simp
    rw [this]; exact h
  · exact absurd g1 g
/-- the tuple of a register found is the table's -/
theorem tup_reads {h : Heap} {a : Addr} {o : Obj} {kd : Str} {k n : Int} (ho : h.get? a = some o) (ht : TupIs o (kd, k, n)) : Reads h (.ref a) (.tuple [.str kd, .int k, .int n]) [] := by
  obtain ⟨hc, t1, t2, t3, ep, hd⟩ := ht
  refine Reads.tuple ho hc hd ?_
  have := ReadsAll.cons (Reads.str (h := h) kd t1) (ReadsAll.cons (Reads.int (h := h) k t2) (ReadsAll.cons (Reads.int (h := h) n t3) .nil))
  simpa using this
end
end Mine
end
section
theorem Mine.none_Main3 : True := by
  k_with_none
  w_top off
  trivial
set_option maxRecDepth 100000
open PySem PySem.W PySem.Calls PyProof.Rows PyProof.Rows.LCg PyProof.Rows.LCt PySem.SeqAt
namespace Mine
/-- a table entry as data -/
def entD (r : Str × Int × Int) : PyData := .tuple [.str r.1, .int r.2.1, .int r.2.2]
theorem ent_shaped : ∀ e ∈ allEs, shaped (entD e.2) = true := by decide +kernel
theorem look_shaped {x : Str} {r : Str × Int × Int} (h : tabLook x = some r) : shaped (entD r) = true := by
  unfold tabLook at h
  obtain ⟨e, he, rfl⟩ := Option.map_eq_some_iff.mp h
  exact ent_shaped e (List.mem_of_find?_eq_some he)
section
variable {prog : Program} {w : World} {A : Around} {E : Value → Shared → Prop} {s : Shared} {h₀ : Heap} {L : Addr} {m : Str → Option Value} {news : List (Addr × Obj)}
theorem cmp_tups {D T : Addr} {oD oT : Obj} {kd : Str} {k n : Int} {Q : Value → Shared → Prop} (N : News h₀ L s.heap news) (hD : (D, oD) ∈ news) (hdt : TupIs oD (kd, k, n)) (hT : (T, oT) ∈ news) (htt : TupIs oT (kd, k, n)) (hs : shaped (entD (kd, k, n)) = true) (hu : A.units + 64 < cLine)
    (h : Q (.bool false) s) : wpAny (model prog w) A (compareOp .NotEq (.ref D) (.ref T)) Q E s := by
  refine ne_dataH (tup_reads (N _ hD).1 hdt) (tup_reads (N _ hT).1 htt) hs hs hu ?_
  have : PyData.eqv (entD (kd, k, n)) (entD (kd, k, n)) = true := by simp [entD, PyData.eqv, PyData.eqvAll]
  have : (!PyData.eqv (.tuple [.str kd, .int k, .int n]) (.tuple [.str kd, .int k, .int n])) = false := by
    show (!PyData.eqv (entD (kd, k, n)) (entD (kd, k, n))) = false
    rw [this]; rfl
  rw [this]; exact h
end
theorem octText_size : ∀ ks : List Int, ks.length ≤ 4 → (octText ks).length ≤ 11
  | ks, h => by
    have key : ∀ (k : Int) (r : List Int), (Str.join (Str.ofString " ") ((k :: r).map figs)).cps.size + 1 = 3 * (r.length + 1) := by
      intro k r
      induction r generalizing k with
      | nil =>
        show (figs k).cps.size + 1 = _
        have : (figs k).cps.size = 2 := figs_len k
        rw [this]; rfl
      | cons k2 r ih =>
        have e : Str.join (Str.ofString " ") ((k :: k2 :: r).map figs) = figs k ++ Str.ofString " " ++ Str.join (Str.ofString " ") ((k2 :: r).map figs) := rfl
        have z2 : (Str.ofString " ").cps.size = 1 := by decide
        have sz : (figs k).cps.size = 2 := figs_len k
        rw [e, Str.cps_append, Str.cps_append, Array.size_append, Array.size_append, sz, z2]
        have := ih k2
        simp only [List.length_cons] at this ⊢
        lia
    rw [octText_join]
    cases ks with
    | nil => decide
    | cons k r =>
      have := key k r
      have e : (Str.join (Str.ofString " ") ((k :: r).map figs)).length = (Str.join (Str.ofString " ") ((k :: r).map figs)).cps.size := rfl
      simp only [List.length_cons] at h
      lia
/-- the texts' bound, turn by turn -/
def limT : Nat → Nat
  | 0 => 11
  | n + 1 => 2 * limT n + 1
/-- the loop of texts: what the frame holds -/
def TextC (C : (Str → Option Value) → Prop) (i : Nat) (m : Str → Option Value) : Prop := C m ∧ ∃ x t, m (Str.ofString "text") = some (.str x t) ∧ x.length ≤ limT i ∧ Signs (fun c => c < 128) x
theorem limT_3 {i : Nat} (h : i < 3) : limT i ≤ 47 ∧ limT (i + 1) ≤ 95 := by
  have : ∀ j < 3, limT j ≤ 47 ∧ limT (j + 1) ≤ 95 := by decide
  exact this i h
section
variable {w : World} {s : Shared} {A A₀ : Around} {base h₀ : Heap} {outer : List Env} {L : Addr} {m : Str → Option Value} {env : Env} {news us : List (Addr × Obj)} {Q E : Value → Shared → Prop}
  {p : Program} {loose : List Str} {mean : ExcName → Option Value} {mg mb : Str → Option Value} {dp un : Nat} {gd : Option (List Code)}
/-- find_register, and what the law's table says -/
theorem callFind2 {x : Str} {t : Tok} {rest : List (Addr × Obj)} {kvs : List (Str × Value)} (hx : x.length ≤ 1000) (hk : KnownIs rest allEs kvs) (B : Below A₀ base outer h₀) (F : Fr h₀ L s.heap m) (X : (Mine.hd.heap_39 w.params).In h₀) (N : News h₀ L s.heap news) (T : Top p loose mean mg mb h₀)
    (hA : A = A0 dp un gd (env :: outer)) (hf : env.frame = some L) (hke : env.scope.kind = .function) (hd : dp + 2 * 6 < recursionLimit) (hun : un + 10 * 6 + 100 < cLine)
    (h1 : ∀ h' tk', valueAt kvs x = none → Fr h₀ L h' m → News h₀ L h' news → Q .none { s with heap := h', toks := tk' })
    (h2 : ∀ nm kd k n X d t1 t2 t3 t4 t5 t6 t7 t8 Tt ot h' tk', valueAt kvs x = some (.ref Tt) → (Tt, ot) ∈ rest → TupIs ot (kd, k, n) → shaped (entD (kd, k, n)) = true → @Ne Nat X d → Fr h₀ L h' m → News h₀ L h' ((X, instObj 142 d) :: (d, regDict w.params nm kd k n t1 t2 t3 t4 t5 t6 t7 t8) :: news) →
      (∀ p ∈ news, p.1 ≠ X) → (∀ p ∈ news, p.1 ≠ d) → Q (.ref X) { s with heap := h', toks := tk' }) :
    wpAny (model Challenge.rw_qz0048_01.row.prog w) A (call (.ref 216) [.str x t]) Q E s := by
  refine callPure (find_ok w x t hx) B F X N T hA hf hke hd hun fun v ns h' tk' hP F' N' hap => ?_
  have ha := known_at hk x
  unfold FindOut at hP
  have e : regLook x = tabLook x := look_eq x
  have e' : (allEs.find? fun e => e.1 == x).map (·.2) = regLook x := e.symm
  rw [e'] at ha
  cases hr : regLook x with
  | none =>
    rw [hr] at hP ha
    obtain ⟨rfl, rfl⟩ := hP
    exact h1 h' tk' ha F' N'
  | some r =>
    have hsh := look_shaped (e.symm.trans hr)
    obtain ⟨kd, k, n⟩ := r
    rw [hr] at hP ha
    obtain ⟨nm, X, d, t1, t2, t3, t4, t5, t6, t7, t8, rfl, rfl, hne⟩ := hP
    obtain ⟨Tt, ot, hv, hm, ht⟩ := ha
    exact h2 nm kd k n X d t1 t2 t3 t4 t5 t6 t7 t8 Tt ot h' tk' hv hm ht hsh hne F' N' (fun p hp => hap _ (.head _) p hp) (fun p hp => hap _ (.tail _ (.head _)) p hp)
/-- the law's table made; what it brings stands at the ledger's end -/
theorem callTable {l : Addr} {o : Obj} {n2 : List (Addr × Obj)} (B : Below A₀ base outer h₀) (F : Fr h₀ L s.heap m) (X : (Mine.hd.heap_39 w.params).In h₀) (N : News h₀ L s.heap ((l, o) :: n2)) (T : Top p loose mean mg mb h₀)
    (hA : A = A0 dp un gd (env :: outer)) (hf : env.frame = some L) (hke : env.scope.kind = .function) (hd : dp + 2 * 3 < recursionLimit) (hun : un + 10 * 3 + 100 < cLine)
    (h : ∀ D S K ep oS oK kvs skv rest h' tk', oK.IsDictOf (PySem.strKind Challenge.rw_qz0048_01.row.prog w) kvs → oS.IsDictOf (intKind Challenge.rw_qz0048_01.row.prog w) skv → KnownIs rest allEs kvs → kvs.length = 87 → SizesIs rest allZs skv → (@Ne Nat S K ∧ @Ne Nat S D ∧ @Ne Nat K D) →
      (∀ p ∈ rest, p.1 ≠ S) → (∀ p ∈ rest, p.1 ≠ K) → (∀ p ∈ rest, p.1 ≠ D) → (∀ p ∈ rest, p.1 ≠ l) → (S == sysModules) = false → (K == sysModules) = false →
      Fr h₀ L h' m → News h₀ L h' ((D, ({ cls := .type "tuple", data := .seq #[.ref S, .ref K] ep } : Obj)) :: (S, oS) :: (K, oK) :: (l, o) :: (n2 ++ rest)) →
      AllNe D ((l, o) :: n2) → AllNe S ((l, o) :: n2) → AllNe K ((l, o) :: n2) → (∀ q ∈ n2, ∀ p ∈ rest, p.1 ≠ q.1) → Q (.ref D) { s with heap := h', toks := tk' }) :
    wpAny (model Challenge.rw_qz0048_01.row.prog w) A (call (.ref 247) []) Q E s := by
  refine callPure (table_ok w) B F X N T hA hf hke hd hun fun v ns h' tk' hP F' N' hap => ?_
  obtain ⟨D, S, K, ep, oS, oK, kvs, skv, rest, rfl, rfl, hdK, hdS, hk, hz, hne, hr, hs1, hk1⟩ := hP
  refine h D S K ep oS oK kvs skv rest h' tk' hdK hdS hk (by rw [hk.length]; exact all_keys_len) hz hne (fun p hp => (hr p hp).1) (fun p hp => (hr p hp).2.1) (fun p hp => (hr p hp).2.2) (fun p hp => Ne.symm (hap p (.tail _ (.tail _ (.tail _ hp))) _ (.head _))) hs1 hk1 F' (fun q hq => N' q ?_)
    (allNe_of fun p hp => hap _ (.head _) p hp) (allNe_of fun p hp => hap _ (.tail _ (.head _)) p hp) (allNe_of fun p hp => hap _ (.tail _ (.tail _ (.head _))) p hp) (fun q hq p hp => Ne.symm (hap p (.tail _ (.tail _ (.tail _ hp))) q (.tail _ hq)))
  simp only [List.mem_cons, List.mem_append] at hq ⊢
  rcases hq with rfl | rfl | rfl | rfl | hq | hq
  · exact .inl (.inl rfl)
  · exact .inl (.inr (.inl rfl))
  · exact .inl (.inr (.inr (.inl rfl)))
  · exact .inr (.inl rfl)
  · exact .inr (.inr hq)
  · exact .inl (.inr (.inr (.inr hq)))
end
end Mine
namespace Mine
open PySem PySem.W PySem.Calls PyProof.Rows PyProof.Rows.LCg
theorem name_len {rest : List (Addr × Obj)} {kvs : List (Str × Value)} {ss : List Str} {k : Int} (hk : KnownIs rest allEs kvs) (hss : ∀ y ∈ ss, y ∈ kvs.map (·.1)) (h0 : 0 ≤ k) (h1 : k < 87) (hl : ss.length = 87) : (ss.getD k.toNat Str.empty).length ≤ 20 := by
  have hlt : k.toNat < ss.length := by lia
  have e : ss.getD k.toNat Str.empty = ss[k.toNat] := by simp [List.getD_eq_getElem?_getD, List.getElem?_eq_getElem hlt]
  rw [e]
  have := hss _ (List.getElem_mem hlt)
  rw [hk.keysL] at this
  exact all_keys_ok _ this
theorem find_len {rest : List (Addr × Obj)} {kvs : List (Str × Value)} {ss : List Str} {k : Int} {sg y : Str} (hb : BentP (ss.getD k.toNat Str.empty) sg y) (hk : KnownIs rest allEs kvs) (hss : ∀ y ∈ ss, y ∈ kvs.map (·.1)) (h0 : 0 ≤ k) (h1 : k < 87) (hl : ss.length = 87) : y.length ≤ 1000 := by
  have h2 := name_len hk hss h0 h1 hl
  have h3 := hb.1
  lia
section
variable {prog : Program} {w : World} {A : Around} {E : Value → Shared → Prop} {s : Shared} {h₀ : Heap} {L : Addr} {m : Str → Option Value} {news : List (Addr × Obj)}
theorem len_names {a : Addr} {vs : List Value} {ss : List Str} {ep : Nat} {Q : Value → Shared → Prop} (N : News h₀ L s.heap news) (hl : (a, (⟨.type "list", none, .seq vs.toArray ep, #[]⟩ : Obj)) ∈ news) (hi : StrsAre vs ss) (hz : ss.length = 87)
    (h : ∀ t' k, Q (.int 87 t') { s with toks := k }) : wpAny (model prog w) A (call (.builtin "len") [.ref a]) Q E s := by
  have e := strsAre_length hi
  refine call_len_list (items := vs.toArray) ⟨_, (N _ hl).1, rfl, _, rfl⟩ ?_ ?_
  · simp; lia
  · simp only [List.size_toArray, e, hz]; exact h _ _
end
section
variable {prog : Program} {w : World} {A : Around} {E : Value → Shared → Prop} {s : Shared} {h₀ : Heap} {env : Env} {body : List Stmt} {Q : Flow → Shared → Prop}
def NamesC (v1 v2 v3 : Value) (_ : Nat) (m : Str → Option Value) : Prop := m (Str.ofString "sizes") = some v1 ∧ m (Str.ofString "known") = some v2 ∧ m (Str.ofString "names") = some v3
theorem iter_names {x : Str} {px : Pos} {r l : Addr} {t u v : Tok} {m₀ : Str → Option Value} {news fix : List (Addr × Obj)} {a₀ b₀ c₀ : Int} {ta₀ tb₀ tc₀ : Tok} {ep₀ : Nat} {v1 v2 v3 : Value}
    (hh : A.handled = none) (F : Fr h₀ env.locals s.heap m₀) (N : News h₀ env.locals s.heap news) (hr : IsRange s.heap r 0 8 1 t u v)
    (hm1 : m₀ (Str.ofString "sizes") = some v1) (hm2 : m₀ (Str.ofString "known") = some v2) (hm3 : m₀ (Str.ofString "names") = some v3) (_hm : (l, W.listOf #[.int a₀ ta₀, .int b₀ tb₀, .int c₀ tc₀] ep₀) ∈ news) (hO : OutF l (W.listOf #[.int a₀ ta₀, .int b₀ tb₀, .int c₀ tc₀] ep₀) news fix) (hp : PenOk a₀ b₀ c₀ 0)
    (turn : ∀ (I : Addr) (i : Nat) (t : Tok) (it : Obj) (a b c : Int) (ta tb tc : Tok) (ep : Nat) (m : Str → Option Value) (h : Heap) (tk : Nat), (∀ p ∈ fix, p.1 < I) → @LT.lt Nat _ l I → i < 8 → PenOk a b c (0 + 4 * (i : Int)) → m (Str.ofString "sizes") = some v1 → m (Str.ofString "known") = some v2 → m (Str.ofString "names") = some v3 → Fr h₀ env.locals h m → News h₀ env.locals h ((I, it) :: (l, W.listOf #[.int a ta, .int b tb, .int c tc] ep) :: fix) →
      wpAny (model prog w) A (assign (.Name x px) env (.int (0 + (i : Int)) t)) (fun _ s₂ => wpAny (model prog w) A (execs body env) (UnrPostW h₀ env.locals { s with heap := h, toks := tk } [(I, it)] (PenJ l fix (NamesC v1 v2 v3) (fun i => 0 + 4 * (i : Int)) (i + 1)) Q) E s₂) E { s with heap := h, toks := tk })
    (fin : ∀ (a b c : Int) (ta tb tc : Tok) (ep : Nat) (m : Str → Option Value) (h : Heap) (tk : Nat), PenOk a b c 32 → m (Str.ofString "sizes") = some v1 → Fr h₀ env.locals h m → News h₀ env.locals h ((l, W.listOf #[.int a ta, .int b tb, .int c tc] ep) :: fix) → Q .next { s with heap := h, toks := tk }) :
    wpAny (model prog w) A (pyIter (.ref r)) (fun it s₂ => TurnsAt prog w A h₀ env (.Name x px) body Q E it s₂) E s := by
  refine iter_pen (n := 8) (UsePen.mk (NamesC v1 v2 v3) (fun i => 0 + 4 * (i : Int))) hh F N hr (by decide) (by decide +kernel) hO (by simpa using hp) ⟨hm1, hm2, hm3⟩ ?_ ?_
  · intro I i t it a b c ta tb tc ep m h tk h1 h2 h3 h4 h5 F1 N1
    exact turn I i t it a b c ta tb tc ep m h tk h1 h2 h3 h4 h5.1 h5.2.1 h5.2.2 F1 N1
  · intro a b c ta tb tc ep m h tk h1 h2 F1 N1
    exact fin a b c ta tb tc ep m h tk (by simpa using h1) h2.1 F1 N1
def TextsC (v1 v2 : Value) (i : Nat) (m : Str → Option Value) : Prop := (m (Str.ofString "sizes") = some v1 ∧ m (Str.ofString "octets") = some v2) ∧ ∃ x t, m (Str.ofString "text") = some (.str x t) ∧ x.length ≤ limT i ∧ Signs (fun c => c < 128) x
theorem iter_texts {x : Str} {px : Pos} {r l : Addr} {t u v : Tok} {m₀ : Str → Option Value} {news fix : List (Addr × Obj)} {a₀ b₀ c₀ j₀ : Int} {ta₀ tb₀ tc₀ : Tok} {ep₀ : Nat} {v1 v2 : Value} {x₀ : Str} {t₀ : Tok}
    (hh : A.handled = none) (F : Fr h₀ env.locals s.heap m₀) (N : News h₀ env.locals s.heap news) (hr : IsRange s.heap r 0 3 1 t u v)
    (hm1 : m₀ (Str.ofString "sizes") = some v1) (hm2 : m₀ (Str.ofString "octets") = some v2) (hm3 : m₀ (Str.ofString "text") = some (.str x₀ t₀)) (hx : x₀.length ≤ 11) (hsg : Signs (fun c => c < 128) x₀) (_hm : (l, W.listOf #[.int a₀ ta₀, .int b₀ tb₀, .int c₀ tc₀] ep₀) ∈ news) (hO : OutF l (W.listOf #[.int a₀ ta₀, .int b₀ tb₀, .int c₀ tc₀] ep₀) news fix) (hp : PenOk a₀ b₀ c₀ j₀)
    (turn : ∀ (I : Addr) (i : Nat) (t : Tok) (it : Obj) (a b c : Int) (ta tb tc : Tok) (ep : Nat) (x1 : Str) (t1 : Tok) (m : Str → Option Value) (h : Heap) (tk : Nat), (∀ p ∈ fix, p.1 < I) → @LT.lt Nat _ l I → i < 3 → PenOk a b c (j₀ + 3 * (i : Int)) → m (Str.ofString "sizes") = some v1 → m (Str.ofString "octets") = some v2 → m (Str.ofString "text") = some (.str x1 t1) → x1.length ≤ limT i → limT i ≤ 47 → limT (i + 1) = 2 * limT i + 1 → Signs (fun c => c < 128) x1 → Fr h₀ env.locals h m → News h₀ env.locals h ((I, it) :: (l, W.listOf #[.int a ta, .int b tb, .int c tc] ep) :: fix) →
      wpAny (model prog w) A (assign (.Name x px) env (.int (0 + (i : Int)) t)) (fun _ s₂ => wpAny (model prog w) A (execs body env) (UnrPostW h₀ env.locals { s with heap := h, toks := tk } [(I, it)] (PenJ l fix (TextsC v1 v2) (fun i => j₀ + 3 * (i : Int)) (i + 1)) Q) E s₂) E { s with heap := h, toks := tk })
    (fin : ∀ (a b c : Int) (ta tb tc : Tok) (ep : Nat) (m : Str → Option Value) (h : Heap) (tk : Nat), m (Str.ofString "sizes") = some v1 → m (Str.ofString "octets") = some v2 → Fr h₀ env.locals h m → News h₀ env.locals h ((l, W.listOf #[.int a ta, .int b tb, .int c tc] ep) :: fix) → Q .next { s with heap := h, toks := tk }) :
    wpAny (model prog w) A (pyIter (.ref r)) (fun it s₂ => TurnsAt prog w A h₀ env (.Name x px) body Q E it s₂) E s := by
  refine iter_pen (n := 3) (UsePen.mk (TextsC v1 v2) (fun i => j₀ + 3 * (i : Int))) hh F N hr (by decide) (by decide +kernel) hO (by simpa using hp) ⟨⟨hm1, hm2⟩, x₀, t₀, hm3, hx, hsg⟩ ?_ ?_
  · rintro I i t it a b c ta tb tc ep m h tk h1 h2 h3 h4 ⟨⟨c1, c2⟩, x1, t1, c3, c4, c5⟩ F1 N1
    exact turn I i t it a b c ta tb tc ep x1 t1 m h tk h1 h2 h3 h4 c1 c2 c3 c4 (limT_3 h3).1 rfl c5 F1 N1
  · rintro a b c ta tb tc ep m h tk h1 ⟨⟨c1, c2⟩, _⟩ F1 N1
    exact fin a b c ta tb tc ep m h tk c1 c2 F1 N1
end
end Mine
namespace Mine
open PySem PySem.W PySem.Calls PyProof.Rows
/-- a bent text's bounds, turn by turn -/
theorem bent_95 {x sg y : Str} {i : Nat} (hb : BentP x sg y) (hx : x.length ≤ limT i) (hl : limT i ≤ 47) : y.length ≤ 100 := by
  have := hb.1
  lia
theorem bent_lim {x sg y : Str} {i : Nat} (hb : BentP x sg y) (hx : x.length ≤ limT i) (hl : limT (i + 1) = 2 * limT i + 1) : y.length ≤ limT (i + 1) := by
  have := hb.1
  lia
theorem bent_sg {x sg y : Str} (hb : BentP x sg y) (hx : Signs (fun c => c < 128) x) (hs : Signs (fun c => c < 128) sg) : Signs (fun c => c < 128) y := hb.2 _ hx hs
theorem oct_100 {b : Array UInt8} (h : b.size ≤ 4) : (octText (KBw.bInts b)).length ≤ 100 := Nat.le_trans (octText_size _ (by rw [KBw.ints_length]; exact h)) (by decide)
theorem oct_11 {b : Array UInt8} (h : b.size ≤ 4) : (octText (KBw.bInts b)).length ≤ 11 := octText_size _ (by rw [KBw.ints_length]; exact h)
theorem oct_sg {b : Array UInt8} : Signs (fun c => c < 128) (octText (KBw.bInts b)) := (octText_ok (fun k hk => KBw.ints_in hk)).2.2.1
theorem size_le {b : Array UInt8} {n : Nat} {k : Int} (h : b.size ≤ n) (hn : n = k.toNat) (h1 : k < 5) : b.size ≤ 4 := by lia
theorem heard_read2 {x : Str} {v : Value} (hv : HeardP (Txt.lower x).cps.toList v) (h : Signs (fun c => c < 128) x) : ReadP x.cps.toList v := heard_read h hv
end Mine
namespace Mine
open PySem PySem.W PySem.Calls PyProof.Rows PyProof.Rows.LCg
section
variable {w : World} {s : Shared} {A A₀ : Around} {base h₀ : Heap} {outer : List Env} {L : Addr} {m : Str → Option Value} {env : Env} {fix : List (Addr × Obj)} {Q E : Value → Shared → Prop}
  {p : Program} {loose : List Str} {mean : ExcName → Option Value} {mg mb : Str → Option Value} {dp un : Nat} {gd : Option (List Code)}
/-- a draw inside a comprehension -/
theorem callTakeC {l I C D : Addr} {oI oC oD : Obj} {a b c j n : Int} {ta tb tc tn : Tok} {ep : Nat} (hp : PenOk a b c j) (hj : j < 100000) (hn : 0 < n) (hn2 : n < 100000) (B : Below A₀ base outer h₀) (F : Fr h₀ L s.heap m) (X : (Mine.hd.heap_39 w.params).In h₀)
    (N : News h₀ L s.heap ((I, oI) :: (C, oC) :: (D, oD) :: (l, W.listOf #[.int a ta, .int b tb, .int c tc] ep) :: fix)) (off : Off3 I C D ((l, W.listOf #[.int a ta, .int b tb, .int c tc] ep) :: fix)) (hfix : ∀ p ∈ fix, p.1 ≠ l) (T : Top p loose mean mg mb h₀)
    (hA : A = A0 dp un gd (env :: outer)) (hf : env.frame = some L) (hke : env.scope.kind = .function) (hd : dp + 2 * 1 < recursionLimit) (hun : un + 10 * 1 + 100 < cLine)
    (h : ∀ (k a' b' c' : Int) (ta tb tc t : Tok) (ep : Nat) (h' : Heap) (tk' : Nat), 0 ≤ k → k < n → PenOk a' b' c' (j + 1) → Fr h₀ L h' m → News h₀ L h' ((I, oI) :: (C, oC) :: (D, oD) :: (l, W.listOf #[.int a' ta, .int b' tb, .int c' tc] ep) :: fix) → Q (.int k t) { s with heap := h', toks := tk' }) :
    wpAny (model Challenge.rw_qz0048_01.row.prog w) A (call (.ref 242) [.ref l, .int n tn]) Q E s :=
  callTake (take_ok w l a b c j n ta tb tc tn ep hp hj hn hn2) B F X N (.tail (Ne.symm off.1.1) (.tail (Ne.symm off.1.2.1) (.tail (Ne.symm off.1.2.2) (.head hfix)))) T hA hf hke hd hun h
end
end Mine
end
section
theorem Mine.none_Num3 : True := by
  k_with_none
  w_top off
  trivial
set_option maxRecDepth 100000
open PySem PySem.W PySem.Calls PyProof.Rows
namespace Mine
/-- a ledger by its tail -/
inductive TailF (tl : List (Addr × Obj)) : List (Addr × Obj) → (List (Addr × Obj) → List (Addr × Obj)) → Prop
  | nil : TailF tl tl id
  | cons {a : Addr × Obj} {l : List (Addr × Obj)} {f : List (Addr × Obj) → List (Addr × Obj)} : TailF tl l f → TailF tl (a :: l) (fun t => a :: f t)
theorem TailF.eq {tl l : List (Addr × Obj)} {f : List (Addr × Obj) → List (Addr × Obj)} (h : TailF tl l f) : f tl = l := by
  induction h with
  | nil => rfl
  | cons _ ih => show _ :: _ = _; rw [ih]
theorem TailF.mem {tl l : List (Addr × Obj)} {f : List (Addr × Obj) → List (Addr × Obj)} (h : TailF tl l f) {x : Addr × Obj} : ∀ p ∈ f (x :: tl), p = x ∨ p ∈ l := by
  induction h with
  | nil => exact fun p hp => List.mem_cons.mp hp
  | cons _ ih =>
    intro p hp
    rcases List.mem_cons.mp hp with rfl | hp
    · exact .inr (.head _)
    · rcases ih p hp with e | e
      · exact .inl e
      · exact .inr (.tail _ e)
theorem codeAmong_app {pos : Pos} {a b : Int} {ta tb : Tok} {c : Value} : ∀ (l : List Value), TriplesOk l → codeAmong pos (l ++ [.int a ta, .int b tb, c]) = (codeAmong pos l <|> if a == pos.line && b == pos.col then some c else none) := by
  intro l h
  fun_induction TriplesOk l with
  | case1 => simp [codeAmong]
  | case2 i _ j _ c' r ih =>
    simp only [List.cons_append, codeAmong]
    split
    · simp
    · rw [ih h]
  | case3 l h1 h2 => exact absurd h (by simp)
/-- the code table of a def's lambdas -/
def TabOk (qual : Str) (ps : Array Value) (tl : List (Addr × Obj)) : Prop :=
  TriplesOk ps.toList ∧ ∀ pos c, codeAmong pos ps.toList = some c → ∃ c' oc vs t, c = .ref c' ∧ (c', oc) ∈ tl ∧ oc.data = .fields vs ∧ vs[1]? = some (.str qual t)
theorem TabOk.nil {qual : Str} {tl : List (Addr × Obj)} : TabOk qual #[] tl := ⟨trivial, fun _ _ h => nomatch h⟩
section
variable {M : Model} {A : Around} {E : Value → Shared → Prop} {s : Shared} {h₀ : Heap} {L a c P : Addr} {m mg mb : Str → Option Value} {cn : Str} {cs : Scope} {ccd : Value} {cl : List (Str × Addr)} {news kl tl : List (Addr × Obj)} {kf : List (Addr × Obj) → List (Addr × Obj)}
  {p : Program} {loose : List Str} {mean : ExcName → Option Value} {name qual : Str} {params : Arguments} {body : PySem.Expr} {scope : Scope} {ps : Array Value} {pos : Pos} {firstLine : Nat} {clos : List (Str × Addr)}
theorem lamAny {Q : Value → Shared → Prop} (hk : TabOk qual ps tl) (F : Fr h₀ L s.heap m) (N : News h₀ L s.heap news) (T : Top p loose mean mg mb h₀) (C : CodeHd h₀ c P) (hcd : ccd = .ref c) (hO : OutF P (tabObj ps) news kl) (hT : TailF tl kl kf)
    (hcl : closureFor scope (envX cn cs L a ccd cl) = pure clos)
    (h : ∀ (f c' : Addr) (oc : Obj) (vs : Array Value) (t : Tok) (ctv : Value) (h' : Heap) (tk : Nat) (ps' : Array Value) (tl' : List (Addr × Obj)), Fr h₀ L h' m →
      News h₀ L h' ((f, kla_obj name qual params body scope clos ((mg "__name__").getD .none) c' ctv) :: (P, tabObj ps') :: kf tl') → TabOk qual ps' tl' → (c', oc) ∈ tl' → oc.data = .fields vs → vs[1]? = some (.str qual t) →
      (∀ q ∈ (P, tabObj ps) :: kl, @LT.lt Nat _ q.1 f) → (∀ q ∈ tl, q ∈ tl') → (∀ q ∈ tl', q ∈ tl ∨ ∀ r ∈ (P, tabObj ps) :: kl, @LT.lt Nat _ r.1 q.1) → Q (.ref f) { s with heap := h', toks := tk }) :
    wpAny M A (makeFunction name qual params (.expr body) scope (envX cn cs L a ccd cl) [] [] [] pos firstLine) Q E s := by
  obtain ⟨m1, m2, m3⟩ := hO.mem
  have N' : News h₀ L s.heap ((P, tabObj ps) :: kl) := fun q hq => by
    rcases List.mem_cons.mp hq with rfl | hq
    · exact N _ m1
    · exact N _ (m2 q hq)
  have hsub : ∀ q ∈ tl, q ∈ kl := by
    have : ∀ {l : List (Addr × Obj)} {f}, TailF tl l f → ∀ q ∈ tl, q ∈ l := by
      intro l f ht
      induction ht with
      | nil => exact fun _ hq => hq
      | cons _ ih => exact fun q hq => .tail _ (ih q hq)
    exact this hT
  cases hf : codeAmong pos ps.toList with
  | some cv =>
    obtain ⟨c', oc, vs, t, rfl, hc, hd, hv⟩ := hk.2 pos cv hf
    refine kla_hit F N' T C hcd (.head _) hk.1 hf hcl fun f ctv h' tk F1 N1 hlt => ?_
    exact h f c' oc vs t ctv h' tk ps tl F1 (by rw [hT.eq]; exact N1) hk hc hd hv hlt (fun _ hq => hq) (fun q hq => .inl hq)
  | none =>
    refine kla_nest F N' T C hcd (.head m3) hk.1 hf hcl fun f c' oc vs t ctv h' tk F1 N1 hd hv hlt hlt2 => ?_
    refine h f c' oc vs t ctv h' tk (ps ++ #[rawInt pos.line, rawInt pos.col, .ref c']) ((c', oc) :: tl) F1 (fun q hq => ?_) ⟨?_, ?_⟩ (.head _) hd hv (fun q hq => Nat.lt_trans (hlt q hq) hlt2) (fun q hq => .tail _ hq) (fun q hq => ?_)
    · rcases List.mem_cons.mp hq with rfl | hq
      · exact N1 _ (.head _)
      rcases List.mem_cons.mp hq with rfl | hq
      · exact N1 _ (.tail _ (.tail _ (.head _)))
      rcases hT.mem q hq with rfl | hq
      · exact N1 _ (.tail _ (.head _))
      · exact N1 _ (.tail _ (.tail _ (.tail _ hq)))
    · have : ∀ l : List Value, TriplesOk l → TriplesOk (l ++ [rawInt pos.line, rawInt pos.col, .ref c']) := by
        intro l hl
        fun_induction TriplesOk l with
        | case1 => trivial
        | case2 i _ j _ c2 r ih => exact ih hl
        | case3 l h1 h2 => exact absurd hl (by simp)
      simpa using this _ hk.1
    · intro pos' c2 hc2
      have e : codeAmong pos' (ps ++ #[rawInt pos.line, rawInt pos.col, .ref c']).toList = (codeAmong pos' ps.toList <|> if (pos.line : Int) == pos'.line && (pos.col : Int) == pos'.col then some (.ref c') else none) := by
        rw [Array.toList_append]
        exact codeAmong_app _ hk.1
      rw [e] at hc2
      cases h2 : codeAmong pos' ps.toList with
      | some c3 =>
        rw [h2] at hc2
        have : c3 = c2 := Option.some.inj hc2
        subst this
        obtain ⟨c4, oc4, vs4, t4, a1, a2, a3, a4⟩ := hk.2 pos' c3 h2
        exact ⟨c4, oc4, vs4, t4, a1, .tail _ a2, a3, a4⟩
      | none =>
        rw [h2] at hc2
        have hc2 : (if (pos.line : Int) == pos'.line && (pos.col : Int) == pos'.col then some (Value.ref c') else none) = some c2 := hc2
        split at hc2
        · exact ⟨c', oc, vs, t, (Option.some.inj hc2).symm, .head _, hd, hv⟩
        · cases hc2
    · rcases List.mem_cons.mp hq with rfl | hq
      · exact .inr hlt
      · exact .inl hq
end
/-- off facts for a tail that grew -/
theorem grow_ne {b : Addr} {tl tl' all : List (Addr × Obj)} {o : Obj} (h : ∀ p ∈ tl, p.1 ≠ b) (hg : ∀ q ∈ tl', q ∈ tl ∨ ∀ r ∈ all, @LT.lt Nat _ r.1 q.1) (hm : (b, o) ∈ all) : ∀ p ∈ tl', p.1 ≠ b := fun p hp => by
  rcases hg p hp with h1 | h1
  · exact h p h1
  · exact Ne.symm (Nat.ne_of_lt (h1 _ hm))
end Mine
end
section
theorem Mine.none_Num4 : True := by
  k_with_none
  w_top off
  trivial
set_option maxRecDepth 100000
open PySem PySem.W PySem.Calls PyProof.Rows
namespace Mine
def OffT (ks : List Addr) (tl : List (Addr × Obj)) : Prop := ∀ k ∈ ks, ∀ p ∈ tl, @Ne Nat p.1 k
/-- the state between turns: the code table, the outer frame, the two cells, what is fixed, a tail -/
def NumJ (qual : Str) (Ll cN cS : Addr) (dL : Data) (PN : Obj → Prop) (fix : List (Addr × Obj)) (ks : List Addr) (rest : List (Addr × Obj)) (C : (Str → Option Value) → Prop) (_ : Nat) (m : Str → Option Value) (n : List (Addr × Obj)) : Prop :=
  ∃ ps oLl oN oS vS tl, n = (256, tabObj ps) :: (Ll, oLl) :: (cN, oN) :: (cS, oS) :: (fix ++ tl) ∧ oLl.data = dL ∧ PN oN ∧ oS.data = .cell vS ∧ TabOk qual ps tl ∧ (∀ p ∈ rest, p ∈ tl) ∧ OffT ks tl ∧ C m
def UseNum (qual : Str) (Ll cN cS : Addr) (dL : Data) (PN : Obj → Prop) (fix : List (Addr × Obj)) (ks : List Addr) (rest : List (Addr × Obj)) (C : (Str → Option Value) → Prop) : Prop := qual = qual ∧ Ll = Ll ∧ cN = cN ∧ cS = cS ∧ dL = dL ∧ PN = PN ∧ fix = fix ∧ ks = ks ∧ rest = rest ∧ C = C
theorem UseNum.mk {qual : Str} {Ll cN cS : Addr} {dL : Data} {PN : Obj → Prop} {fix : List (Addr × Obj)} {ks : List Addr} {rest : List (Addr × Obj)} {C : (Str → Option Value) → Prop} : UseNum qual Ll cN cS dL PN fix ks rest C := ⟨rfl, rfl, rfl, rfl, rfl, rfl, rfl, rfl, rfl, rfl⟩
section
variable {prog : Program} {w : World} {A : Around} {E : Value → Shared → Prop} {s : Shared} {h₀ : Heap} {env : Env} {body : List Stmt} {Q : Flow → Shared → Prop}
  {qual : Str} {Ll cN cS : Addr} {dL : Data} {PN : Obj → Prop} {fix : List (Addr × Obj)} {ks : List Addr} {rest : List (Addr × Obj)} {C : (Str → Option Value) → Prop}
theorem iter_nums {x : Str} {px : Pos} {r : Addr} {a b : Int} {t u v : Tok} {n : Nat} {m₀ : Str → Option Value} {news : List (Addr × Obj)} {ps₀ : Array Value} {oLl₀ oN₀ oS₀ : Obj} {vS₀ : Option Value} (_ : UseNum qual Ll cN cS dL PN fix ks rest C)
    (hh : A.handled = none) (F : Fr h₀ env.locals s.heap m₀) (N : News h₀ env.locals s.heap news)
    (hr : IsRange s.heap r a b 1 t u v) (hsm : Builtin.Range.small a b 1 = true) (hn : Builtin.Range.rangeSize a b 1 = ((n : Nat) : Int))
    (hsub : ∀ p ∈ (256, tabObj ps₀) :: (Ll, oLl₀) :: (cN, oN₀) :: (cS, oS₀) :: (fix ++ rest), p ∈ news) (hdL : oLl₀.data = dL) (hPN : PN oN₀) (hdS : oS₀.data = .cell vS₀) (hT : TabOk qual ps₀ rest) (hoff : OffT ks rest) (hC : C m₀)
    (turn : ∀ (I : Addr) (i : Nat) (t : Tok) (it : Obj) (ps : Array Value) (oLl oN oS : Obj) (vS : Option Value) (tl : List (Addr × Obj)) (m : Str → Option Value) (h : Heap) (tk : Nat), (∀ p ∈ (256, tabObj ps₀) :: (Ll, oLl₀) :: (cN, oN₀) :: (cS, oS₀) :: (fix ++ rest), @LT.lt Nat _ p.1 I) → i < n → it.cls = .type "range_iterator" →
      oLl.data = dL → PN oN → oS.data = .cell vS → TabOk qual ps tl → (∀ p ∈ rest, p ∈ tl) → OffT (I :: ks) tl → C m → Fr h₀ env.locals h m → News h₀ env.locals h ((I, it) :: (256, tabObj ps) :: (Ll, oLl) :: (cN, oN) :: (cS, oS) :: (fix ++ tl)) →
      wpAny (model prog w) A (assign (.Name x px) env (.int (a + (i : Int)) t)) (fun _ s₂ => wpAny (model prog w) A (execs body env) (UnrPostW h₀ env.locals { s with heap := h, toks := tk } [(I, it)] (NumJ qual Ll cN cS dL PN fix (I :: ks) rest C (i + 1)) Q) E s₂) E { s with heap := h, toks := tk })
    (fin : ∀ (ps : Array Value) (oLl oN oS : Obj) (vS : Option Value) (tl : List (Addr × Obj)) (m : Str → Option Value) (h : Heap) (tk : Nat), oLl.data = dL → PN oN → oS.data = .cell vS → TabOk qual ps tl → (∀ p ∈ rest, p ∈ tl) → OffT ks tl → C m → Fr h₀ env.locals h m →
      News h₀ env.locals h ((256, tabObj ps) :: (Ll, oLl) :: (cN, oN) :: (cS, oS) :: (fix ++ tl)) → Q .next { s with heap := h, toks := tk }) :
    wpAny (model prog w) A (pyIter (.ref r)) (fun it s₂ => TurnsAt prog w A h₀ env (.Name x px) body Q E it s₂) E s := by
  refine iter_rangeJ (news := (256, tabObj ps₀) :: (Ll, oLl₀) :: (cN, oN₀) :: (cS, oS₀) :: (fix ++ rest)) hh F (fun p hp => N p (hsub p hp)) hr hsm hn (fun I => NumJ qual Ll cN cS dL PN fix (I :: ks) rest C) (fun I hI => ?_) ?_ ?_

  · refine ⟨ps₀, oLl₀, oN₀, oS₀, vS₀, rest, rfl, hdL, hPN, hdS, hT, fun _ hp => hp, fun k hk p hp => ?_, hC⟩
    rcases List.mem_cons.mp hk with rfl | hk
    · exact Nat.ne_of_lt (hI p (.tail _ (.tail _ (.tail _ (.tail _ (List.mem_append_right _ hp))))))
    · exact hoff k hk p hp
  · rintro I i t it m nw h tk hI hi hit ⟨ps, oLl, oN, oS, vS, tl, rfl, h1, h2, h3, h4, h5, h6, h7⟩ F1 N1
    exact turn I i t it ps oLl oN oS vS tl m h tk hI hi hit h1 h2 h3 h4 h5 h6 h7 F1 N1
  · rintro I m nw h tk ⟨ps, oLl, oN, oS, vS, tl, rfl, h1, h2, h3, h4, h5, h6, h7⟩ F1 N1
    exact fin ps oLl oN oS vS tl m h tk h1 h2 h3 h4 h5 (fun k hk => h6 k (.tail _ hk)) h7 F1 N1
theorem numEnd {L : Addr} {s₁ : Shared} {h' : Heap} {tk : Nat} {m' : Str → Option Value} {all tl : List (Addr × Obj)} {I : Addr} {it : Obj} {ps : Array Value} {oLl oN oS : Obj} {vS : Option Value} {i : Nat}
    (F : Fr h₀ L h' m') (N : News h₀ L h' all) (hsub : ∀ p ∈ (I, it) :: (256, tabObj ps) :: (Ll, oLl) :: (cN, oN) :: (cS, oS) :: (fix ++ tl), p ∈ all) (hI : ∀ p ∈ (256, tabObj ps) :: (Ll, oLl) :: (cN, oN) :: (cS, oS) :: fix, @Ne Nat p.1 I)
    (h1 : oLl.data = dL) (h2 : PN oN) (h3 : oS.data = .cell vS) (h4 : TabOk qual ps tl) (h5 : ∀ p ∈ rest, p ∈ tl) (h6 : OffT (I :: ks) tl) (h7 : C m') :
    UnrEndW h₀ L s₁ [(I, it)] (NumJ qual Ll cN cS dL PN fix (I :: ks) rest C i) { s₁ with heap := h', toks := tk } := by
  refine ⟨h', tk, m', _, rfl, F, fun p hp => N p (hsub p ?_), fun p hp q hq => ?_, ps, oLl, oN, oS, vS, tl, rfl, h1, h2, h3, h4, h5, h6, h7⟩
  · rcases List.mem_append.mp hp with hp | hp
    · rw [List.mem_singleton.mp hp]; exact .head _
    · exact .tail _ hp
  · rw [List.mem_singleton.mp hq]
    have : p ∈ ((256, tabObj ps) :: (Ll, oLl) :: (cN, oN) :: (cS, oS) :: fix) ++ tl := hp
    rcases List.mem_append.mp this with hp | hp
    · exact hI p hp
    · exact h6 I (.head _) p hp
theorem iter_sizes {x : Str} {px : Pos} {ax : Addr} {lo : Obj} {ns : List Int} {vs : List Value} {nn : Nat} {m₀ : Str → Option Value} {news : List (Addr × Obj)} {ps₀ : Array Value} {oLl₀ oN₀ oS₀ : Obj} {vS₀ : Option Value} (_ : UseNum qual Ll cN cS dL PN fix ks rest C)
    (hh : A.handled = none) (F : Fr h₀ env.locals s.heap m₀) (N : News h₀ env.locals s.heap news) (hm : (ax, lo) ∈ fix) (hc : lo.cls = .type "tuple") (hd : lo.data = .seq vs.toArray nn) (hi : IntsAre vs ns)
    (hsub : ∀ p ∈ (256, tabObj ps₀) :: (Ll, oLl₀) :: (cN, oN₀) :: (cS, oS₀) :: (fix ++ rest), p ∈ news) (hdL : oLl₀.data = dL) (hPN : PN oN₀) (hdS : oS₀.data = .cell vS₀) (hT : TabOk qual ps₀ rest) (hoff : OffT ks rest) (hC : C m₀)
    (turn : ∀ (I : Addr) (i : Nat) (z : Int) (t : Tok) (it : Obj) (ps : Array Value) (oLl oN oS : Obj) (vS : Option Value) (tl : List (Addr × Obj)) (m : Str → Option Value) (h : Heap) (tk : Nat), (∀ p ∈ (256, tabObj ps₀) :: (Ll, oLl₀) :: (cN, oN₀) :: (cS, oS₀) :: (fix ++ rest), @LT.lt Nat _ p.1 I) → z ∈ ns → it.cls = .type "tuple_iterator" →
      oLl.data = dL → PN oN → oS.data = .cell vS → TabOk qual ps tl → (∀ p ∈ rest, p ∈ tl) → OffT (I :: ks) tl → C m → Fr h₀ env.locals h m → News h₀ env.locals h ((I, it) :: (256, tabObj ps) :: (Ll, oLl) :: (cN, oN) :: (cS, oS) :: (fix ++ tl)) →
      wpAny (model prog w) A (assign (.Name x px) env (.int z t)) (fun _ s₂ => wpAny (model prog w) A (execs body env) (UnrPostW h₀ env.locals { s with heap := h, toks := tk } [(I, it)] (NumJ qual Ll cN cS dL PN fix (I :: ks) rest C (i + 1)) Q) E s₂) E { s with heap := h, toks := tk })
    (fin : ∀ (ps : Array Value) (oLl oN oS : Obj) (vS : Option Value) (tl : List (Addr × Obj)) (m : Str → Option Value) (h : Heap) (tk : Nat), oLl.data = dL → PN oN → oS.data = .cell vS → TabOk qual ps tl → (∀ p ∈ rest, p ∈ tl) → OffT ks tl → C m → Fr h₀ env.locals h m →
      News h₀ env.locals h ((256, tabObj ps) :: (Ll, oLl) :: (cN, oN) :: (cS, oS) :: (fix ++ tl)) → Q .next { s with heap := h, toks := tk }) :
    wpAny (model prog w) A (pyIter (.ref ax)) (fun it s₂ => TurnsAt prog w A h₀ env (.Name x px) body Q E it s₂) E s := by
  have N' : News h₀ env.locals s.heap ((256, tabObj ps₀) :: (Ll, oLl₀) :: (cN, oN₀) :: (cS, oS₀) :: (fix ++ rest)) := fun p hp => N p (hsub p hp)
  have hm' : ∀ {ps : Array Value} {oLl oN oS : Obj} {tl : List (Addr × Obj)}, (ax, lo) ∈ (256, tabObj ps) :: (Ll, oLl) :: (cN, oN) :: (cS, oS) :: (fix ++ tl) := .tail _ (.tail _ (.tail _ (.tail _ (List.mem_append_left _ hm))))
  refine iter_tupTurns hh F N' hm' hc hd fun I hI => ?_
  refine items_J (keep := [(ax, lo)]) (J := NumJ qual Ll cN cS dL PN fix (I :: ks) rest C) (all := vs.map .val) ?_ ?_ ?_ _ 0 m₀ _ rfl (Nat.zero_le _) ?_
  · rintro i m n ⟨ps, oLl, oN, oS, vS, tl, rfl, _⟩
    exact ⟨hm', trivial⟩
  · rintro i a' v h tk m nw hi' hv ⟨ps, oLl, oN, oS, vS, tl, rfl, h1, h2, h3, h4, h5, h6, h7⟩ F1
    rw [List.getElem?_map] at hi'
    cases e : vs[i]? with
    | none => rw [e] at hi'; cases hi'
    | some y =>
      rw [e] at hi'
      have ea := Option.some.inj hi'
      subst ea
      have ev : v = y := hv
      subst ev
      obtain ⟨k, t, rfl, hk⟩ := IntsAre.at hi i v e
      refine AllObj.cons fun it hit => AllObj.nil ?_
      intro N1
      exact turn I i k t it ps oLl oN oS vS tl m h tk hI (List.mem_of_getElem? hk) hit h1 h2 h3 h4 h5 h6 h7 F1 N1
  · rintro m nw h tk ⟨ps, oLl, oN, oS, vS, tl, rfl, h1, h2, h3, h4, h5, h6, h7⟩ F1 N1
    exact fin ps oLl oN oS vS tl m h tk h1 h2 h3 h4 h5 (fun k hk => h6 k (.tail _ hk)) h7 F1 N1
  · refine ⟨ps₀, oLl₀, oN₀, oS₀, vS₀, rest, rfl, hdL, hPN, hdS, hT, fun _ hp => hp, fun k hk p hp => ?_, hC⟩
    rcases List.mem_cons.mp hk with rfl | hk
    · exact Nat.ne_of_lt (hI p (.tail _ (.tail _ (.tail _ (.tail _ (List.mem_append_right _ hp))))))
    · exact hoff k hk p hp
end
/-- the sizes' dict at one size -/
def SizeAt (rest : List (Addr × Obj)) (skv : List (Int × Value)) (k : Int) (xs : List Str) : Prop := ∃ D vs n, valueAt skv k = some (.ref D) ∧ (D, (⟨.type "list", none, .seq vs.toArray n, #[]⟩ : Obj)) ∈ rest ∧ StrsAre vs xs
theorem size_at {rest : List (Addr × Obj)} {zs : List (Int × List Str)} {skv : List (Int × Value)} (h : SizesIs rest zs skv) {k : Int} {xs : List Str} (hf : zs.find? (fun z => z.1 == k) = some (k, xs)) : SizeAt rest skv k xs := by
  induction h with
  | nil => cases hf
  | @cons j ys zs skv D vs n hm ht _ ih =>
    by_cases e : j = k
    · subst e
      have : ys = xs := by simpa using hf
      subst this
      exact ⟨D, vs, n, by simp [valueAt], hm, ht⟩
    · rw [List.find?_cons_of_neg (by simpa using e)] at hf
      obtain ⟨D', vs', n', a, b, c⟩ := ih hf
      refine ⟨D', vs', n', ?_, b, c⟩
      unfold valueAt at a ⊢
      rw [List.find?_cons_of_neg (by simpa using e)]
      exact a
theorem sizes_all {rest : List (Addr × Obj)} {skv : List (Int × Value)} (h : SizesIs rest allZs skv) : SizeAt rest skv 8 (gprNames 8) ∧ SizeAt rest skv 16 (gprNames 16) ∧ SizeAt rest skv 32 (gprNames 32) ∧ SizeAt rest skv 64 (gprNames 64) ∧ SizeAt rest skv 128 xmmNames :=
  ⟨size_at h (by decide +kernel), size_at h (by decide +kernel), size_at h (by decide +kernel), size_at h (by decide +kernel), size_at h (by decide +kernel)⟩
end Mine
end
section
open PySem PySem.W PySem.Calls PyProof.Rows
namespace Mine
theorem rows_C15_1 : True := by
  k_with_none
  k_with "m:on" => skip
  k_with "m:klt" => (intro l0; replace l0 := allLt_of l0; dsimp only [AllLt] at l0; (repeat (have := And.left l0; replace l0 := And.right l0)); revert l0)
  k_with "m:ktr_room" => k_dflt (first | exact rm1 (by with_reducible assumption) rfl | exact rm2 (by with_reducible assumption) rfl | exact rm3 (by with_reducible assumption) rfl)
  k_with "m:ktr_units" => k_dflt (first | exact un0 (by with_reducible assumption) rfl | exact un1 (by with_reducible assumption) rfl | exact un2 (by with_reducible assumption) rfl | exact un3 (by with_reducible assumption) rfl)
  k_with "m:k_ne" => (refine neN ?_; (try dsimp only); first | with_reducible assumption | exact Ne.symm (by with_reducible assumption) | exact Nat.ne_of_lt (by with_reducible assumption) | exact Nat.ne_of_gt (by with_reducible assumption) | lia)
  k_with "m:cell_enter" => (refine' enterGC ?zk1_C15r1 ?zk2_C15r1 ?zk3_C15r1 ?zk4_C15r1 ?zk5_C15r1 ?zk6_C15r1 ?zk7_C15r1 ?zk8_C15r1 ?zk9_C15r1 ?zkB_C15r1 ?zkD_C15r1 ?_ ?zc2_C15r1 ?zc3_C15r1 ?zc4_C15r1; (case zk1_C15r1 => k_asm); (case zk2_C15r1 => k_asm); (case zk3_C15r1 => k_asm); (case zk4_C15r1 => k_asm); (case zk5_C15r1 => k_asm); (case zk6_C15r1 => k_is); (case zk7_C15r1 => k_is); (case zk8_C15r1 => lia); (case zk9_C15r1 => first | exact BindsTo.of_eq rfl | exact binds_K (by k_in) rfl (by k_is) rfl rfl rfl); (case zkB_C15r1 => exact rfl); (case zkD_C15r1 => decide +kernel); (case zc2_C15r1 => exact rfl); (case zc3_C15r1 => exact rfl); (case zc4_C15r1 => exact rfl); k_whole; intro L' h' tk' cells' F' N' Y' l1; (try k_lt l1); k_cells Y'; (try simp only [List.cons_append, List.nil_append, List.append_nil] at N'); (try dsimp only); (try k_fold))
  k_with "m:cell_enter" => (first | (refine' enterG ?zk1_C15r2 ?zk2_C15r2 ?zk3_C15r2 ?zk4_C15r2 ?zk5_C15r2 ?zk6_C15r2 ?zk7_C15r2 ?zk8_C15r2 ?zk9_C15r2 ?zkB_C15r2 ?_ ?zc2_C15r2 ?zc3_C15r2 ?zc4_C15r2 ?zc5_C15r2; (case zk1_C15r2 => k_asm); (case zk2_C15r2 => k_asm); (case zk3_C15r2 => k_asm); (case zk4_C15r2 => k_asm); (case zk5_C15r2 => k_asm); (case zk6_C15r2 => k_is); (case zk7_C15r2 => k_is); (case zk8_C15r2 => lia); (case zk9_C15r2 => first | exact BindsTo.of_eq rfl | exact binds_K (by k_in) rfl (by k_is) rfl rfl rfl); (case zc5_C15r2 => decide); (case zkB_C15r2 => exact locs rfl); (case zc2_C15r2 => exact rfl); (case zc3_C15r2 => exact rfl); (case zc4_C15r2 => exact rfl); k_whole; intro L' h' F' N' l1; (try k_lt l1); (try dsimp only); (try k_fold)) | fail)
  k_with "m:exec Raise some none" => (k_here; (with_reducible show wpAny _ _ (exec (Stmt.Raise (some (Expr.Call (Expr.Name _ _) _ _ _)) none _) _) _ _ _); k_dflt (refine Raise_mint (by exact rfl) ?_))
  k_with "m:call ref" => (k_here; (with_reducible show wpAny _ _ (call (Value.ref _) [Value.str _ _]) (RaisedO _) _ _); k_dflt (refine' mint_callN PySem.F.excBase_Exception ?zX_C15r4 ?zF_C15r4 ?zN_C15r4 ?zC_C15r4 ?zi_C15r4 ?zf_C15r4 ?zc_C15r4 ?_; (case zX_C15r4 => k_asm); (case zF_C15r4 => k_asm); (case zN_C15r4 => k_asm); (case zC_C15r4 => k_is); (case zi_C15r4 => k_is); (case zf_C15r4 => k_is); (case zc_C15r4 => rfl); k_whole); intro e' t' h' F' N' l1 l2; (try k_lt l1); (try k_lt2 l2); k_dflt (refine wpAny_call ?_; k_enter))
  k_with "m:getMethod type:Exception" => (k_here; refine' method_type ?zF_C15r5 ?zX_C15r5 ?zm_C15r5 (by decide +kernel) ?ze_C15r5 ?zh_C15r5 ?_; (case zF_C15r5 => k_asm); (case zX_C15r5 => k_asm); (case zm_C15r5 => exact meta_Exception); (case ze_C15r5 => k_dflt k_is); (case zh_C15r5 => k_handed))
  k_with "m:call builtin:Exception.__init__" => (k_here; k_dflt (refine' exc_initN' PySem.F.excBase_Exception ?zC_C15r6 ?zF_C15r6 ?zN_C15r6 ?zh2_C15r6 ?_; (case zF_C15r6 => k_asm); (case zN_C15r6 => k_asm); (case zC_C15r6 => exact Frag.In.keeps (by k_asm) (Fr.keep (by k_asm)) _ _ (by k_is)); (case zh2_C15r6 => k_all); k_whole); intro D' h' F' N' l1; (try simp only [List.nil_append] at F' N' l1); (try k_lt l1))
  k_with "m:setAttr ref" => (k_here; k_dflt (refine' exc_set2 ?zF_C15r7 ?zX_C15r7 ?zN_C15r7 ?ze_C15r7 ?zU_C15r7 ?zs_C15r7 ?zc_C15r7 ?zm_C15r7 ?zd_C15r7 ?zt_C15r7 ?zn_C15r7 ?zq_C15r7 ?zz_C15r7 ?_; (case zF_C15r7 => k_asm); (case zX_C15r7 => k_asm); (case zN_C15r7 => k_asm); (case ze_C15r7 => k_mem); (case zU_C15r7 => k_upd); (case zs_C15r7 => k_is); (case zc_C15r7 => k_is); (case zm_C15r7 => rfl); (case zd_C15r7 => rfl); (case zt_C15r7 => k_is); (case zn_C15r7 => rfl); (case zq_C15r7 => rfl); (case zz_C15r7 => exact Nat.le_of_ble_eq_true rfl); k_whole); intro h' tk' F' N')
  k_with "m:setAttr ref" => (k_here; k_dflt (refine' exc_set1' ?zF_C15r8 ?zX_C15r8 ?zN_C15r8 ?zh1_C15r8 ?zh2_C15r8 ?zs_C15r8 ?zc_C15r8 ?zm_C15r8 ?zd_C15r8 ?zt_C15r8 ?_; (case zF_C15r8 => k_asm); (case zX_C15r8 => k_asm); (case zN_C15r8 => k_asm); (case zh1_C15r8 => k_ne); (case zh2_C15r8 => k_all); (case zs_C15r8 => k_is); (case zc_C15r8 => k_is); (case zm_C15r8 => rfl); (case zd_C15r8 => rfl); (case zt_C15r8 => k_is); k_whole); intro D' h' tk' F' N' l1; (try simp only [List.cons_append, List.nil_append] at F' N' l1); (try k_lt l1))
  k_with "m:RaisedO" => (k_dflt (refine' raisedO_of ?zX_C15r9 ?zF_C15r9 ?zN_C15r9 ?ze_C15r9 ?zC_C15r9 ?zb_C15r9 ?_; (case zX_C15r9 => k_asm); (case zF_C15r9 => k_asm); (case zN_C15r9 => k_asm); (case ze_C15r9 => k_mem); (case zC_C15r9 => k_is); (case zb_C15r9 => rfl); k_whole))
  k_with "m:leaving ref" => (k_here; k_dflt (refine' leave_mint4 ?zK_C15r10 ?zF_C15r10 ?zN_C15r10 ?zh1_C15r10 ?zh2_C15r10 ?_; (case zK_C15r10 => k_asm); (case zF_C15r10 => k_asm); (case zN_C15r10 => k_asm); (case zh1_C15r10 => k_all); (case zh2_C15r10 => k_all); k_whole); intro h' R' RK' U'; (try dsimp only at R' RK' U' ⊢))
  k_with "m:call ref" => (k_here; (with_reducible show wpAny _ _ (call (Value.ref 167) [Value.int _ _, Value.int _ _]) _ _ _); k_dflt (refine' callMayReg (gpr_ok _ _ _ _ _ ?zh_C15r11 ?zh2_C15r11) ?zB_C15r11 ?zF_C15r11 ?zX_C15r11 ?zN_C15r11 ?zT_C15r11 ?zA_C15r11 ?zf_C15r11 ?zk_C15r11 ?zd_C15r11 ?zu_C15r11 ?_ ?_; (case zF_C15r11 => k_asm); (case zB_C15r11 => k_asm); (case zX_C15r11 => k_asm); (case zN_C15r11 => k_asm); (case zT_C15r11 => k_asm); (case zA_C15r11 => exact rfl); (case zf_C15r11 => exact rfl); (case zk_C15r11 => exact rfl); (case zd_C15r11 => ktr_room); (case zu_C15r11 => ktr_units); (case zh_C15r11 => lia); (case zh2_C15r11 => lia); k_whole; (all_goals first | (intro hz x' d' u1 u2 u3 u4 u5 u6 u7 u8 h' tk' hx' F' N' l1 l2; (try dsimp only [AllNe] at l1 l2); (repeat (have := And.left l1; replace l1 := And.right l1)); (repeat (have := And.left l2; replace l2 := And.right l2))) | (intro hz e' t' ws' h' tk' R' RK' U'))))
  k_with "m:call ref" => (k_here; (with_reducible show wpAny _ _ (call (Value.ref 174) [Value.int _ _]) _ _ _); k_dflt (refine' callMayReg (high_ok _ _ _ ?zh_C15r12 ?zh2_C15r12) ?zB_C15r12 ?zF_C15r12 ?zX_C15r12 ?zN_C15r12 ?zT_C15r12 ?zA_C15r12 ?zf_C15r12 ?zk_C15r12 ?zd_C15r12 ?zu_C15r12 ?_ ?_; (case zF_C15r12 => k_asm); (case zB_C15r12 => k_asm); (case zX_C15r12 => k_asm); (case zN_C15r12 => k_asm); (case zT_C15r12 => k_asm); (case zA_C15r12 => exact rfl); (case zf_C15r12 => exact rfl); (case zk_C15r12 => exact rfl); (case zd_C15r12 => ktr_room); (case zu_C15r12 => ktr_units); (case zh_C15r12 => lia); (case zh2_C15r12 => lia); k_whole; (all_goals first | (intro hz x' d' u1 u2 u3 u4 u5 u6 u7 u8 h' tk' hx' F' N' l1 l2; (try dsimp only [AllNe] at l1 l2); (repeat (have := And.left l1; replace l1 := And.right l1)); (repeat (have := And.left l2; replace l2 := And.right l2))) | (intro hz e' t' ws' h' tk' R' RK' U'))))
  k_with "m:call ref" => (k_here; (with_reducible show wpAny _ _ (call (Value.ref 188) [Value.int _ _]) _ _ _); k_dflt (refine' callMayReg (xmm_ok _ _ _ ?zh_C15r13 ?zh2_C15r13) ?zB_C15r13 ?zF_C15r13 ?zX_C15r13 ?zN_C15r13 ?zT_C15r13 ?zA_C15r13 ?zf_C15r13 ?zk_C15r13 ?zd_C15r13 ?zu_C15r13 ?_ ?_; (case zF_C15r13 => k_asm); (case zB_C15r13 => k_asm); (case zX_C15r13 => k_asm); (case zN_C15r13 => k_asm); (case zT_C15r13 => k_asm); (case zA_C15r13 => exact rfl); (case zf_C15r13 => exact rfl); (case zk_C15r13 => exact rfl); (case zd_C15r13 => ktr_room); (case zu_C15r13 => ktr_units); (case zh_C15r13 => lia); (case zh2_C15r13 => lia); k_whole; (all_goals first | (intro hz x' d' u1 u2 u3 u4 u5 u6 u7 u8 h' tk' hx' F' N' l1 l2; (try dsimp only [AllNe] at l1 l2); (repeat (have := And.left l1; replace l1 := And.right l1)); (repeat (have := And.left l2; replace l2 := And.right l2))) | (intro hz e' t' ws' h' tk' R' RK' U'))))
  k_with "m:leaving ref" => (k_here; k_dflt (refine' leave_onE ?zK_C15r14 ?zF_C15r14 ?zR_C15r14 ?zU_C15r14 ?_ ?zf_C15r14; (case zf_C15r14 => exact rfl); (case zR_C15r14 => k_asm); (case zK_C15r14 => k_asm); (case zF_C15r14 => k_asm); (case zU_C15r14 => k_asm); k_whole); intro h' R' RK' U'; (try dsimp only at R' RK' U' ⊢))
  trivial

/-- octet_register's kind and name -/
def octName (b : Bool) (k : Int) : Str := if b = false ∧ 4 ≤ k ∧ k ≤ 7 then highs.getD (k - 4).toNat Str.empty else regName k 8
def octKind (b : Bool) (k : Int) : Str := if b = false ∧ 4 ≤ k ∧ k ≤ 7 then Str.ofString "high" else Str.ofString "gpr"
theorem octOut_high {P : Params} {k : Int} {x d : Addr} {t1 t2 t3 t4 t5 t6 t7 t8 : Tok} (h1 : 4 ≤ k) (h2 : k ≤ 7) (hx : @Ne Nat x d) :
    RegOut P (octName false k) (octKind false k) k 8 (.ref x) [(x, instObj 142 d), (d, regDict P (highs.getD (k - 4).toNat Str.empty) (Str.ofString "high") k 8 t1 t2 t3 t4 t5 t6 t7 t8)] := by
  have e : octKind false k = Str.ofString "high" := if_pos ⟨rfl, h1, h2⟩
  rw [e]
  exact regOut_of (if_pos ⟨rfl, h1, h2⟩).symm hx
theorem octOut_gpr {P : Params} {b : Bool} {k : Int} {x d : Addr} {t1 t2 t3 t4 t5 t6 t7 t8 : Tok} (h : ¬ (b = false ∧ 4 ≤ k ∧ k ≤ 7)) (hx : @Ne Nat x d) :
    RegOut P (octName b k) (octKind b k) k 8 (.ref x) [(x, instObj 142 d), (d, regDict P (regName k 8) (Str.ofString "gpr") k 8 t1 t2 t3 t4 t5 t6 t7 t8)] := by
  have e : octKind b k = Str.ofString "gpr" := if_neg h
  rw [e]
  exact regOut_of (if_neg h).symm hx
theorem not8 {k : Int} (h : ¬ (earlyL 8 ≠ [] ∧ 0 ≤ k ∧ k ≤ 15)) : ¬ (0 ≤ k ∧ k ≤ 15) := fun hq => h ⟨by decide +kernel, hq⟩
theorem in8 {k : Int} (h : earlyL 8 ≠ [] ∧ 0 ≤ k ∧ k ≤ 15) : 0 ≤ k ∧ k ≤ 15 := h.2
set_option maxRecDepth 100000 in
set_option maxHeartbeats 4000000 in
theorem octet_ok (w : World) (k : Int) (b : Bool) (t : Tok) (hk : -100 < k) (hk2 : k < 100) : May w 5 181 [.int k t, .bool b] (0 ≤ k ∧ k ≤ 15) (RegOut w.params (octName b k) (octKind b k) k 8) 71 := by
  w_top off
  dsimp only [FnG, May]; k_fill; intros; rename_i hret
  cell_enter
  cases b
  all_goals k_steps
  all_goals (try dsimp only)
  all_goals first
    | (exact hret.2 (not8 (by assumption)) _ _ _ _ _ (raisedS_nil (by assumption)) (raisedK_nil (by assumption)) (by assumption))
    | (exact hret.1 (in8 (by assumption)) _ [_, _] _ _ (Fr.keep (by assumption)) (new2 (by assumption)) (octOut_gpr (by first | lia | (intro hq; cases hq.1)) (by assumption)))
    | (exact hret.1 ⟨by lia, by lia⟩ _ [_, _] _ _ (Fr.keep (by assumption)) (new2 (by assumption)) (octOut_high (by lia) (by lia) (by assumption)))
    | (exfalso; lia)

end Mine
end
section
theorem Mine.none_Num5 : True := by
  k_with_none
  w_top off
  trivial
set_option maxRecDepth 100000
open PySem PySem.W PySem.Calls PyProof.Rows
namespace Mine
section
variable {prog : Program} {w : World} {A : Around} {E : Value → Shared → Prop} {s : Shared} {h₀ : Heap} {env : Env} {body : List Stmt} {Q : Flow → Shared → Prop}
/-- what the frame holds in the numbers' loops -/
def NumC (SZ D8 T : Addr) (m : Str → Option Value) : Prop := m (Str.ofString "sizes") = some (.ref SZ) ∧ m (Str.ofString "octets") = some (.ref D8) ∧ m (Str.ofString "tops") = some (.ref T)
def UseIt (I : Addr) (it : Obj) : Prop := I = I ∧ it = it
theorem UseIt.mk (I : Addr) (it : Obj) : UseIt I it := ⟨rfl, rfl⟩
def Far (Ll cN cS SZ T : Addr) : Prop := (@Ne Nat Ll 256 ∧ @Ne Nat cN 256 ∧ @Ne Nat cS 256 ∧ @Ne Nat SZ 256 ∧ @Ne Nat T 256) ∧ (@Ne Nat Ll cN ∧ @Ne Nat Ll cS ∧ @Ne Nat Ll SZ ∧ @Ne Nat Ll T) ∧ (@Ne Nat cN cS ∧ @Ne Nat cN SZ ∧ @Ne Nat cN T) ∧ (@Ne Nat cS SZ ∧ @Ne Nat cS T) ∧ @Ne Nat SZ T
theorem iter_nums2 {x : Str} {px : Pos} {r : Addr} {a b : Int} {t u v : Tok} {n : Nat} {m₀ : Str → Option Value} {news n1 n2 n3 n4 n5 rest : List (Addr × Obj)} {le : Env} {Ll cN cS SZ D8 T : Addr} {oLl₀ oN₀ oS₀ oSZ oT : Obj} {vN₀ vS₀ : Option Value}
    (hh : A.handled = none) (F : Fr h₀ env.locals s.heap m₀) (N : News h₀ env.locals s.heap news)
    (hr : IsRange s.heap r a b 1 t u v) (hsm : Builtin.Range.small a b 1 = true) (hn : Builtin.Range.rangeSize a b 1 = ((n : Nat) : Int))
    (_hle : le.frame = some Ll) (hmS : m₀ (Str.ofString "sizes") = some (.ref SZ)) (hmO : m₀ (Str.ofString "octets") = some (.ref D8)) (hmT : m₀ (Str.ofString "tops") = some (.ref T))
    (_hcN : env.cells.lookup (Str.ofString "number") = some cN) (_hcS : env.cells.lookup (Str.ofString "size") = some cS)
    (hO1 : OutF T oT news n1) (hO2 : OutF cN oN₀ n1 n2) (hO3 : OutF cS oS₀ n2 n3) (hO4 : OutF Ll oLl₀ n3 n4) (hO5 : OutF 256 (tabObj #[]) n4 n5) (hO6 : OutF SZ oSZ n5 rest)
    (hdN : oN₀.data = .cell vN₀) (hdS : oS₀.data = .cell vS₀)
    (turn : ∀ (I : Addr) (i : Nat) (t : Tok) (it : Obj) (ps : Array Value) (oLl oN oS : Obj) (vN vS : Option Value) (tl : List (Addr × Obj)) (m : Str → Option Value) (h : Heap) (tk : Nat),
      (@LT.lt Nat _ 256 I ∧ @LT.lt Nat _ Ll I ∧ @LT.lt Nat _ cN I ∧ @LT.lt Nat _ cS I ∧ @LT.lt Nat _ SZ I ∧ @LT.lt Nat _ T I) → Far Ll cN cS SZ T → UseIt I it → i < n → it.cls = .type "range_iterator" →
      oLl.data = oLl₀.data → oN.data = .cell vN → oS.data = .cell vS → TabOk (env.qual ++ "<lambda>") ps tl → (∀ p ∈ rest, p ∈ tl) → (∀ p ∈ tl, p.1 ≠ I) → (∀ p ∈ tl, p.1 ≠ 256) → (∀ p ∈ tl, p.1 ≠ Ll) → (∀ p ∈ tl, p.1 ≠ cN) → (∀ p ∈ tl, p.1 ≠ cS) → (∀ p ∈ tl, p.1 ≠ SZ) → (∀ p ∈ tl, p.1 ≠ T) → NumC SZ D8 T m → Fr h₀ env.locals h m →
      News h₀ env.locals h ((I, it) :: (256, tabObj ps) :: (Ll, oLl) :: (cN, oN) :: (cS, oS) :: (SZ, oSZ) :: (T, oT) :: tl) →
      wpAny (model prog w) A (assign (.Name x px) env (.int (a + (i : Int)) t)) (fun _ s₂ => wpAny (model prog w) A (execs body env) (UnrPostW h₀ env.locals { s with heap := h, toks := tk } [(I, it)] (NumJ (env.qual ++ "<lambda>") Ll cN cS oLl₀.data (fun o => ∃ v, o.data = .cell v) [(SZ, oSZ), (T, oT)] (I :: [256, Ll, cN, cS, SZ, T]) rest (NumC SZ D8 T) (i + 1)) Q) E s₂) E { s with heap := h, toks := tk })
    (fin : ∀ (ps : Array Value) (oLl oN oS : Obj) (vN vS : Option Value) (tl : List (Addr × Obj)) (m : Str → Option Value) (h : Heap) (tk : Nat), Far Ll cN cS SZ T → oLl.data = oLl₀.data → oN.data = .cell vN → oS.data = .cell vS → (∀ p ∈ rest, p ∈ tl) → (∀ p ∈ tl, p.1 ≠ 256) → (∀ p ∈ tl, p.1 ≠ Ll) → (∀ p ∈ tl, p.1 ≠ cN) → (∀ p ∈ tl, p.1 ≠ cS) → (∀ p ∈ tl, p.1 ≠ SZ) → (∀ p ∈ tl, p.1 ≠ T) → NumC SZ D8 T m → Fr h₀ env.locals h m →
      News h₀ env.locals h ((256, tabObj ps) :: (Ll, oLl) :: (cN, oN) :: (cS, oS) :: (SZ, oSZ) :: (T, oT) :: tl) → Q .next { s with heap := h, toks := tk }) :
    wpAny (model prog w) A (pyIter (.ref r)) (fun it s₂ => TurnsAt prog w A h₀ env (.Name x px) body Q E it s₂) E s := by
  have a1 := hO1.mem
  have a2 := hO2.mem
  have a3 := hO3.mem
  have a4 := hO4.mem
  have a5 := hO5.mem
  have a6 := hO6.mem
  have s1 : ∀ p ∈ n1, p ∈ news := a1.2.1
  have s2 : ∀ p ∈ n2, p ∈ n1 := a2.2.1
  have s3 : ∀ p ∈ n3, p ∈ n2 := a3.2.1
  have s4 : ∀ p ∈ n4, p ∈ n3 := a4.2.1
  have s5 : ∀ p ∈ n5, p ∈ n4 := a5.2.1
  have s6 : ∀ p ∈ rest, p ∈ n5 := a6.2.1
  have far : Far Ll cN cS SZ T := by
    refine ⟨⟨?_, ?_, ?_, ?_, ?_⟩, ⟨?_, ?_, ?_, ?_⟩, ⟨?_, ?_, ?_⟩, ⟨?_, ?_⟩, ?_⟩
    · exact Ne.symm (a4.2.2 _ a5.1)
    · exact Ne.symm (a2.2.2 _ (s3 _ (s4 _ a5.1)))
    · exact Ne.symm (a3.2.2 _ (s4 _ a5.1))
    · exact a5.2.2 _ a6.1
    · exact Ne.symm (a1.2.2 _ (s2 _ (s3 _ (s4 _ a5.1))))
    · exact a2.2.2 _ (s3 _ a4.1)
    · exact a3.2.2 _ a4.1
    · exact Ne.symm (a4.2.2 _ (s5 _ a6.1))
    · exact a1.2.2 _ (s2 _ (s3 _ a4.1))
    · exact Ne.symm (a2.2.2 _ a3.1)
    · exact Ne.symm (a2.2.2 _ (s3 _ (s4 _ (s5 _ a6.1))))
    · exact a1.2.2 _ a2.1
    · exact Ne.symm (a3.2.2 _ (s4 _ (s5 _ a6.1)))
    · exact a1.2.2 _ (s2 _ a3.1)
    · exact a1.2.2 _ (s2 _ (s3 _ (s4 _ (s5 _ a6.1))))
  refine iter_nums (qual := env.qual ++ "<lambda>") (Ll := Ll) (cN := cN) (cS := cS) (dL := oLl₀.data) (PN := fun o => ∃ v, o.data = .cell v) (fix := [(SZ, oSZ), (T, oT)]) (ks := [256, Ll, cN, cS, SZ, T]) (rest := rest) (C := NumC SZ D8 T) (ps₀ := #[]) (oLl₀ := oLl₀) (oN₀ := oN₀) (oS₀ := oS₀) (vS₀ := vS₀) UseNum.mk hh F N hr hsm hn (fun p hp => ?_) rfl ⟨vN₀, hdN⟩ hdS TabOk.nil (fun k hk p hp => ?_) ⟨hmS, hmO, hmT⟩ ?_ ?_
  · simp only [List.cons_append, List.nil_append, List.mem_cons] at hp
    rcases hp with rfl | rfl | rfl | rfl | rfl | rfl | hp
    · exact s1 _ (s2 _ (s3 _ (s4 _ a5.1)))
    · exact s1 _ (s2 _ (s3 _ a4.1))
    · exact s1 _ a2.1
    · exact s1 _ (s2 _ a3.1)
    · exact s1 _ (s2 _ (s3 _ (s4 _ (s5 _ a6.1))))
    · exact a1.1
    · exact s1 _ (s2 _ (s3 _ (s4 _ (s5 _ (s6 _ hp)))))
  · simp only [List.mem_cons, List.not_mem_nil, or_false] at hk
    rcases hk with rfl | rfl | rfl | rfl | rfl | rfl
    · exact a5.2.2 _ (s6 _ hp)
    · exact a4.2.2 _ (s5 _ (s6 _ hp))
    · exact a2.2.2 _ (s3 _ (s4 _ (s5 _ (s6 _ hp))))
    · exact a3.2.2 _ (s4 _ (s5 _ (s6 _ hp)))
    · exact a6.2.2 _ hp
    · exact a1.2.2 _ (s2 _ (s3 _ (s4 _ (s5 _ (s6 _ hp)))))
  · rintro I i t it ps oLl oN oS vS tl m h tk hI hi hit h1 ⟨vN, h2⟩ h3 h4 h5 h6 h7 F1 N1
    exact turn I i t it ps oLl oN oS vN vS tl m h tk ⟨hI _ (.head _), hI _ (.tail _ (.head _)), hI _ (.tail _ (.tail _ (.head _))), hI _ (.tail _ (.tail _ (.tail _ (.head _)))), hI _ (.tail _ (.tail _ (.tail _ (.tail _ (.head _))))), hI _ (.tail _ (.tail _ (.tail _ (.tail _ (.tail _ (.head _))))))⟩ far (UseIt.mk _ _) hi hit h1 h2 h3 h4 h5
      (h6 _ (.head _)) (h6 _ (.tail _ (.head _))) (h6 _ (.tail _ (.tail _ (.head _)))) (h6 _ (.tail _ (.tail _ (.tail _ (.head _))))) (h6 _ (.tail _ (.tail _ (.tail _ (.tail _ (.head _)))))) (h6 _ (.tail _ (.tail _ (.tail _ (.tail _ (.tail _ (.head _))))))) (h6 _ (.tail _ (.tail _ (.tail _ (.tail _ (.tail _ (.tail _ (.head _)))))))) h7 F1 N1
  · rintro ps oLl oN oS vS tl m h tk h1 ⟨vN, h2⟩ h3 _ h5 h6 h7 F1 N1
    exact fin ps oLl oN oS vN vS tl m h tk far h1 h2 h3 h5 (h6 _ (.head _)) (h6 _ (.tail _ (.head _))) (h6 _ (.tail _ (.tail _ (.head _)))) (h6 _ (.tail _ (.tail _ (.tail _ (.head _))))) (h6 _ (.tail _ (.tail _ (.tail _ (.tail _ (.head _)))))) (h6 _ (.tail _ (.tail _ (.tail _ (.tail _ (.tail _ (.head _))))))) h7 F1 N1
theorem iter_sizes2 {x : Str} {px : Pos} {ax : Addr} {lo : Obj} {ns : List Int} {vs : List Value} {nn : Nat} {m₀ : Str → Option Value} {news n1 n2 n3 n4 n5 n6 n7 rest : List (Addr × Obj)} {le : Env} {Ll cN cS SZ D8 T I0 : Addr} {oLl₀ oN₀ oS₀ oSZ oT it0 : Obj} {vS₀ : Option Value} {ps₀ : Array Value} {qual : Str} {b : Bool} {dL : Data} {vN : Option Value}
    (hT : TabOk qual ps₀ rest) (hh : A.handled = none) (F : Fr h₀ env.locals s.heap m₀) (N : News h₀ env.locals s.heap news) (hc : lo.cls = .type "tuple") (hd : lo.data = .seq vs.toArray nn) (hi : IntsAre vs ns)
    (_hle : le.frame = some Ll) (hmS : m₀ (Str.ofString "sizes") = some (.ref SZ)) (hmO : m₀ (Str.ofString "octets") = some (.ref D8)) (hmT : m₀ (Str.ofString "tops") = some (.ref T)) (hmI : m₀ (Str.ofString "is_in") = some (.bool b))
    (_hcN : env.cells.lookup (Str.ofString "number") = some cN) (_hcS : env.cells.lookup (Str.ofString "size") = some cS) (_u : UseIt I0 it0)
    (hO1 : OutF ax lo news n1) (hO2 : OutF cN oN₀ n1 n2) (hO3 : OutF cS oS₀ n2 n3) (hO4 : OutF Ll oLl₀ n3 n4) (hO5 : OutF 256 (tabObj ps₀) n4 n5) (hO6 : OutF SZ oSZ n5 n6) (hO7 : OutF T oT n6 n7) (hO8 : OutF I0 it0 n7 rest)
    (hdL : oLl₀.data = dL) (hdN : oN₀.data = .cell vN) (hdS : oS₀.data = .cell vS₀)
    (turn : ∀ (I : Addr) (i : Nat) (z : Int) (t : Tok) (it : Obj) (ps : Array Value) (oLl oN oS : Obj) (vS : Option Value) (tl : List (Addr × Obj)) (m : Str → Option Value) (h : Heap) (tk : Nat),
      (@LT.lt Nat _ 256 I ∧ @LT.lt Nat _ Ll I ∧ @LT.lt Nat _ cN I ∧ @LT.lt Nat _ cS I ∧ @LT.lt Nat _ SZ I ∧ @LT.lt Nat _ T I ∧ @LT.lt Nat _ I0 I ∧ @LT.lt Nat _ ax I) → z ∈ ns → it.cls = .type "tuple_iterator" →
      oLl.data = dL → oN.data = .cell vN → oS.data = .cell vS → TabOk qual ps tl → (∀ p ∈ rest, p ∈ tl) → (∀ p ∈ tl, p.1 ≠ I) → (∀ p ∈ tl, p.1 ≠ 256) → (∀ p ∈ tl, p.1 ≠ Ll) → (∀ p ∈ tl, p.1 ≠ cN) → (∀ p ∈ tl, p.1 ≠ cS) → (∀ p ∈ tl, p.1 ≠ I0) → (∀ p ∈ tl, p.1 ≠ ax) → (∀ p ∈ tl, p.1 ≠ SZ) → (∀ p ∈ tl, p.1 ≠ T) → m (Str.ofString "sizes") = some (.ref SZ) → m (Str.ofString "octets") = some (.ref D8) → m (Str.ofString "tops") = some (.ref T) → m (Str.ofString "is_in") = some (.bool b) → Fr h₀ env.locals h m →
      News h₀ env.locals h ((I, it) :: (256, tabObj ps) :: (Ll, oLl) :: (cN, oN) :: (cS, oS) :: (SZ, oSZ) :: (T, oT) :: (I0, it0) :: (ax, lo) :: tl) →
      wpAny (model prog w) A (assign (.Name x px) env (.int z t)) (fun _ s₂ => wpAny (model prog w) A (execs body env) (UnrPostW h₀ env.locals { s with heap := h, toks := tk } [(I, it)] (NumJ qual Ll cN cS dL (fun o => o.data = .cell vN) [(SZ, oSZ), (T, oT), (I0, it0), (ax, lo)] (I :: [256, Ll, cN, cS, I0, ax, SZ, T]) rest (fun m => NumC SZ D8 T m ∧ m (Str.ofString "is_in") = some (.bool b)) (i + 1)) Q) E s₂) E { s with heap := h, toks := tk })
    (fin : ∀ (ps : Array Value) (oLl oN oS : Obj) (vS : Option Value) (tl : List (Addr × Obj)) (m : Str → Option Value) (h : Heap) (tk : Nat), oLl.data = dL → oN.data = .cell vN → oS.data = .cell vS → TabOk qual ps tl → (∀ p ∈ rest, p ∈ tl) → (∀ p ∈ tl, p.1 ≠ 256) → (∀ p ∈ tl, p.1 ≠ Ll) → (∀ p ∈ tl, p.1 ≠ cN) → (∀ p ∈ tl, p.1 ≠ cS) → (∀ p ∈ tl, p.1 ≠ I0) → (∀ p ∈ tl, p.1 ≠ SZ) → (∀ p ∈ tl, p.1 ≠ T) → m (Str.ofString "sizes") = some (.ref SZ) → m (Str.ofString "octets") = some (.ref D8) → m (Str.ofString "tops") = some (.ref T) → m (Str.ofString "is_in") = some (.bool b) → Fr h₀ env.locals h m →
      News h₀ env.locals h ((256, tabObj ps) :: (Ll, oLl) :: (cN, oN) :: (cS, oS) :: (SZ, oSZ) :: (T, oT) :: (I0, it0) :: (ax, lo) :: tl) → Q .next { s with heap := h, toks := tk }) :
    wpAny (model prog w) A (pyIter (.ref ax)) (fun it s₂ => TurnsAt prog w A h₀ env (.Name x px) body Q E it s₂) E s := by
  have a1 := hO1.mem
  have a2 := hO2.mem
  have a3 := hO3.mem
  have a4 := hO4.mem
  have a5 := hO5.mem
  have a6 := hO6.mem
  have a7 := hO7.mem
  have a8 := hO8.mem
  have s1 : ∀ p ∈ n1, p ∈ news := a1.2.1
  have s2 : ∀ p ∈ n2, p ∈ n1 := a2.2.1
  have s3 : ∀ p ∈ n3, p ∈ n2 := a3.2.1
  have s4 : ∀ p ∈ n4, p ∈ n3 := a4.2.1
  have s5 : ∀ p ∈ n5, p ∈ n4 := a5.2.1
  have s6 : ∀ p ∈ n6, p ∈ n5 := a6.2.1
  have s7 : ∀ p ∈ n7, p ∈ n6 := a7.2.1
  have s8 : ∀ p ∈ rest, p ∈ n7 := a8.2.1
  refine iter_sizes (qual := qual) (Ll := Ll) (cN := cN) (cS := cS) (dL := dL) (PN := fun o => o.data = .cell vN) (fix := [(SZ, oSZ), (T, oT), (I0, it0), (ax, lo)]) (ks := [256, Ll, cN, cS, I0, ax, SZ, T]) (rest := rest) (C := fun m => NumC SZ D8 T m ∧ m (Str.ofString "is_in") = some (.bool b)) (ps₀ := ps₀) (oLl₀ := oLl₀) (oN₀ := oN₀) (oS₀ := oS₀) (vS₀ := vS₀) UseNum.mk hh F N (by simp) hc hd hi (fun p hp => ?_) hdL hdN hdS hT (fun k hk p hp => ?_) ⟨⟨hmS, hmO, hmT⟩, hmI⟩ ?_ ?_
  · simp only [List.cons_append, List.nil_append, List.mem_cons] at hp
    rcases hp with rfl | rfl | rfl | rfl | rfl | rfl | rfl | rfl | hp
    · exact s1 _ (s2 _ (s3 _ (s4 _ a5.1)))
    · exact s1 _ (s2 _ (s3 _ a4.1))
    · exact s1 _ a2.1
    · exact s1 _ (s2 _ a3.1)
    · exact s1 _ (s2 _ (s3 _ (s4 _ (s5 _ a6.1))))
    · exact s1 _ (s2 _ (s3 _ (s4 _ (s5 _ (s6 _ a7.1)))))
    · exact s1 _ (s2 _ (s3 _ (s4 _ (s5 _ (s6 _ (s7 _ a8.1))))))
    · exact a1.1
    · exact s1 _ (s2 _ (s3 _ (s4 _ (s5 _ (s6 _ (s7 _ (s8 _ hp)))))))
  · simp only [List.mem_cons, List.not_mem_nil, or_false] at hk
    rcases hk with rfl | rfl | rfl | rfl | rfl | rfl | rfl | rfl
    · exact a5.2.2 _ (s6 _ (s7 _ (s8 _ hp)))
    · exact a4.2.2 _ (s5 _ (s6 _ (s7 _ (s8 _ hp))))
    · exact a2.2.2 _ (s3 _ (s4 _ (s5 _ (s6 _ (s7 _ (s8 _ hp))))))
    · exact a3.2.2 _ (s4 _ (s5 _ (s6 _ (s7 _ (s8 _ hp)))))
    · exact a8.2.2 _ hp
    · exact a1.2.2 _ (s2 _ (s3 _ (s4 _ (s5 _ (s6 _ (s7 _ (s8 _ hp)))))))
    · exact a6.2.2 _ (s7 _ (s8 _ hp))
    · exact a7.2.2 _ (s8 _ hp)
  · rintro I i z t it ps oLl oN oS vS tl m h tk hI hz hit h1 h2 h3 h4 h5 h6 ⟨⟨h7, h8, h9⟩, h10⟩ F1 N1
    exact turn I i z t it ps oLl oN oS vS tl m h tk ⟨hI _ (.head _), hI _ (.tail _ (.head _)), hI _ (.tail _ (.tail _ (.head _))), hI _ (.tail _ (.tail _ (.tail _ (.head _)))), hI _ (.tail _ (.tail _ (.tail _ (.tail _ (.head _))))), hI _ (.tail _ (.tail _ (.tail _ (.tail _ (.tail _ (.head _)))))), hI _ (.tail _ (.tail _ (.tail _ (.tail _ (.tail _ (.tail _ (.head _))))))), hI _ (.tail _ (.tail _ (.tail _ (.tail _ (.tail _ (.tail _ (.tail _ (.head _))))))))⟩ hz hit h1 h2 h3 h4 h5
      (h6 _ (.head _)) (h6 _ (.tail _ (.head _))) (h6 _ (.tail _ (.tail _ (.head _)))) (h6 _ (.tail _ (.tail _ (.tail _ (.head _))))) (h6 _ (.tail _ (.tail _ (.tail _ (.tail _ (.head _)))))) (h6 _ (.tail _ (.tail _ (.tail _ (.tail _ (.tail _ (.head _))))))) (h6 _ (.tail _ (.tail _ (.tail _ (.tail _ (.tail _ (.tail _ (.head _)))))))) (h6 _ (.tail _ (.tail _ (.tail _ (.tail _ (.tail _ (.tail _ (.tail _ (.head _))))))))) (h6 _ (.tail _ (.tail _ (.tail _ (.tail _ (.tail _ (.tail _ (.tail _ (.tail _ (.head _)))))))))) h7 h8 h9 h10 F1 N1
  · rintro ps oLl oN oS vS tl m h tk h1 h2 h3 h4 h5 h6 ⟨⟨h7, h8, h9⟩, h10⟩ F1 N1
    exact fin ps oLl oN oS vS tl m h tk h1 h2 h3 h4 h5 (h6 _ (.head _)) (h6 _ (.tail _ (.head _))) (h6 _ (.tail _ (.tail _ (.head _)))) (h6 _ (.tail _ (.tail _ (.tail _ (.head _))))) (h6 _ (.tail _ (.tail _ (.tail _ (.tail _ (.head _)))))) (h6 _ (.tail _ (.tail _ (.tail _ (.tail _ (.tail _ (.tail _ (.head _)))))))) (h6 _ (.tail _ (.tail _ (.tail _ (.tail _ (.tail _ (.tail _ (.tail _ (.head _))))))))) h7 h8 h9 h10 F1 N1
theorem sizeEnd {L : Addr} {s₁ : Shared} {h' : Heap} {tk : Nat} {m' : Str → Option Value} {all tl rest : List (Addr × Obj)} {I Ll cN cS SZ D8 T I0 ax : Addr} {it oLl oN oS oSZ oT it0 lo : Obj} {dL : Data} {ps : Array Value} {vN vS : Option Value} {i : Nat} {qual : Str} {b : Bool}
    (F : Fr h₀ L h' m') (N : News h₀ L h' all) (h4 : TabOk qual ps tl) (h1 : oLl.data = dL) (h2 : oN.data = .cell vN) (h3 : oS.data = .cell vS) (hsub : ∀ p ∈ (I, it) :: (256, tabObj ps) :: (Ll, oLl) :: (cN, oN) :: (cS, oS) :: (SZ, oSZ) :: (T, oT) :: (I0, it0) :: (ax, lo) :: tl, p ∈ all)
    (hI : @LT.lt Nat _ 256 I ∧ @LT.lt Nat _ Ll I ∧ @LT.lt Nat _ cN I ∧ @LT.lt Nat _ cS I ∧ @LT.lt Nat _ SZ I ∧ @LT.lt Nat _ T I ∧ @LT.lt Nat _ I0 I ∧ @LT.lt Nat _ ax I)
    (h5 : ∀ p ∈ rest, p ∈ tl) (k1 : ∀ p ∈ tl, p.1 ≠ I) (k2 : ∀ p ∈ tl, p.1 ≠ 256) (k3 : ∀ p ∈ tl, p.1 ≠ Ll) (k4 : ∀ p ∈ tl, p.1 ≠ cN) (k5 : ∀ p ∈ tl, p.1 ≠ cS) (k6 : ∀ p ∈ tl, p.1 ≠ I0) (k7 : ∀ p ∈ tl, p.1 ≠ ax) (k8 : ∀ p ∈ tl, p.1 ≠ SZ) (k9 : ∀ p ∈ tl, p.1 ≠ T) (c1 : m' (Str.ofString "sizes") = some (.ref SZ)) (c2 : m' (Str.ofString "octets") = some (.ref D8)) (c3 : m' (Str.ofString "tops") = some (.ref T)) (c4 : m' (Str.ofString "is_in") = some (.bool b)) :
    UnrEndW h₀ L s₁ [(I, it)] (NumJ qual Ll cN cS dL (fun o => o.data = .cell vN) [(SZ, oSZ), (T, oT), (I0, it0), (ax, lo)] (I :: [256, Ll, cN, cS, I0, ax, SZ, T]) rest (fun m => NumC SZ D8 T m ∧ m (Str.ofString "is_in") = some (.bool b)) i) { s₁ with heap := h', toks := tk } := by
  obtain ⟨i1, i2, i3, i4, i5, i6, i7, i8⟩ := hI
  refine numEnd (tl := tl) (ps := ps) (oLl := oLl) (oN := oN) (oS := oS) F N hsub (fun p hp => ?_) h1 h2 h3 h4 h5 (fun k hk p hp => ?_) ⟨⟨c1, c2, c3⟩, c4⟩
  · simp only [List.mem_cons, List.not_mem_nil, or_false] at hp
    rcases hp with rfl | rfl | rfl | rfl | rfl | rfl | rfl | rfl
    · exact Nat.ne_of_lt i1
    · exact Nat.ne_of_lt i2
    · exact Nat.ne_of_lt i3
    · exact Nat.ne_of_lt i4
    · exact Nat.ne_of_lt i5
    · exact Nat.ne_of_lt i6
    · exact Nat.ne_of_lt i7
    · exact Nat.ne_of_lt i8
  · simp only [List.mem_cons, List.not_mem_nil, or_false] at hk
    rcases hk with rfl | rfl | rfl | rfl | rfl | rfl | rfl | rfl | rfl
    · exact k1 p hp
    · exact k2 p hp
    · exact k3 p hp
    · exact k4 p hp
    · exact k5 p hp
    · exact k6 p hp
    · exact k7 p hp
    · exact k8 p hp
    · exact k9 p hp
theorem numEnd2 {L : Addr} {s₁ : Shared} {h' : Heap} {tk : Nat} {m' : Str → Option Value} {all tl rest : List (Addr × Obj)} {I Ll cN cS SZ D8 T : Addr} {it oLl oN oS oSZ oT : Obj} {dL : Data} {ps : Array Value} {vN vS : Option Value} {i : Nat} {qual : Str}
    (F : Fr h₀ L h' m') (N : News h₀ L h' all) (h4 : TabOk qual ps tl) (h1 : oLl.data = dL) (h2 : oN.data = .cell vN) (h3 : oS.data = .cell vS) (hsub : ∀ p ∈ (I, it) :: (256, tabObj ps) :: (Ll, oLl) :: (cN, oN) :: (cS, oS) :: (SZ, oSZ) :: (T, oT) :: tl, p ∈ all)
    (hI : @LT.lt Nat _ 256 I ∧ @LT.lt Nat _ Ll I ∧ @LT.lt Nat _ cN I ∧ @LT.lt Nat _ cS I ∧ @LT.lt Nat _ SZ I ∧ @LT.lt Nat _ T I)
    (h5 : ∀ p ∈ rest, p ∈ tl) (k1 : ∀ p ∈ tl, p.1 ≠ I) (k2 : ∀ p ∈ tl, p.1 ≠ 256) (k3 : ∀ p ∈ tl, p.1 ≠ Ll) (k4 : ∀ p ∈ tl, p.1 ≠ cN) (k5 : ∀ p ∈ tl, p.1 ≠ cS) (k6 : ∀ p ∈ tl, p.1 ≠ SZ) (k7 : ∀ p ∈ tl, p.1 ≠ T) (h7 : NumC SZ D8 T m') :
    UnrEndW h₀ L s₁ [(I, it)] (NumJ qual Ll cN cS dL (fun o => ∃ v, o.data = .cell v) [(SZ, oSZ), (T, oT)] (I :: [256, Ll, cN, cS, SZ, T]) rest (NumC SZ D8 T) i) { s₁ with heap := h', toks := tk } := by
  obtain ⟨i1, i2, i3, i4, i5, i6⟩ := hI
  refine numEnd (tl := tl) (ps := ps) (oLl := oLl) (oN := oN) (oS := oS) F N hsub (fun p hp => ?_) h1 ⟨vN, h2⟩ h3 h4 h5 (fun k hk p hp => ?_) h7
  · simp only [List.mem_cons, List.not_mem_nil, or_false] at hp
    rcases hp with rfl | rfl | rfl | rfl | rfl | rfl
    · exact Nat.ne_of_lt i1
    · exact Nat.ne_of_lt i2
    · exact Nat.ne_of_lt i3
    · exact Nat.ne_of_lt i4
    · exact Nat.ne_of_lt i5
    · exact Nat.ne_of_lt i6
  · simp only [List.mem_cons, List.not_mem_nil, or_false] at hk
    rcases hk with rfl | rfl | rfl | rfl | rfl | rfl | rfl
    · exact k1 p hp
    · exact k2 p hp
    · exact k3 p hp
    · exact k4 p hp
    · exact k5 p hp
    · exact k6 p hp
    · exact k7 p hp
end
section
variable {w : World} {s : Shared} {A : Around} {h₀ : Heap} {L Ll : Addr} {m : Str → Option Value} {env le : Env} {all kl us : List (Addr × Obj)} {Q E : Value → Shared → Prop}
  {p : Program} {loose : List Str} {mean : ExcName → Option Value} {mg mb : Str → Option Value} {dp un : Nat} {gd : Option (List Code)} {oLl : Obj}
/-- _law_name asked -/
theorem callName2 {fa : Addr} {t : Tok} {ok : Prop} {nm kd : Str} {k n : Int} (hAsk : AskG w 7 fa us ok (RegOut w.params nm kd k n) 71) (hfn : ∃ o fd, (fa, o) ∈ us ∧ o.data = .func fd) (hus : ∀ u ∈ us, u ∈ kl) (hle : le.frame = some Ll) (hlk : le.scope.kind = .function) (hO : OutF Ll oLl all kl) {dL : Data} (hd0 : oLl.data = dL) (hdd : ∃ es n, dL = .dict es n)
    (F : Fr h₀ L s.heap m) (X : (Mine.hd.heap_39 w.params).In h₀) (T : Top p loose mean mg mb h₀) (N : News h₀ L s.heap all)
    (hA : A = A0 dp un gd [env, le]) (hf : env.frame = some L) (hke : env.scope.kind = .function) (hd : dp + 2 * 9 < recursionLimit) (hun : un + 10 * 9 + 100 < cLine)
    (h : ∀ v oLl' h' tk', ToldP ok nm v → oLl'.data = dL → Fr h₀ L h' m → News h₀ L h' ((Ll, oLl') :: kl) → Q v { s with heap := h', toks := tk' }) :
    wpAny (model Challenge.rw_qz0048_01.row.prog w) A (call (.ref 254) [.ref fa]) Q E s := by
  obtain ⟨m1, m2, m3⟩ := hO.mem
  refine callName (name_ok w fa t us ok nm kd k n hfn hAsk) hle hlk (by obtain ⟨es, n, e⟩ := hdd; exact ⟨es, n, hd0.trans e⟩) F X T (fun q hq => ?_) m3 hus hA hf hke hd hun (fun v oLl' h' tk' hP hdat F1 N1 => h v oLl' h' tk' hP (hdat.trans hd0) F1 N1)
  rcases List.mem_cons.mp hq with rfl | hq
  · exact N _ m1
  · exact N _ (m2 q hq)
theorem cmp_none {prog : Program} {ok : Prop} {nm : Str} {v : Value} (h : ToldP ok nm v) (hn : ¬ ok) (hQ : Q (.bool false) s) : wpAny (model prog w) A (compareOp .NotEq v .none) Q E s := by
  rcases h with ⟨h, _⟩ | ⟨_, rfl⟩
  · exact absurd h hn
  · exact EqNone.ne_none_none hQ
theorem cmp_str {prog : Program} {ok : Prop} {nm y : Str} {t : Tok} {v : Value} (h : ToldP ok nm v) (ho : ok) (e : nm = y) (hQ : Q (.bool false) s) : wpAny (model prog w) A (compareOp .NotEq v (.str y t)) Q E s := by
  rcases h with ⟨_, t', rfl⟩ | ⟨h, _⟩
  · subst e
    refine ne_str ?_
    have : (nm != nm) = false := by simp
    rw [this]; exact hQ
  · exact absurd ho h
end
theorem ne_of_lt_all {rest : List (Addr × Obj)} {L K : Addr} (h : ∀ p ∈ rest, @LT.lt Nat _ p.1 L) (hk : @LE.le Nat _ L K) : ∀ p ∈ rest, p.1 ≠ K := fun p hp => Nat.ne_of_lt (Nat.lt_of_lt_of_le (h p hp) hk)
section
variable {w : World} {s : Shared} {A : Around} {h₀ : Heap} {L Ll : Addr} {m : Str → Option Value} {env le : Env} {all kl : List (Addr × Obj)} {Q E : Value → Shared → Prop}
  {p : Program} {loose : List Str} {mean : ExcName → Option Value} {mg mb : Str → Option Value} {dp un : Nat} {gd : Option (List Code)} {oLl : Obj}
theorem lam_gpr {fa c' cN cS : Addr} {oc oN oS : Obj} {tk0 tk1 tv : Tok} {k z : Int} {ln lq : Str} {lps : Arguments} {p1 p2 p3 p4 : Pos} {lsc : Scope} {lcl : List (Str × Addr)} {lpm lctv : Value} {vs : Array Value}
    (hm : (fa, kla_obj ln lq lps (.Call (.Name (Str.ofString "gpr") p1) [.Name (Str.ofString "number") p2, .Name (Str.ofString "size") p3] [] p4) lsc lcl lpm c' lctv) ∈ kl) (hcm : (c', oc) ∈ kl) (_hcd : oc.data = .fields vs) (_hcv : vs[1]? = some (.str lq tv)) (_hcN : lcl.lookup (Str.ofString "number") = some cN) (hNm : (cN, oN) ∈ kl) (_hdN : oN.data = .cell (some (.int k tk0))) (_hcS : lcl.lookup (Str.ofString "size") = some cS) (hSm : (cS, oS) ∈ kl) (_hdS : oS.data = .cell (some (.int z tk1))) 
    (hAsk : AskG w 7 fa [(fa, kla_obj ln lq lps (.Call (.Name (Str.ofString "gpr") p1) [.Name (Str.ofString "number") p2, .Name (Str.ofString "size") p3] [] p4) lsc lcl lpm c' lctv), (c', oc), (cN, oN), (cS, oS)] (earlyL z ≠ [] ∧ 0 ≤ k ∧ k ≤ 15) (RegOut w.params (regName k z) (Str.ofString "gpr") k (z)) 71)
    (hle : le.frame = some Ll) (hlk : le.scope.kind = .function) (hO : OutF Ll oLl all kl) {dL : Data} (hd0 : oLl.data = dL) (hdd : ∃ es n, dL = .dict es n)
    (F : Fr h₀ L s.heap m) (X : (Mine.hd.heap_39 w.params).In h₀) (T : Top p loose mean mg mb h₀) (N : News h₀ L s.heap all)
    (hA : A = A0 dp un gd [env, le]) (hf : env.frame = some L) (hke : env.scope.kind = .function) (hd : dp + 2 * 9 < recursionLimit) (hun : un + 10 * 9 + 100 < cLine)
    (h : ∀ v oLl' h' tk', ToldP (earlyL z ≠ [] ∧ 0 ≤ k ∧ k ≤ 15) (regName k z) v → oLl'.data = dL → Fr h₀ L h' m → News h₀ L h' ((Ll, oLl') :: kl) → Q v { s with heap := h', toks := tk' }) :
    wpAny (model Challenge.rw_qz0048_01.row.prog w) A (call (.ref 254) [.ref fa]) Q E s :=
  callName2 (t := 0) hAsk ⟨_, _, .head _, rfl⟩ (fun u hu => by
    simp only [List.mem_cons, List.not_mem_nil, or_false] at hu
    rcases hu with rfl | rfl | rfl | rfl
    · exact hm
    · exact hcm
    · exact hNm
    · exact hSm) hle hlk hO hd0 hdd F X T N hA hf hke hd hun h
theorem lam_xmm {fa c' cN : Addr} {oc oN : Obj} {tk0 tv : Tok} {k : Int} {ln lq : Str} {lps : Arguments} {p1 p2 p4 : Pos} {lsc : Scope} {lcl : List (Str × Addr)} {lpm lctv : Value} {vs : Array Value}
    (hm : (fa, kla_obj ln lq lps (.Call (.Name (Str.ofString "xmm") p1) [.Name (Str.ofString "number") p2] [] p4) lsc lcl lpm c' lctv) ∈ kl) (hcm : (c', oc) ∈ kl) (_hcd : oc.data = .fields vs) (_hcv : vs[1]? = some (.str lq tv)) (_hcN : lcl.lookup (Str.ofString "number") = some cN) (hNm : (cN, oN) ∈ kl) (_hdN : oN.data = .cell (some (.int k tk0))) 
    (hAsk : AskG w 7 fa [(fa, kla_obj ln lq lps (.Call (.Name (Str.ofString "xmm") p1) [.Name (Str.ofString "number") p2] [] p4) lsc lcl lpm c' lctv), (c', oc), (cN, oN)] (0 ≤ k ∧ k ≤ 15) (RegOut w.params (Str.ofString "xmm" ++ Str.ofString (toString k)) (Str.ofString "xmm") k (128)) 71)
    (hle : le.frame = some Ll) (hlk : le.scope.kind = .function) (hO : OutF Ll oLl all kl) {dL : Data} (hd0 : oLl.data = dL) (hdd : ∃ es n, dL = .dict es n)
    (F : Fr h₀ L s.heap m) (X : (Mine.hd.heap_39 w.params).In h₀) (T : Top p loose mean mg mb h₀) (N : News h₀ L s.heap all)
    (hA : A = A0 dp un gd [env, le]) (hf : env.frame = some L) (hke : env.scope.kind = .function) (hd : dp + 2 * 9 < recursionLimit) (hun : un + 10 * 9 + 100 < cLine)
    (h : ∀ v oLl' h' tk', ToldP (0 ≤ k ∧ k ≤ 15) (Str.ofString "xmm" ++ Str.ofString (toString k)) v → oLl'.data = dL → Fr h₀ L h' m → News h₀ L h' ((Ll, oLl') :: kl) → Q v { s with heap := h', toks := tk' }) :
    wpAny (model Challenge.rw_qz0048_01.row.prog w) A (call (.ref 254) [.ref fa]) Q E s :=
  callName2 (t := 0) hAsk ⟨_, _, .head _, rfl⟩ (fun u hu => by
    simp only [List.mem_cons, List.not_mem_nil, or_false] at hu
    rcases hu with rfl | rfl | rfl
    · exact hm
    · exact hcm
    · exact hNm
) hle hlk hO hd0 hdd F X T N hA hf hke hd hun h
theorem lam_high {fa c' cN : Addr} {oc oN : Obj} {tk0 tv : Tok} {k : Int} {ln lq : Str} {lps : Arguments} {p1 p2 p4 : Pos} {lsc : Scope} {lcl : List (Str × Addr)} {lpm lctv : Value} {vs : Array Value}
    (hm : (fa, kla_obj ln lq lps (.Call (.Name (Str.ofString "high") p1) [.Name (Str.ofString "number") p2] [] p4) lsc lcl lpm c' lctv) ∈ kl) (hcm : (c', oc) ∈ kl) (_hcd : oc.data = .fields vs) (_hcv : vs[1]? = some (.str lq tv)) (_hcN : lcl.lookup (Str.ofString "number") = some cN) (hNm : (cN, oN) ∈ kl) (_hdN : oN.data = .cell (some (.int k tk0))) 
    (hAsk : AskG w 7 fa [(fa, kla_obj ln lq lps (.Call (.Name (Str.ofString "high") p1) [.Name (Str.ofString "number") p2] [] p4) lsc lcl lpm c' lctv), (c', oc), (cN, oN)] (4 ≤ k ∧ k ≤ 7) (RegOut w.params (highs.getD (k - 4).toNat Str.empty) (Str.ofString "high") k (8)) 71)
    (hle : le.frame = some Ll) (hlk : le.scope.kind = .function) (hO : OutF Ll oLl all kl) {dL : Data} (hd0 : oLl.data = dL) (hdd : ∃ es n, dL = .dict es n)
    (F : Fr h₀ L s.heap m) (X : (Mine.hd.heap_39 w.params).In h₀) (T : Top p loose mean mg mb h₀) (N : News h₀ L s.heap all)
    (hA : A = A0 dp un gd [env, le]) (hf : env.frame = some L) (hke : env.scope.kind = .function) (hd : dp + 2 * 9 < recursionLimit) (hun : un + 10 * 9 + 100 < cLine)
    (h : ∀ v oLl' h' tk', ToldP (4 ≤ k ∧ k ≤ 7) (highs.getD (k - 4).toNat Str.empty) v → oLl'.data = dL → Fr h₀ L h' m → News h₀ L h' ((Ll, oLl') :: kl) → Q v { s with heap := h', toks := tk' }) :
    wpAny (model Challenge.rw_qz0048_01.row.prog w) A (call (.ref 254) [.ref fa]) Q E s :=
  callName2 (t := 0) hAsk ⟨_, _, .head _, rfl⟩ (fun u hu => by
    simp only [List.mem_cons, List.not_mem_nil, or_false] at hu
    rcases hu with rfl | rfl | rfl
    · exact hm
    · exact hcm
    · exact hNm
) hle hlk hO hd0 hdd F X T N hA hf hke hd hun h
theorem lam_oct_true {fa c' cN : Addr} {oc oN : Obj} {tk0 tv : Tok} {k : Int} {ln lq : Str} {lps : Arguments} {p1 p2 p3 p4 : Pos} {ck : Nat} {lsc : Scope} {lcl : List (Str × Addr)} {lpm lctv : Value} {vs : Array Value}
    (hm : (fa, kla_obj ln lq lps (.Call (.Name (Str.ofString "octet_register") p1) [.Name (Str.ofString "number") p2, .Constant (.bool true) ck p3] [] p4) lsc lcl lpm c' lctv) ∈ kl) (hcm : (c', oc) ∈ kl) (_hcd : oc.data = .fields vs) (_hcv : vs[1]? = some (.str lq tv)) (_hcN : lcl.lookup (Str.ofString "number") = some cN) (hNm : (cN, oN) ∈ kl) (_hdN : oN.data = .cell (some (.int k tk0))) 
    (hAsk : AskG w 7 fa [(fa, kla_obj ln lq lps (.Call (.Name (Str.ofString "octet_register") p1) [.Name (Str.ofString "number") p2, .Constant (.bool true) ck p3] [] p4) lsc lcl lpm c' lctv), (c', oc), (cN, oN)] (0 ≤ k ∧ k ≤ 15) (RegOut w.params (octName true k) (octKind true k) k (8)) 71)
    (hle : le.frame = some Ll) (hlk : le.scope.kind = .function) (hO : OutF Ll oLl all kl) {dL : Data} (hd0 : oLl.data = dL) (hdd : ∃ es n, dL = .dict es n)
    (F : Fr h₀ L s.heap m) (X : (Mine.hd.heap_39 w.params).In h₀) (T : Top p loose mean mg mb h₀) (N : News h₀ L s.heap all)
    (hA : A = A0 dp un gd [env, le]) (hf : env.frame = some L) (hke : env.scope.kind = .function) (hd : dp + 2 * 9 < recursionLimit) (hun : un + 10 * 9 + 100 < cLine)
    (h : ∀ v oLl' h' tk', ToldP (0 ≤ k ∧ k ≤ 15) (octName true k) v → oLl'.data = dL → Fr h₀ L h' m → News h₀ L h' ((Ll, oLl') :: kl) → Q v { s with heap := h', toks := tk' }) :
    wpAny (model Challenge.rw_qz0048_01.row.prog w) A (call (.ref 254) [.ref fa]) Q E s :=
  callName2 (t := 0) hAsk ⟨_, _, .head _, rfl⟩ (fun u hu => by
    simp only [List.mem_cons, List.not_mem_nil, or_false] at hu
    rcases hu with rfl | rfl | rfl
    · exact hm
    · exact hcm
    · exact hNm
) hle hlk hO hd0 hdd F X T N hA hf hke hd hun h
theorem lam_oct_false {fa c' cN : Addr} {oc oN : Obj} {tk0 tv : Tok} {k : Int} {ln lq : Str} {lps : Arguments} {p1 p2 p3 p4 : Pos} {ck : Nat} {lsc : Scope} {lcl : List (Str × Addr)} {lpm lctv : Value} {vs : Array Value}
    (hm : (fa, kla_obj ln lq lps (.Call (.Name (Str.ofString "octet_register") p1) [.Name (Str.ofString "number") p2, .Constant (.bool false) ck p3] [] p4) lsc lcl lpm c' lctv) ∈ kl) (hcm : (c', oc) ∈ kl) (_hcd : oc.data = .fields vs) (_hcv : vs[1]? = some (.str lq tv)) (_hcN : lcl.lookup (Str.ofString "number") = some cN) (hNm : (cN, oN) ∈ kl) (_hdN : oN.data = .cell (some (.int k tk0))) 
    (hAsk : AskG w 7 fa [(fa, kla_obj ln lq lps (.Call (.Name (Str.ofString "octet_register") p1) [.Name (Str.ofString "number") p2, .Constant (.bool false) ck p3] [] p4) lsc lcl lpm c' lctv), (c', oc), (cN, oN)] (0 ≤ k ∧ k ≤ 15) (RegOut w.params (octName false k) (octKind false k) k (8)) 71)
    (hle : le.frame = some Ll) (hlk : le.scope.kind = .function) (hO : OutF Ll oLl all kl) {dL : Data} (hd0 : oLl.data = dL) (hdd : ∃ es n, dL = .dict es n)
    (F : Fr h₀ L s.heap m) (X : (Mine.hd.heap_39 w.params).In h₀) (T : Top p loose mean mg mb h₀) (N : News h₀ L s.heap all)
    (hA : A = A0 dp un gd [env, le]) (hf : env.frame = some L) (hke : env.scope.kind = .function) (hd : dp + 2 * 9 < recursionLimit) (hun : un + 10 * 9 + 100 < cLine)
    (h : ∀ v oLl' h' tk', ToldP (0 ≤ k ∧ k ≤ 15) (octName false k) v → oLl'.data = dL → Fr h₀ L h' m → News h₀ L h' ((Ll, oLl') :: kl) → Q v { s with heap := h', toks := tk' }) :
    wpAny (model Challenge.rw_qz0048_01.row.prog w) A (call (.ref 254) [.ref fa]) Q E s :=
  callName2 (t := 0) hAsk ⟨_, _, .head _, rfl⟩ (fun u hu => by
    simp only [List.mem_cons, List.not_mem_nil, or_false] at hu
    rcases hu with rfl | rfl | rfl
    · exact hm
    · exact hcm
    · exact hNm
) hle hlk hO hd0 hdd F X T N hA hf hke hd hun h
end
theorem lt_tail {q : Str} {ps : Array Value} {tl news : List (Addr × Obj)} {D : Addr} (_h : TabOk q ps tl) (hl : ∀ p ∈ news, p.1 < D) (hs : ∀ p ∈ tl, p ∈ news) : ∀ p ∈ tl, p.1 ≠ D := fun p hp => Nat.ne_of_lt (hl p (hs p hp))
end Mine
end
section
theorem Mine.none_Num6 : True := by
  k_with_none
  w_top off
  trivial
set_option maxRecDepth 100000
open PySem PySem.W PySem.Calls PyProof.Rows
namespace Mine
theorem chain9 {a b : List (Addr × Obj)} {x : Addr × Obj} (h : ∀ q ∈ a, q ∈ b) (hx : x ∈ a) : x ∈ b := h x hx
theorem grow_ne2 {b : Addr} {tl tl' all : List (Addr × Obj)} {o : Obj} (hg : ∀ q ∈ tl', q ∈ tl ∨ ∀ r ∈ all, @LT.lt Nat _ r.1 q.1) (hm : (b, o) ∈ all) (h : ∀ p ∈ tl, p.1 ≠ b) : ∀ p ∈ tl', p.1 ≠ b := grow_ne h hg hm
theorem any4 {z : Int} (h : ([8, 16, 32, 64].any fun x => x == z) = true) : z = 8 ∨ z = 16 ∨ z = 32 ∨ z = 64 := by
  simp only [List.any_cons, List.any_nil, Bool.or_false, Bool.or_eq_true, beq_iff_eq] at h
  lia
theorem size_any {rest : List (Addr × Obj)} {skv : List (Int × Value)} (h : SizesIs rest allZs skv) {z : Int} (hz : ([8, 16, 32, 64].any fun x => x == z) = true) : SizeAt rest skv z (gprNames z) := by
  obtain ⟨h1, h2, h3, h4, _⟩ := sizes_all h
  rcases any4 hz with rfl | rfl | rfl | rfl
  · exact h1
  · exact h2
  · exact h3
  · exact h4
theorem early_some {z : Int} (hz : ([8, 16, 32, 64].any fun x => x == z) = true) : earlyL z ≠ [] := by
  rcases any4 hz with rfl | rfl | rfl | rfl <;> decide +kernel
theorem early_none {z : Int} (hz : ([8, 16, 32, 64].any fun x => x == z) = false) : earlyL z = [] := by
  simp only [List.any_cons, List.any_nil, Bool.or_false, Bool.or_eq_false_iff, beq_eq_false_iff_ne] at hz
  unfold earlyL
  rw [if_neg (by lia), if_neg (by lia), if_neg (by lia), if_neg (by lia)]
theorem gpr_len {z : Int} (hz : ([8, 16, 32, 64].any fun x => x == z) = true) : (gprNames z).length = 16 := by
  rcases any4 hz with rfl | rfl | rfl | rfl <;> decide +kernel
theorem xmm_len : xmmNames.length = 16 := by decide +kernel
theorem name_at {z k : Int} (hz : ([8, 16, 32, 64].any fun x => x == z) = true) (h0 : 0 ≤ k) (h1 : k < 16) : regName k z = (gprNames z).getD k.toNat Str.empty := by
  have key : ∀ n < 16, ∀ y ∈ ([8, 16, 32, 64] : List Int), regName (n : Nat) y = (gprNames y).getD n Str.empty := by decide +kernel
  have := key k.toNat (by lia) z (by rcases any4 hz with rfl | rfl | rfl | rfl <;> decide)
  rwa [Int.toNat_of_nonneg h0] at this
theorem xmm_at {k : Int} (h0 : 0 ≤ k) (h1 : k < 16) : Str.ofString "xmm" ++ Str.ofString (toString k) = xmmNames.getD k.toNat Str.empty := by
  have key : ∀ n < 16, Str.ofString "xmm" ++ Str.ofString (toString ((n : Nat) : Int)) = xmmNames.getD n Str.empty := by decide +kernel
  have := key k.toNat (by lia)
  rwa [Int.toNat_of_nonneg h0] at this
def tops4 : List Str := [Str.ofString "ah", Str.ofString "ch", Str.ofString "dh", Str.ofString "bh"]
theorem tops_eq : highs = tops4 := by decide +kernel
theorem high_at {k : Int} : highs.getD (k - 4).toNat Str.empty = tops4.getD (k - 4).toNat Str.empty := by rw [tops_eq]
theorem oct_t {k : Int} (h0 : 0 ≤ k) (h1 : k < 16) : octName true k = (gprNames 8).getD k.toNat Str.empty := by
  unfold octName
  rw [if_neg (fun h => by cases h.1)]
  exact name_at (by decide) h0 h1
theorem oct_f {k : Int} (h0 : 0 ≤ k) (h1 : k < 16) (h2 : ¬ (4 ≤ k ∧ k < 8)) : octName false k = (gprNames 8).getD k.toNat Str.empty := by
  unfold octName
  rw [if_neg (fun h => h2 ⟨h.2.1, by lia⟩)]
  exact name_at (by decide) h0 h1
theorem oct_h {k : Int} (h0 : 4 ≤ k) (h1 : k < 8) : octName false k = tops4.getD (k - 4).toNat Str.empty := by
  unfold octName
  rw [if_pos ⟨rfl, h0, by lia⟩]
  exact high_at
section
variable {prog : Program} {w : World} {A : Around} {E : Value → Shared → Prop} {s : Shared} {h₀ : Heap} {L : Addr} {news rest : List (Addr × Obj)}
theorem size_step {value slice : PySem.Expr} {SZ : Addr} {oSZ : Obj} {skv : List (Int × Value)} {z : Int} {t : Tok} {Q : Value → Shared → Prop} (N : News h₀ L s.heap news) (hm : (SZ, oSZ) ∈ news) (hd : oSZ.IsDictOf (intKind prog w) skv) (hz : SizesIs rest allZs skv)
    (ha : ([8, 16, 32, 64].any fun x => x == z) = true)
    (h : ∀ D vs n, (D, (⟨.type "list", none, .seq vs.toArray n, #[]⟩ : Obj)) ∈ rest → StrsAre vs (gprNames z) → (gprNames z).length = 16 → Q (.ref D) { s with toks := s.toks + 1 })
    (hs : subscripted slice false (.ref SZ) (.int z t) = operate [.ref SZ, .int z t] (getItem (.ref SZ) (.int z t)) := by with_unfolding_all rfl) (hg : ∀ r, letTemporaryGo value (.ref SZ) r = pure () := by intro _; with_unfolding_all rfl) :
    wpAny (model prog w) A (subscriptTail value slice (.ref SZ) (.int z t)) Q E s := by
  obtain ⟨D, vs, n, h1, h2, h3⟩ := size_any hz ha
  exact kda_item (knd := intKind prog w) N hm hd (intKind_is _ _ _ _) h1 (h D vs n h2 h3 (gpr_len ha)) hs hg
theorem item_rest {value slice : PySem.Expr} {a : Addr} {l : List Value} {ys : List Str} {k : Int} {u : Tok} {n : Nat} {Q : Value → Shared → Prop} (hl : (a, (⟨.type "list", none, .seq l.toArray n, #[]⟩ : Obj)) ∈ rest) (hi : StrsAre l ys) (hlen : ys.length = 16) (N : News h₀ L s.heap news) (hsub : ∀ p ∈ rest, p ∈ news)
    (h0 : 0 ≤ k) (hk : k < 16) (h : ∀ t', Q (.str (ys.getD k.toNat Str.empty) t') s)
    (hs : subscripted slice false (.ref a) (.int k u) = operate [.ref a, .int k u] (getItem (.ref a) (.int k u)) := by with_unfolding_all rfl) (hg : ∀ r, letTemporaryGo value (.ref a) r = pure () := by intro _; with_unfolding_all rfl) :
    wpAny (model prog w) A (subscriptTail value slice (.ref a) (.int k u)) Q E s :=
  item_strsK N (hsub _ hl) hi h0 (by lia) (by lia) h hs hg
theorem item_tops {value slice : PySem.Expr} {a : Addr} {t1 t2 t3 t4 : Tok} {k : Int} {u : Tok} {n : Nat} {Q : Value → Shared → Prop} (N : News h₀ L s.heap news)
    (hl : (a, W.listOf #[.str (Str.ofString "ah") t1, .str (Str.ofString "ch") t2, .str (Str.ofString "dh") t3, .str (Str.ofString "bh") t4] n) ∈ news)
    (h0 : 4 ≤ k) (hk : k < 8) (h : ∀ t', Q (.str (tops4.getD (k - 4).toNat Str.empty) t') s)
    (hs : subscripted slice false (.ref a) (.int (k - 4) u) = operate [.ref a, .int (k - 4) u] (getItem (.ref a) (.int (k - 4) u)) := by with_unfolding_all rfl) (hg : ∀ r, letTemporaryGo value (.ref a) r = pure () := by intro _; with_unfolding_all rfl) :
    wpAny (model prog w) A (subscriptTail value slice (.ref a) (.int (k - 4) u)) Q E s :=
  item_strsK (l := [.str (Str.ofString "ah") t1, .str (Str.ofString "ch") t2, .str (Str.ofString "dh") t3, .str (Str.ofString "bh") t4]) (ys := tops4) N hl (.cons _ _ (.cons _ _ (.cons _ _ (.cons _ _ .nil)))) (by lia) (by rw [show tops4.length = 4 from rfl]; lia) (by lia) h hs hg
end
end Mine
end
section
open PySem PySem.W PySem.Calls PyProof.Rows
namespace Mine
theorem rows_C17_1 : True := by
  k_with_none
  k_with "m:on" => skip
  k_with "m:klt" => (intro l0; replace l0 := allLt_of l0; dsimp only [AllLt] at l0; (repeat (have := And.left l0; replace l0 := And.right l0)); revert l0)
  k_with "m:ktr_room" => k_dflt (first | exact rm1 (by with_reducible assumption) rfl | exact rm2 (by with_reducible assumption) rfl | exact rm3 (by with_reducible assumption) rfl)
  k_with "m:ktr_units" => k_dflt (first | exact un0 (by with_reducible assumption) rfl | exact un1 (by with_reducible assumption) rfl | exact un2 (by with_reducible assumption) rfl | exact un3 (by with_reducible assumption) rfl)
  k_with "m:k_ne" => (refine neN ?_; (try dsimp only); first | with_reducible assumption | exact Ne.symm (by with_reducible assumption) | exact Nat.ne_of_lt (by with_reducible assumption) | exact Nat.ne_of_gt (by with_reducible assumption) | lia)
  k_with "m:cell_enter" => (refine' enterGC ?zk1_C17r1 ?zk2_C17r1 ?zk3_C17r1 ?zk4_C17r1 ?zk5_C17r1 ?zk6_C17r1 ?zk7_C17r1 ?zk8_C17r1 ?zk9_C17r1 ?zkB_C17r1 ?zkD_C17r1 ?_ ?zc2_C17r1 ?zc3_C17r1 ?zc4_C17r1; (case zk1_C17r1 => k_asm); (case zk2_C17r1 => k_asm); (case zk3_C17r1 => k_asm); (case zk4_C17r1 => k_asm); (case zk5_C17r1 => k_asm); (case zk6_C17r1 => k_is); (case zk7_C17r1 => k_is); (case zk8_C17r1 => lia); (case zk9_C17r1 => first | exact BindsTo.of_eq rfl | exact binds_K (by k_in) rfl (by k_is) rfl rfl rfl); (case zkB_C17r1 => exact rfl); (case zkD_C17r1 => decide +kernel); (case zc2_C17r1 => exact rfl); (case zc3_C17r1 => exact rfl); (case zc4_C17r1 => exact rfl); k_whole; intro L' h' tk' cells' F' N' Y' l1; (try k_lt l1); k_cells Y'; (try simp only [List.cons_append, List.nil_append, List.append_nil] at N'); (try dsimp only); (try k_fold))
  k_with "m:cell_enter" => (first | (refine' enterG ?zk1_C17r2 ?zk2_C17r2 ?zk3_C17r2 ?zk4_C17r2 ?zk5_C17r2 ?zk6_C17r2 ?zk7_C17r2 ?zk8_C17r2 ?zk9_C17r2 ?zkB_C17r2 ?_ ?zc2_C17r2 ?zc3_C17r2 ?zc4_C17r2 ?zc5_C17r2; (case zk1_C17r2 => k_asm); (case zk2_C17r2 => k_asm); (case zk3_C17r2 => k_asm); (case zk4_C17r2 => k_asm); (case zk5_C17r2 => k_asm); (case zk6_C17r2 => k_is); (case zk7_C17r2 => k_is); (case zk8_C17r2 => lia); (case zk9_C17r2 => first | exact BindsTo.of_eq rfl | exact binds_K (by k_in) rfl (by k_is) rfl rfl rfl); (case zc5_C17r2 => decide); (case zkB_C17r2 => exact locs rfl); (case zc2_C17r2 => exact rfl); (case zc3_C17r2 => exact rfl); (case zc4_C17r2 => exact rfl); k_whole; intro L' h' F' N' l1; (try k_lt l1); (try dsimp only); (try k_fold)) | fail)
  k_with "m:exec Raise some none" => (k_here; (with_reducible show wpAny _ _ (exec (Stmt.Raise (some (Expr.Call (Expr.Name _ _) _ _ _)) none _) _) _ _ _); k_dflt (refine Raise_mint (by exact rfl) ?_))
  k_with "m:call ref" => (k_here; (with_reducible show wpAny _ _ (call (Value.ref _) [Value.str _ _]) (RaisedO _) _ _); k_dflt (refine' mint_callN PySem.F.excBase_Exception ?zX_C17r4 ?zF_C17r4 ?zN_C17r4 ?zC_C17r4 ?zi_C17r4 ?zf_C17r4 ?zc_C17r4 ?_; (case zX_C17r4 => k_asm); (case zF_C17r4 => k_asm); (case zN_C17r4 => k_asm); (case zC_C17r4 => k_is); (case zi_C17r4 => k_is); (case zf_C17r4 => k_is); (case zc_C17r4 => rfl); k_whole); intro e' t' h' F' N' l1 l2; (try k_lt l1); (try k_lt2 l2); k_dflt (refine wpAny_call ?_; k_enter))
  k_with "m:getMethod type:Exception" => (k_here; refine' method_type ?zF_C17r5 ?zX_C17r5 ?zm_C17r5 (by decide +kernel) ?ze_C17r5 ?zh_C17r5 ?_; (case zF_C17r5 => k_asm); (case zX_C17r5 => k_asm); (case zm_C17r5 => exact meta_Exception); (case ze_C17r5 => k_dflt k_is); (case zh_C17r5 => k_handed))
  k_with "m:call builtin:Exception.__init__" => (k_here; k_dflt (refine' exc_initN' PySem.F.excBase_Exception ?zC_C17r6 ?zF_C17r6 ?zN_C17r6 ?zh2_C17r6 ?_; (case zF_C17r6 => k_asm); (case zN_C17r6 => k_asm); (case zC_C17r6 => exact Frag.In.keeps (by k_asm) (Fr.keep (by k_asm)) _ _ (by k_is)); (case zh2_C17r6 => k_all); k_whole); intro D' h' F' N' l1; (try simp only [List.nil_append] at F' N' l1); (try k_lt l1))
  k_with "m:setAttr ref" => (k_here; k_dflt (refine' exc_set2 ?zF_C17r7 ?zX_C17r7 ?zN_C17r7 ?ze_C17r7 ?zU_C17r7 ?zs_C17r7 ?zc_C17r7 ?zm_C17r7 ?zd_C17r7 ?zt_C17r7 ?zn_C17r7 ?zq_C17r7 ?zz_C17r7 ?_; (case zF_C17r7 => k_asm); (case zX_C17r7 => k_asm); (case zN_C17r7 => k_asm); (case ze_C17r7 => k_mem); (case zU_C17r7 => k_upd); (case zs_C17r7 => k_is); (case zc_C17r7 => k_is); (case zm_C17r7 => rfl); (case zd_C17r7 => rfl); (case zt_C17r7 => k_is); (case zn_C17r7 => rfl); (case zq_C17r7 => rfl); (case zz_C17r7 => exact Nat.le_of_ble_eq_true rfl); k_whole); intro h' tk' F' N')
  k_with "m:setAttr ref" => (k_here; k_dflt (refine' exc_set1' ?zF_C17r8 ?zX_C17r8 ?zN_C17r8 ?zh1_C17r8 ?zh2_C17r8 ?zs_C17r8 ?zc_C17r8 ?zm_C17r8 ?zd_C17r8 ?zt_C17r8 ?_; (case zF_C17r8 => k_asm); (case zX_C17r8 => k_asm); (case zN_C17r8 => k_asm); (case zh1_C17r8 => k_ne); (case zh2_C17r8 => k_all); (case zs_C17r8 => k_is); (case zc_C17r8 => k_is); (case zm_C17r8 => rfl); (case zd_C17r8 => rfl); (case zt_C17r8 => k_is); k_whole); intro D' h' tk' F' N' l1; (try simp only [List.cons_append, List.nil_append] at F' N' l1); (try k_lt l1))
  k_with "m:RaisedO" => (k_dflt (refine' raisedO_of ?zX_C17r9 ?zF_C17r9 ?zN_C17r9 ?ze_C17r9 ?zC_C17r9 ?zb_C17r9 ?_; (case zX_C17r9 => k_asm); (case zF_C17r9 => k_asm); (case zN_C17r9 => k_asm); (case ze_C17r9 => k_mem); (case zC_C17r9 => k_is); (case zb_C17r9 => rfl); k_whole))
  k_with "m:leaving ref" => (k_here; k_dflt (refine' leave_mint4 ?zK_C17r10 ?zF_C17r10 ?zN_C17r10 ?zh1_C17r10 ?zh2_C17r10 ?_; (case zK_C17r10 => k_asm); (case zF_C17r10 => k_asm); (case zN_C17r10 => k_asm); (case zh1_C17r10 => k_all); (case zh2_C17r10 => k_all); k_whole); intro h' R' RK' U'; (try dsimp only at R' RK' U' ⊢))
  k_with "m:my_ask" => (intro p9 loose9 mean9 mg9 mb9 dp9 un9 gd9 outer9 base9 g9 s9 R9 hus9 hB9 hX9 hT9 hg9 hz9 hd9 hu9 hret9; (have a1 := hus9 _ (.head _)); (have a2 := hus9 _ (.tail _ (.head _))); (have a3 := hus9 _ (.tail _ (.tail _ (.head _)))); (try (have a4 := hus9 _ (.tail _ (.tail _ (.tail _ (.head _)))))); clear hus9; (refine' enterL hT9 hg9 hz9 a1 ⟨_, _, _, _, rfl, a2, ?zq1_C17r11, ?zq2_C17r11⟩ ?zroom_C17r11 ?zbind_C17r11 ?zloc_C17r11 ?_ ?zco_C17r11 ?zgen_C17r11 ?zk_C17r11 ?zcell_C17r11; (case zq1_C17r11 => k_asm); (case zq2_C17r11 => k_asm); (case zroom_C17r11 => lia); (case zbind_C17r11 => exact rfl); (case zloc_C17r11 => exact locs rfl); (case zco_C17r11 => exact rfl); (case zgen_C17r11 => exact rfl); (case zk_C17r11 => exact rfl); (case zcell_C17r11 => decide)); k_whole; intro L' h' F' N'; (try dsimp only); k_steps; all_goals (try dsimp only); all_goals first | exact hret9.1 (by assumption) _ [_, _] _ _ (Fr.keep (by assumption)) (new2 (by assumption)) (regOut_of rfl (by assumption)) | exact hret9.2 (by assumption) _ _ _ _ _ (raisedS_nil (by assumption)) (raisedK_nil (by assumption)) (by assumption))
  k_with "m:eval Name" => (k_here; k_dflt (refine' nameX_G ?zF_C17r12 ?zc_C17r12 ?zv_C17r12 ?zd_C17r12 ?_ ?zk_C17r12 ?zx_C17r12; (case zk_C17r12 => exact rfl); (case zx_C17r12 => with_unfolding_all rfl); (case zF_C17r12 => k_asm); (case zc_C17r12 => exact rfl); k_whole); (case zv_C17r12 => k_asm); (case zd_C17r12 => k_asm))
  k_with "m:call ref" => (k_here; (with_reducible show wpAny _ _ (call (Value.ref 167) [Value.int _ _, Value.int _ _]) _ _ _); k_dflt (refine' callMayReg (gpr_ok _ _ _ _ _ ?zh_C17r13 ?zh2_C17r13) ?zB_C17r13 ?zF_C17r13 ?zX_C17r13 ?zN_C17r13 ?zT_C17r13 ?zA_C17r13 ?zf_C17r13 ?zk_C17r13 ?zd_C17r13 ?zu_C17r13 ?_ ?_; (case zF_C17r13 => k_asm); (case zB_C17r13 => k_asm); (case zX_C17r13 => k_asm); (case zN_C17r13 => k_asm); (case zT_C17r13 => k_asm); (case zA_C17r13 => exact rfl); (case zf_C17r13 => exact rfl); (case zk_C17r13 => exact rfl); (case zd_C17r13 => ktr_room); (case zu_C17r13 => ktr_units); (case zh_C17r13 => lia); (case zh2_C17r13 => lia); k_whole; (all_goals first | (intro hz x' d' u1 u2 u3 u4 u5 u6 u7 u8 h' tk' hx' F' N' l1 l2; (try dsimp only [AllNe] at l1 l2); (repeat (have := And.left l1; replace l1 := And.right l1)); (repeat (have := And.left l2; replace l2 := And.right l2))) | (intro hz e' t' ws' h' tk' R' RK' U'))))
  k_with "m:call ref" => (k_here; (with_reducible show wpAny _ _ (call (Value.ref 174) [Value.int _ _]) _ _ _); k_dflt (refine' callMayReg (high_ok _ _ _ ?zh_C17r14 ?zh2_C17r14) ?zB_C17r14 ?zF_C17r14 ?zX_C17r14 ?zN_C17r14 ?zT_C17r14 ?zA_C17r14 ?zf_C17r14 ?zk_C17r14 ?zd_C17r14 ?zu_C17r14 ?_ ?_; (case zF_C17r14 => k_asm); (case zB_C17r14 => k_asm); (case zX_C17r14 => k_asm); (case zN_C17r14 => k_asm); (case zT_C17r14 => k_asm); (case zA_C17r14 => exact rfl); (case zf_C17r14 => exact rfl); (case zk_C17r14 => exact rfl); (case zd_C17r14 => ktr_room); (case zu_C17r14 => ktr_units); (case zh_C17r14 => lia); (case zh2_C17r14 => lia); k_whole; (all_goals first | (intro hz x' d' u1 u2 u3 u4 u5 u6 u7 u8 h' tk' hx' F' N' l1 l2; (try dsimp only [AllNe] at l1 l2); (repeat (have := And.left l1; replace l1 := And.right l1)); (repeat (have := And.left l2; replace l2 := And.right l2))) | (intro hz e' t' ws' h' tk' R' RK' U'))))
  k_with "m:call ref" => (k_here; (with_reducible show wpAny _ _ (call (Value.ref 188) [Value.int _ _]) _ _ _); k_dflt (refine' callMayReg (xmm_ok _ _ _ ?zh_C17r15 ?zh2_C17r15) ?zB_C17r15 ?zF_C17r15 ?zX_C17r15 ?zN_C17r15 ?zT_C17r15 ?zA_C17r15 ?zf_C17r15 ?zk_C17r15 ?zd_C17r15 ?zu_C17r15 ?_ ?_; (case zF_C17r15 => k_asm); (case zB_C17r15 => k_asm); (case zX_C17r15 => k_asm); (case zN_C17r15 => k_asm); (case zT_C17r15 => k_asm); (case zA_C17r15 => exact rfl); (case zf_C17r15 => exact rfl); (case zk_C17r15 => exact rfl); (case zd_C17r15 => ktr_room); (case zu_C17r15 => ktr_units); (case zh_C17r15 => lia); (case zh2_C17r15 => lia); k_whole; (all_goals first | (intro hz x' d' u1 u2 u3 u4 u5 u6 u7 u8 h' tk' hx' F' N' l1 l2; (try dsimp only [AllNe] at l1 l2); (repeat (have := And.left l1; replace l1 := And.right l1)); (repeat (have := And.left l2; replace l2 := And.right l2))) | (intro hz e' t' ws' h' tk' R' RK' U'))))
  k_with "m:leaving ref" => (k_here; k_dflt (refine' leave_onE ?zK_C17r16 ?zF_C17r16 ?zR_C17r16 ?zU_C17r16 ?_ ?zf_C17r16; (case zf_C17r16 => exact rfl); (case zR_C17r16 => k_asm); (case zK_C17r16 => k_asm); (case zF_C17r16 => k_asm); (case zU_C17r16 => k_asm); k_whole); intro h' R' RK' U'; (try dsimp only at R' RK' U' ⊢))
  k_with "m:call ref" => (k_here; (with_reducible show wpAny _ _ (call (Value.ref 181) [Value.int _ _, Value.bool _]) _ _ _); k_dflt (refine' callMayReg (octet_ok _ _ _ _ ?zh_C17r17 ?zh2_C17r17) ?zB_C17r17 ?zF_C17r17 ?zX_C17r17 ?zN_C17r17 ?zT_C17r17 ?zA_C17r17 ?zf_C17r17 ?zk_C17r17 ?zd_C17r17 ?zu_C17r17 ?_ ?_; (case zF_C17r17 => k_asm); (case zB_C17r17 => k_asm); (case zX_C17r17 => k_asm); (case zN_C17r17 => k_asm); (case zT_C17r17 => k_asm); (case zA_C17r17 => exact rfl); (case zf_C17r17 => exact rfl); (case zk_C17r17 => exact rfl); (case zd_C17r17 => ktr_room); (case zu_C17r17 => ktr_units); (case zh_C17r17 => lia); (case zh2_C17r17 => lia); k_whole; (all_goals first | (intro hz x' d' u1 u2 u3 u4 u5 u6 u7 u8 h' tk' hx' F' N' l1 l2; (try dsimp only [AllNe] at l1 l2); (repeat (have := And.left l1; replace l1 := And.right l1)); (repeat (have := And.left l2; replace l2 := And.right l2))) | (intro hz e' t' ws' h' tk' R' RK' U'))))
  trivial

set_option maxRecDepth 100000 in
set_option maxHeartbeats 4000000 in
theorem ask_gpr (w : World) {fa c' cN cS : Addr} {oc oN oS : Obj} {tk0 tk1 tv : Tok} {k z : Int} {ln lq : Str} {p1 p2 p3 p4 : Pos} {lpm lctv : Value} {vs : Array Value}
    (hcd : oc.data = .fields vs) (hcv : vs[1]? = some (.str lq tv)) (hdN : oN.data = .cell (some (.int k tk0))) (hdS : oS.data = .cell (some (.int z tk1))) (hk1 : -100 < k) (hk2 : k < 100) :
    AskG w 7 fa [(fa, kla_obj ln lq { posonlyargs := [], args := [], vararg := none, kwonlyargs := [], kw_defaults := [], kwarg := none, defaults := [] } (.Call (.Name (Str.ofString "gpr") p1) [.Name (Str.ofString "number") p2, .Name (Str.ofString "size") p3] [] p4) { kind := ScopeKind.function, names := [(Str.ofString "number", .free), (Str.ofString "size", .free), (Str.ofString "gpr", .globalImplicit)], isGenerator := false, isCoroutine := false } [(Str.ofString "size", cS), (Str.ofString "number", cN)] lpm c' lctv), (c', oc), (cN, oN), (cS, oS)] (earlyL z ≠ [] ∧ 0 ≤ k ∧ k ≤ 15) (RegOut w.params (regName k z) (Str.ofString "gpr") k (z)) 71 := by
  dsimp only [AskG]; k_fill; k_extra "m:my_ask"

set_option maxRecDepth 100000 in
set_option maxHeartbeats 4000000 in
theorem ask_xmm (w : World) {fa c' cN : Addr} {oc oN : Obj} {tk0 tv : Tok} {k : Int} {ln lq : Str} {p1 p2 p4 : Pos} {lpm lctv : Value} {vs : Array Value}
    (hcd : oc.data = .fields vs) (hcv : vs[1]? = some (.str lq tv)) (hdN : oN.data = .cell (some (.int k tk0))) (hk1 : -100 < k) (hk2 : k < 100) :
    AskG w 7 fa [(fa, kla_obj ln lq { posonlyargs := [], args := [], vararg := none, kwonlyargs := [], kw_defaults := [], kwarg := none, defaults := [] } (.Call (.Name (Str.ofString "xmm") p1) [.Name (Str.ofString "number") p2] [] p4) { kind := ScopeKind.function, names := [(Str.ofString "number", .free), (Str.ofString "xmm", .globalImplicit)], isGenerator := false, isCoroutine := false } [(Str.ofString "number", cN)] lpm c' lctv), (c', oc), (cN, oN)] (0 ≤ k ∧ k ≤ 15) (RegOut w.params (Str.ofString "xmm" ++ Str.ofString (toString k)) (Str.ofString "xmm") k (128)) 71 := by
  dsimp only [AskG]; k_fill; k_extra "m:my_ask"

set_option maxRecDepth 100000 in
set_option maxHeartbeats 4000000 in
theorem ask_high (w : World) {fa c' cN : Addr} {oc oN : Obj} {tk0 tv : Tok} {k : Int} {ln lq : Str} {p1 p2 p4 : Pos} {lpm lctv : Value} {vs : Array Value}
    (hcd : oc.data = .fields vs) (hcv : vs[1]? = some (.str lq tv)) (hdN : oN.data = .cell (some (.int k tk0))) (hk1 : -100 < k) (hk2 : k < 100) :
    AskG w 7 fa [(fa, kla_obj ln lq { posonlyargs := [], args := [], vararg := none, kwonlyargs := [], kw_defaults := [], kwarg := none, defaults := [] } (.Call (.Name (Str.ofString "high") p1) [.Name (Str.ofString "number") p2] [] p4) { kind := ScopeKind.function, names := [(Str.ofString "number", .free), (Str.ofString "high", .globalImplicit)], isGenerator := false, isCoroutine := false } [(Str.ofString "number", cN)] lpm c' lctv), (c', oc), (cN, oN)] (4 ≤ k ∧ k ≤ 7) (RegOut w.params (highs.getD (k - 4).toNat Str.empty) (Str.ofString "high") k (8)) 71 := by
  dsimp only [AskG]; k_fill; k_extra "m:my_ask"

set_option maxRecDepth 100000 in
set_option maxHeartbeats 4000000 in
theorem ask_oct_true (w : World) {fa c' cN : Addr} {oc oN : Obj} {tk0 tv : Tok} {k : Int} {ln lq : Str} {p1 p2 p3 p4 : Pos} {ck : Nat} {lpm lctv : Value} {vs : Array Value}
    (hcd : oc.data = .fields vs) (hcv : vs[1]? = some (.str lq tv)) (hdN : oN.data = .cell (some (.int k tk0))) (hk1 : -100 < k) (hk2 : k < 100) :
    AskG w 7 fa [(fa, kla_obj ln lq { posonlyargs := [], args := [], vararg := none, kwonlyargs := [], kw_defaults := [], kwarg := none, defaults := [] } (.Call (.Name (Str.ofString "octet_register") p1) [.Name (Str.ofString "number") p2, .Constant (.bool true) ck p3] [] p4) { kind := ScopeKind.function, names := [(Str.ofString "number", .free), (Str.ofString "octet_register", .globalImplicit)], isGenerator := false, isCoroutine := false } [(Str.ofString "number", cN)] lpm c' lctv), (c', oc), (cN, oN)] (0 ≤ k ∧ k ≤ 15) (RegOut w.params (octName true k) (octKind true k) k (8)) 71 := by
  dsimp only [AskG]; k_fill; k_extra "m:my_ask"

set_option maxRecDepth 100000 in
set_option maxHeartbeats 4000000 in
theorem ask_oct_false (w : World) {fa c' cN : Addr} {oc oN : Obj} {tk0 tv : Tok} {k : Int} {ln lq : Str} {p1 p2 p3 p4 : Pos} {ck : Nat} {lpm lctv : Value} {vs : Array Value}
    (hcd : oc.data = .fields vs) (hcv : vs[1]? = some (.str lq tv)) (hdN : oN.data = .cell (some (.int k tk0))) (hk1 : -100 < k) (hk2 : k < 100) :
    AskG w 7 fa [(fa, kla_obj ln lq { posonlyargs := [], args := [], vararg := none, kwonlyargs := [], kw_defaults := [], kwarg := none, defaults := [] } (.Call (.Name (Str.ofString "octet_register") p1) [.Name (Str.ofString "number") p2, .Constant (.bool false) ck p3] [] p4) { kind := ScopeKind.function, names := [(Str.ofString "number", .free), (Str.ofString "octet_register", .globalImplicit)], isGenerator := false, isCoroutine := false } [(Str.ofString "number", cN)] lpm c' lctv), (c', oc), (cN, oN)] (0 ≤ k ∧ k ≤ 15) (RegOut w.params (octName false k) (octKind false k) k (8)) 71 := by
  dsimp only [AskG]; k_fill; k_extra "m:my_ask"

end Mine
end
section
theorem Mine.none_All : True := by
  k_with_none
  w_top off
  trivial
set_option maxRecDepth 100000
open PySem PySem.W PySem.Calls PyProof.Rows PyProof.Rows.LCg PyProof.Rows.LCt PySem.SeqAt
namespace Mine
/-- a register of this name stands -/
def RegAt (P : Params) (rs : List (Addr × Obj)) (nm : Str) (v : Value) : Prop :=
  ∃ X d kd k n t1 t2 t3 t4 t5 t6 t7 t8, v = .ref X ∧ (X, instObj 142 d) ∈ rs ∧ (d, regDict P nm kd k n t1 t2 t3 t4 t5 t6 t7 t8) ∈ rs
theorem RegAt.more {P : Params} {rs rs' : List (Addr × Obj)} {nm : Str} {v : Value} (h : RegAt P rs nm v) (hs : ∀ p ∈ rs, p ∈ rs') : RegAt P rs' nm v := by
  obtain ⟨X, d, kd, k, n, t1, t2, t3, t4, t5, t6, t7, t8, e, h1, h2⟩ := h
  exact ⟨X, d, kd, k, n, t1, t2, t3, t4, t5, t6, t7, t8, e, hs _ h1, hs _ h2⟩
inductive RegsAre (P : Params) (rs : List (Addr × Obj)) : List Value → List Str → Prop
  | nil : RegsAre P rs [] []
  | cons {v : Value} {nm : Str} {vs : List Value} {xs : List Str} : RegAt P rs nm v → RegsAre P rs vs xs → RegsAre P rs (v :: vs) (nm :: xs)
theorem RegsAre.more {P : Params} {rs rs' : List (Addr × Obj)} {vs : List Value} {xs : List Str} (h : RegsAre P rs vs xs) (hs : ∀ p ∈ rs, p ∈ rs') : RegsAre P rs' vs xs := by
  induction h with
  | nil => exact .nil
  | cons h _ ih => exact .cons (h.more hs) ih
theorem RegsAre.app {P : Params} {rs : List (Addr × Obj)} {vs us : List Value} {xs ys : List Str} (h : RegsAre P rs vs xs) (h2 : RegsAre P rs us ys) : RegsAre P rs (vs ++ us) (xs ++ ys) := by
  induction h with
  | nil => exact h2
  | cons h _ ih => exact .cons h ih
theorem RegsAre.len {P : Params} {rs : List (Addr × Obj)} {vs : List Value} {xs : List Str} (h : RegsAre P rs vs xs) : vs.length = xs.length := by
  induction h with
  | nil => rfl
  | cons _ _ ih => exact congrArg (· + 1) ih
theorem RegsAre.at {P : Params} {rs : List (Addr × Obj)} {vs : List Value} {xs : List Str} (h : RegsAre P rs vs xs) : ∀ (i : Nat) (v : Value), vs[i]? = some v → ∃ x, xs[i]? = some x ∧ RegAt P rs x v := by
  induction h with
  | nil => intro i v e; simp at e
  | @cons v nm vs xs h _ ih =>
    intro i u e
    cases i with
    | zero =>
      have : v = u := by simpa using e
      subst this
      exact ⟨nm, rfl, h⟩
    | succ i =>
      obtain ⟨x, h1, h2⟩ := ih i u (by simpa using e)
      exact ⟨x, by simpa using h1, h2⟩
/-- all_registers' names -/
def allNames (n : Int) : List Str := if n = 128 then xmmNames else if n = 8 then gprNames 8 ++ tops4 else gprNames n
def AllOut (P : Params) (n : Int) (v : Value) (ns : List (Addr × Obj)) : Prop := ∃ D vs ep rs, v = .ref D ∧ ns = (D, (⟨.type "list", none, .seq vs.toArray ep, #[]⟩ : Obj)) :: rs ∧ RegsAre P rs vs (allNames n)
section
variable {prog : Program} {w : World} {A : Around} {E : Value → Shared → Prop} {s : Shared} {h₀ : Heap} {L : Addr} {m : Str → Option Value} {env : Env} {news : List (Addr × Obj)}
theorem comp_regs {elt : PySem.Expr} {x : Str} {scope : Scope} {cl : List (Str × Addr)} {S : List (Addr × Obj) → Prop} {Fin : List Value → List (Addr × Obj) → Prop} {n : Nat} {a : Int} (g : Nat → Str)
    (turn : ∀ (i : Nat) t I oI C oC D ys rs m₂ h tk (E' : Value → Shared → Prop), i < n → NsObj oC m₂ → m₂ x = some (.int (a + (i : Int)) t) → Fr h₀ L h m → News h₀ L h ((I, oI) :: (C, oC) :: (D, lst ys) :: (news ++ rs)) → Off3 I C D (news ++ rs) → ((@Ne Nat I C) ∧ (@Ne Nat I D) ∧ (@Ne Nat C D)) →
      wpAny (model prog w) A (eval elt (compEnvC scope cl C env)) (CompEnd h₀ L m { s with heap := h, toks := tk } I oI C oC D (lst ys) S (fun y nw => ∃ rs', nw = news ++ rs' ∧ (∀ p ∈ rs, p ∈ rs') ∧ RegAt w.params rs' (g i) y)) E' { s with heap := h, toks := tk })
    (fin : ∀ ys rs, RegsAre w.params rs ys ((List.range n).map g) → Fin ys (news ++ rs)) : CompRest prog w A h₀ L m env elt x scope cl s S (fun i v => ∃ t, v = .int (a + (i : Int) * 1) t) Fin n 0 [] news := by
  refine comp_J (fun i ys nw => ∃ rs, nw = news ++ rs ∧ RegsAre w.params rs ys ((List.range i).map g)) ?_ ?_ ⟨[], (List.append_nil _).symm, .nil⟩
  · rintro i ys nw v I oI C oC D m₂ h tk E' hi ⟨rs, rfl, hy⟩ ⟨t, rfl⟩ hC hx F N off ne
    rw [Int.mul_one] at hx
    refine wpAny_mono (turn i t I oI C oC D ys rs m₂ h tk E' hi hC hx F N off ne) (fun y s₂ hq => ?_) fun _ _ e => e
    obtain ⟨h', tk', nw', e1, F', N', off', hS, rs', e2, hs, hR⟩ := hq
    refine ⟨h', tk', nw', e1, F', N', off', hS, rs', e2, ?_⟩
    rw [List.range_succ, List.map_append]
    exact (hy.more hs).app (.cons hR .nil)
  · rintro ys nw ⟨rs, rfl, hy⟩
    exact fin ys rs hy
theorem regEnd {I C D X d : Addr} {s₁ : Shared} {oI oC oD : Obj} {h' : Heap} {tk : Nat} {rs : List (Addr × Obj)} {nm nm' kd : Str} {k n : Int} {t1 t2 t3 t4 t5 t6 t7 t8 : Tok} {P : Params}
    (F : Fr h₀ L h' m) (N : News h₀ L h' ((X, instObj 142 d) :: (d, regDict P nm kd k n t1 t2 t3 t4 t5 t6 t7 t8) :: (I, oI) :: (C, oC) :: (D, oD) :: (news ++ rs))) (off : Off3 I C D (news ++ rs))
    (h1 : @Ne Nat I X ∧ @Ne Nat C X ∧ @Ne Nat D X) (h2 : @Ne Nat I d ∧ @Ne Nat C d ∧ @Ne Nat D d) (e : nm = nm') :
    CompEnd h₀ L m s₁ I oI C oC D oD (fun _ => True) (fun y nw => ∃ rs', nw = news ++ rs' ∧ (∀ p ∈ rs, p ∈ rs') ∧ RegAt P rs' nm' y) (.ref X) { s₁ with heap := h', toks := tk } := by
  subst e
  refine CompEnd.intro F N (news ++ (X, instObj 142 d) :: (d, regDict P nm kd k n t1 t2 t3 t4 t5 t6 t7 t8) :: rs) (fun p hp => ?_) (Off3.of fun p hp => ?_) trivial ⟨_, rfl, fun p hp => .tail _ (.tail _ hp), X, d, kd, k, n, t1, t2, t3, t4, t5, t6, t7, t8, rfl, .head _, .tail _ (.head _)⟩
  · simp only [List.mem_cons, List.mem_append] at hp ⊢
    rcases hp with rfl | rfl | rfl | hp | rfl | rfl | hp
    · exact .inr (.inr (.inl rfl))
    · exact .inr (.inr (.inr (.inl rfl)))
    · exact .inr (.inr (.inr (.inr (.inl rfl))))
    · exact .inr (.inr (.inr (.inr (.inr (.inl hp)))))
    · exact .inl rfl
    · exact .inr (.inl rfl)
    · exact .inr (.inr (.inr (.inr (.inr (.inr hp)))))
  · have hm := Off3.mem off
    rcases List.mem_append.mp hp with hp | hp
    · exact hm p (List.mem_append_left _ hp)
    · rcases List.mem_cons.mp hp with rfl | hp
      · exact ⟨Ne.symm h1.1, Ne.symm h1.2.1, Ne.symm h1.2.2⟩
      rcases List.mem_cons.mp hp with rfl | hp
      · exact ⟨Ne.symm h2.1, Ne.symm h2.2.1, Ne.symm h2.2.2⟩
      · exact hm p (List.mem_append_right _ hp)
/-- a comprehension into a local name -/
theorem comp_assU {elt iter : PySem.Expr} {x y : Str} {px py : Pos} {scope : Scope} {cl : List (Str × Addr)} {pos spos : Pos} {Q : Flow → Shared → Prop} (_F₀ : Fr h₀ L s.heap m) (hLe : env.locals = L)
    (hsw : swapsWith (.ListComp elt [⟨.Name x px, iter, [], 0⟩] scope pos) (some (.Name y py)) spos.line env = pure true)
    (hclos : closureFor scope env = pure cl) (hcell : ∀ z ∈ scope.names, z.2 ≠ .cell) (hkind : scope.kind = .function)
    (hnames : ∀ z ∈ scope.names, z.2 = .local → scope.names.lookup z.1 = some .local) (hx : scope.names.lookup x = some .local)
    (hy : env.kindOf y = some .local) (hp : (env.scope.kind == .class || (env.scope.kind == .module && env.locals != env.globals)) = false)
    (h : wpAny (model prog w) A (eval iter env) (SrcU prog w A h₀ L m env elt x scope cl (fun s₂ => FinA h₀ L m s₂ y Q)) E s)
    (hs : ∀ x, foldedSetIterable iter env x = pure x := by intro _; rfl) :
    wpAny (model prog w) A (exec (.Assign [.Name y py] (.ListComp elt [⟨.Name x px, iter, [], 0⟩] scope pos) spos) env) Q E s := by
  subst hLe
  rw [exec_Assign_Name_used _ _ _ _ hsw]
  refine wpAny_bind (wpAny_standAt (wpAny_bind ?_))
  show wpAny _ A (do let _ ← comprehension (.ListComp elt [⟨.Name x px, iter, [], 0⟩] scope pos) scope env _ (newList []) false (eval iter env) (some (assign (.Name y py) env))) _ _ s
  refine wpAny_bind (wpAny_mono (wpAny_comprehension_free (use := some (assign (.Name y py) env)) (Q := fun _ s' => Q .next s') rfl hs hclos hkind hnames
    (wpAny_mono h (fun xv s₁ h₁ => ?_) fun _ _ e => e)) (fun _ s' hq => wpAny_pure (wpAny_pure hq)) fun _ _ e => e)
  obtain ⟨n, P, S, news, hz, F, N, hS, it, R⟩ := h₁
  refine it _ _ fun o fp St W hIo hSt h0 hfp => ?_
  refine block_U W hz hIo hSt hcell hkind hx h0 (fun b hb => by show b < (s₁.heap.push _).objs.size; rw [Heap.size_push]; exact hfp b hb)
    (F.keeps fun _ _ e => Heap.get?_push_of_some _ e) (N.grown fun _ _ e => Heap.get?_push_of_some _ e) (Nat.ne_of_lt F.ns.lt) (next_is_new F) (fun p hp => Nat.ne_of_lt (Heap.lt_size (N p hp).1)) hS (R _ ⟨_, rfl⟩) ?_
  intro D C h' tk m' ys news' F' N' o1 hn hC₀ hD₀ hCL hDL hCD offC fin
  show wpAny _ A (assign (.Name y py) env (.ref D)) _ _ _
  refine wpAny_assign_Name (wpAny_storeName_local hy F'.ns (fun h₂ hn₂ hs₂ => ?_) hp)
  have hL₀ : h₀.get? env.locals = none := Heap.get?_none_of_le F'.above
  have F₂ : Fr h₀ env.locals h₂ (fun z => if z = y then some (.ref D) else m z) := ⟨hn₂, fun b o e => hs₂.extBut b o (fun q => by rw [q, hL₀] at e; cases e) (F'.keep b o e), F'.above⟩
  refine ⟨m', hn.sameBut hs₂ hCL, fun h'' hs'' => fin D h'' _ (F₂.change hs'' hCL hC₀) (fun p hp => ?_) o1⟩
  have z : h₂.get? p.1 = some p.2 := hs₂.extBut _ _ (N' p hp).2.1 (N' p hp).1
  refine ⟨hs''.extBut _ _ ?_ z, (N' p hp).2⟩
  rcases List.mem_cons.mp hp with rfl | hp
  · exact Ne.symm hCD
  · exact offC p hp
end
theorem in5 {n : Int} (h : n ∈ ([8, 16, 32, 64, 128] : List Int)) (h2 : n ≠ 128) : ([8, 16, 32, 64].any fun x => x == n) = true := by
  simp only [List.mem_cons, List.not_mem_nil, or_false] at h
  rcases h with rfl | rfl | rfl | rfl | rfl
  · decide
  · decide
  · decide
  · decide
  · exact absurd rfl h2
theorem names_gpr {n : Int} (h : n ∈ ([8, 16, 32, 64, 128] : List Int)) (h2 : n ≠ 128) : (List.range 16).map (fun i : Nat => regName (0 + (i : Int)) n) = gprNames n := by
  have key : ∀ y ∈ ([8, 16, 32, 64] : List Int), (List.range 16).map (fun i : Nat => regName (0 + (i : Int)) y) = gprNames y := by decide +kernel
  refine key n ?_
  rcases any4 (in5 h h2) with rfl | rfl | rfl | rfl <;> decide
theorem names_high : (List.range 4).map (fun i : Nat => highs.getD (4 + (i : Int) - 4).toNat Str.empty) = tops4 := by decide +kernel
end Mine
namespace Mine
open PySem PySem.W PySem.Calls PyProof.Rows PyProof.Rows.LCg PyProof.Rows.LCt PySem.SeqAt
def UseG (g : Nat → Str) : Prop := g = g
section
variable {prog : Program} {w : World} {A : Around} {E : Value → Shared → Prop} {s : Shared} {h₀ : Heap} {L : Addr} {m : Str → Option Value} {env : Env} {news : List (Addr × Obj)}
theorem comp_regsU {elt : PySem.Expr} {x : Str} {scope : Scope} {cl : List (Str × Addr)} {S : List (Addr × Obj) → Prop} {Fin : List Value → List (Addr × Obj) → Prop} {n : Nat} {a : Int} {g : Nat → Str} (_ : UseG g)
    (turn : ∀ (i : Nat) t I oI C oC D ys rs m₂ h tk (E' : Value → Shared → Prop), i < n → NsObj oC m₂ → m₂ x = some (.int (a + (i : Int)) t) → Fr h₀ L h m → News h₀ L h ((I, oI) :: (C, oC) :: (D, lst ys) :: (news ++ rs)) → Off3 I C D (news ++ rs) → ((@Ne Nat I C) ∧ (@Ne Nat I D) ∧ (@Ne Nat C D)) →
      wpAny (model prog w) A (eval elt (compEnvC scope cl C env)) (CompEnd h₀ L m { s with heap := h, toks := tk } I oI C oC D (lst ys) S (fun y nw => ∃ rs', nw = news ++ rs' ∧ (∀ p ∈ rs, p ∈ rs') ∧ RegAt w.params rs' (g i) y)) E' { s with heap := h, toks := tk })
    (fin : ∀ ys rs, RegsAre w.params rs ys ((List.range n).map g) → Fin ys (news ++ rs)) : CompRest prog w A h₀ L m env elt x scope cl s S (fun i v => ∃ t, v = .int (a + (i : Int) * 1) t) Fin n 0 [] news := comp_regs g turn fin
theorem reg_filter {P : Params} {rs : List (Addr × Obj)} {D : Addr} {vs : List Value} {xs : List Str} (h : RegsAre P rs vs xs) (hc : ∀ p ∈ rs, p.1 = D → p.2.cls = .type "list") : RegsAre P (rs.filter fun p => decide (p.1 ≠ D)) vs xs := by
  induction h with
  | nil => exact .nil
  | cons h _ ih =>
    obtain ⟨X, d, kd, k, n, t1, t2, t3, t4, t5, t6, t7, t8, e, h1, h2⟩ := h
    refine .cons ⟨X, d, kd, k, n, t1, t2, t3, t4, t5, t6, t7, t8, e, List.mem_filter.mpr ⟨h1, ?_⟩, List.mem_filter.mpr ⟨h2, ?_⟩⟩ ih
    · exact decide_eq_true fun q => absurd (hc _ h1 q) (by show Value.ref 142 ≠ _; intro q; cases q)
    · exact decide_eq_true fun q => absurd (hc _ h2 q) (by show Value.type "dict" ≠ _; decide)
theorem extend_regs {D2 D1 c : Addr} {oc : Obj} {ys zs : List Value} {xs us : List Str} {rs1 rs2 : List (Addr × Obj)} {Q : Value → Shared → Prop} (F : Fr h₀ L s.heap m) (N : News h₀ L s.heap ((D2, lst zs) :: (D1, lst ys) :: (c, oc) :: (rs1 ++ rs2)))
    (hy : RegsAre w.params rs1 ys xs) (hz : RegsAre w.params rs2 zs us) (hne : @Ne Nat D1 D2) (h1 : xs.length = 16) (h2 : us.length = 4)
    (h : ∀ h' rs, Fr h₀ L h' m → News h₀ L h' ((D1, (⟨.type "list", none, .seq (ys ++ zs).toArray (ys.length + 1), #[]⟩ : Obj)) :: rs) → RegsAre w.params rs (ys ++ zs) (xs ++ us) → Q .none { s with heap := h' }) : wpAny (model prog w) A (call (.builtin "list.extend") [.ref D1, .ref D2]) Q E s := by
  have l1 : ys.length = 16 := hy.len.trans h1
  have l2 : zs.length = 4 := hz.len.trans h2
  have hD1 := (N (D1, lst ys) (.tail _ (.head _))).1
  have hc : ∀ p ∈ rs1 ++ rs2, p.1 = D1 → p.2.cls = .type "list" := fun p hp e => by
    have := (N p (.tail _ (.tail _ (.tail _ hp)))).1
    rw [e, hD1] at this
    rw [← Option.some.inj this]
  have N0 : News h₀ L s.heap ((D1, lst ys) :: (D2, lst zs) :: ((rs1 ++ rs2).filter fun p => decide (p.1 ≠ D1))) := fun p hp => by
    rcases List.mem_cons.mp hp with rfl | hp
    · exact N _ (.tail _ (.head _))
    rcases List.mem_cons.mp hp with rfl | hp
    · exact N _ (.head _)
    · exact N p (.tail _ (.tail _ (.tail _ (List.mem_filter.mp hp).1)))
  have hR := (reg_filter (D := D1) (hy.more fun p hp => List.mem_append_left rs2 hp) hc).app (reg_filter (D := D1) (hz.more fun p hp => List.mem_append_right rs1 hp) hc)
  refine kl_extend (its := ys.toArray) (its2 := zs.toArray) (n2 := zs.length) F N0 (.tail _ (.head _)) rfl ?_ (.head fun p hp => ?_) ?_ ?_ ?_ (fun h' F' N' => h h' _ F' N' (hR.more fun p hp => .tail _ hp))
  · show zs.toArray.toList.length ≠ 0
    simp [l2]
  · rcases List.mem_cons.mp hp with rfl | hp
    · exact Ne.symm hne
    · simpa using (List.mem_filter.mp hp).2
  · simp only [List.size_toArray, l1, l2]
    intro hq
    have : Builtin.List.listTooLong (16 + 4) = false := by decide
    rw [this, Bool.and_false] at hq
    cases hq
  · simp only [l1, sizeLine_eq]; lia
  · simp only [List.size_toArray, l1, l2, sizeLine_eq]; lia
end
end Mine
end
section
open PySem PySem.W PySem.Calls PyProof.Rows
namespace Mine
theorem rows_C18_1 : True := by
  k_with_none
  k_with "m:on" => skip
  k_with "m:klt" => (intro l0; replace l0 := allLt_of l0; dsimp only [AllLt] at l0; (repeat (have := And.left l0; replace l0 := And.right l0)); revert l0)
  k_with "m:ktr_room" => k_dflt (first | exact rm1 (by with_reducible assumption) rfl | exact rm2 (by with_reducible assumption) rfl | exact rm3 (by with_reducible assumption) rfl)
  k_with "m:ktr_units" => k_dflt (first | exact un0 (by with_reducible assumption) rfl | exact un1 (by with_reducible assumption) rfl | exact un2 (by with_reducible assumption) rfl | exact un3 (by with_reducible assumption) rfl)
  k_with "m:k_ne" => (refine neN ?_; (try dsimp only); first | with_reducible assumption | exact Ne.symm (by with_reducible assumption) | exact Nat.ne_of_lt (by with_reducible assumption) | exact Nat.ne_of_gt (by with_reducible assumption) | lia)
  k_with "m:cell_enter" => (refine' enterGC ?zk1_C18r1 ?zk2_C18r1 ?zk3_C18r1 ?zk4_C18r1 ?zk5_C18r1 ?zk6_C18r1 ?zk7_C18r1 ?zk8_C18r1 ?zk9_C18r1 ?zkB_C18r1 ?zkD_C18r1 ?_ ?zc2_C18r1 ?zc3_C18r1 ?zc4_C18r1; (case zk1_C18r1 => k_asm); (case zk2_C18r1 => k_asm); (case zk3_C18r1 => k_asm); (case zk4_C18r1 => k_asm); (case zk5_C18r1 => k_asm); (case zk6_C18r1 => k_is); (case zk7_C18r1 => k_is); (case zk8_C18r1 => lia); (case zk9_C18r1 => first | exact BindsTo.of_eq rfl | exact binds_K (by k_in) rfl (by k_is) rfl rfl rfl); (case zkB_C18r1 => exact rfl); (case zkD_C18r1 => decide +kernel); (case zc2_C18r1 => exact rfl); (case zc3_C18r1 => exact rfl); (case zc4_C18r1 => exact rfl); k_whole; intro L' h' tk' cells' F' N' Y' l1; (try k_lt l1); k_cells Y'; (try simp only [List.cons_append, List.nil_append, List.append_nil] at N'); (try dsimp only); (try k_fold))
  k_with "m:cell_enter" => (first | (refine' enterG ?zk1_C18r2 ?zk2_C18r2 ?zk3_C18r2 ?zk4_C18r2 ?zk5_C18r2 ?zk6_C18r2 ?zk7_C18r2 ?zk8_C18r2 ?zk9_C18r2 ?zkB_C18r2 ?_ ?zc2_C18r2 ?zc3_C18r2 ?zc4_C18r2 ?zc5_C18r2; (case zk1_C18r2 => k_asm); (case zk2_C18r2 => k_asm); (case zk3_C18r2 => k_asm); (case zk4_C18r2 => k_asm); (case zk5_C18r2 => k_asm); (case zk6_C18r2 => k_is); (case zk7_C18r2 => k_is); (case zk8_C18r2 => lia); (case zk9_C18r2 => first | exact BindsTo.of_eq rfl | exact binds_K (by k_in) rfl (by k_is) rfl rfl rfl); (case zc5_C18r2 => decide); (case zkB_C18r2 => exact locs rfl); (case zc2_C18r2 => exact rfl); (case zc3_C18r2 => exact rfl); (case zc4_C18r2 => exact rfl); k_whole; intro L' h' F' N' l1; (try k_lt l1); (try dsimp only); (try k_fold)) | fail)
  k_with "m:exec Raise some none" => (k_here; (with_reducible show wpAny _ _ (exec (Stmt.Raise (some (Expr.Call (Expr.Name _ _) _ _ _)) none _) _) _ _ _); k_dflt (refine Raise_mint (by exact rfl) ?_))
  k_with "m:call ref" => (k_here; (with_reducible show wpAny _ _ (call (Value.ref _) [Value.str _ _]) (RaisedO _) _ _); k_dflt (refine' mint_callN PySem.F.excBase_Exception ?zX_C18r4 ?zF_C18r4 ?zN_C18r4 ?zC_C18r4 ?zi_C18r4 ?zf_C18r4 ?zc_C18r4 ?_; (case zX_C18r4 => k_asm); (case zF_C18r4 => k_asm); (case zN_C18r4 => k_asm); (case zC_C18r4 => k_is); (case zi_C18r4 => k_is); (case zf_C18r4 => k_is); (case zc_C18r4 => rfl); k_whole); intro e' t' h' F' N' l1 l2; (try k_lt l1); (try k_lt2 l2); k_dflt (refine wpAny_call ?_; k_enter))
  k_with "m:getMethod type:Exception" => (k_here; refine' method_type ?zF_C18r5 ?zX_C18r5 ?zm_C18r5 (by decide +kernel) ?ze_C18r5 ?zh_C18r5 ?_; (case zF_C18r5 => k_asm); (case zX_C18r5 => k_asm); (case zm_C18r5 => exact meta_Exception); (case ze_C18r5 => k_dflt k_is); (case zh_C18r5 => k_handed))
  k_with "m:call builtin:Exception.__init__" => (k_here; k_dflt (refine' exc_initN' PySem.F.excBase_Exception ?zC_C18r6 ?zF_C18r6 ?zN_C18r6 ?zh2_C18r6 ?_; (case zF_C18r6 => k_asm); (case zN_C18r6 => k_asm); (case zC_C18r6 => exact Frag.In.keeps (by k_asm) (Fr.keep (by k_asm)) _ _ (by k_is)); (case zh2_C18r6 => k_all); k_whole); intro D' h' F' N' l1; (try simp only [List.nil_append] at F' N' l1); (try k_lt l1))
  k_with "m:setAttr ref" => (k_here; k_dflt (refine' exc_set2 ?zF_C18r7 ?zX_C18r7 ?zN_C18r7 ?ze_C18r7 ?zU_C18r7 ?zs_C18r7 ?zc_C18r7 ?zm_C18r7 ?zd_C18r7 ?zt_C18r7 ?zn_C18r7 ?zq_C18r7 ?zz_C18r7 ?_; (case zF_C18r7 => k_asm); (case zX_C18r7 => k_asm); (case zN_C18r7 => k_asm); (case ze_C18r7 => k_mem); (case zU_C18r7 => k_upd); (case zs_C18r7 => k_is); (case zc_C18r7 => k_is); (case zm_C18r7 => rfl); (case zd_C18r7 => rfl); (case zt_C18r7 => k_is); (case zn_C18r7 => rfl); (case zq_C18r7 => rfl); (case zz_C18r7 => exact Nat.le_of_ble_eq_true rfl); k_whole); intro h' tk' F' N')
  k_with "m:setAttr ref" => (k_here; k_dflt (refine' exc_set1' ?zF_C18r8 ?zX_C18r8 ?zN_C18r8 ?zh1_C18r8 ?zh2_C18r8 ?zs_C18r8 ?zc_C18r8 ?zm_C18r8 ?zd_C18r8 ?zt_C18r8 ?_; (case zF_C18r8 => k_asm); (case zX_C18r8 => k_asm); (case zN_C18r8 => k_asm); (case zh1_C18r8 => k_ne); (case zh2_C18r8 => k_all); (case zs_C18r8 => k_is); (case zc_C18r8 => k_is); (case zm_C18r8 => rfl); (case zd_C18r8 => rfl); (case zt_C18r8 => k_is); k_whole); intro D' h' tk' F' N' l1; (try simp only [List.cons_append, List.nil_append] at F' N' l1); (try k_lt l1))
  k_with "m:RaisedO" => (k_dflt (refine' raisedO_of ?zX_C18r9 ?zF_C18r9 ?zN_C18r9 ?ze_C18r9 ?zC_C18r9 ?zb_C18r9 ?_; (case zX_C18r9 => k_asm); (case zF_C18r9 => k_asm); (case zN_C18r9 => k_asm); (case ze_C18r9 => k_mem); (case zC_C18r9 => k_is); (case zb_C18r9 => rfl); k_whole))
  k_with "m:leaving ref" => (k_here; k_dflt (refine' leave_mint4 ?zK_C18r10 ?zF_C18r10 ?zN_C18r10 ?zh1_C18r10 ?zh2_C18r10 ?_; (case zK_C18r10 => k_asm); (case zF_C18r10 => k_asm); (case zN_C18r10 => k_asm); (case zh1_C18r10 => k_all); (case zh2_C18r10 => k_all); k_whole); intro h' R' RK' U'; (try dsimp only at R' RK' U' ⊢))
  k_with "m:compareOp Eq ref ref" => (k_here; k_dflt (refine' eq_strsK ?zN_C18r11 ?zl_C18r11 ?zS_C18r11 ?zl2_C18r11 ?zS2_C18r11 ?zu_C18r11 ?zo_C18r11 ?zo2_C18r11 ?_; (case zN_C18r11 => k_asm); (case zl_C18r11 => k_mem); (case zS_C18r11 => k_asm); (case zl2_C18r11 => k_mem); (case zS2_C18r11 => exact StrsAre.nil); (case zu_C18r11 => ktr_units); (case zo_C18r11 => exact early_ok1 _); (case zo2_C18r11 => rfl); k_whole))
  k_with "m:subscriptTail Name Name ref int" => (k_here; k_dflt (refine' item_strsK ?zN_C18r12 ?zl_C18r12 ?zS_C18r12 ?z0_C18r12 ?zk_C18r12 ?zf_C18r12 ?_ ?zs_C18r12 ?zg_C18r12; (case zN_C18r12 => k_asm); (case zl_C18r12 => k_mem); (case zS_C18r12 => k_asm); (case z0_C18r12 => lia); (case zk_C18r12 => first | exact early_lt (by assumption) (by lia) | (show _ < ((_ : Nat) : Int); lia)); (case zf_C18r12 => lia); (case zs_C18r12 => with_unfolding_all rfl); (case zg_C18r12 => (intro _; with_unfolding_all rfl)); k_whole; intro t'))
  k_with "m:call ref" => (k_here; (with_reducible show wpAny _ _ (call (Value.ref 153) [Value.int _ _]) _ _ _); k_dflt (refine' callList (early_ok _ _ _) ?zB_C18r13 ?zF_C18r13 ?zX_C18r13 ?zN_C18r13 ?zT_C18r13 ?zA_C18r13 ?zf_C18r13 ?zk_C18r13 ?zd_C18r13 ?zu_C18r13 ?_; (case zF_C18r13 => k_asm); (case zB_C18r13 => k_asm); (case zX_C18r13 => k_asm); (case zN_C18r13 => k_asm); (case zT_C18r13 => k_asm); (case zA_C18r13 => exact rfl); (case zf_C18r13 => exact rfl); (case zk_C18r13 => exact rfl); (case zd_C18r13 => ktr_room); (case zu_C18r13 => ktr_units); k_whole; intro D' vs' n' h' tk' S' F' N' l1; (try dsimp only [AllNe] at l1); (repeat (have := And.left l1; replace l1 := And.right l1))))
  k_with "m:call ref" => (k_here; (with_reducible show wpAny _ _ (call (Value.ref 160) [Value.int _ _]) _ _ _); k_dflt (refine' callEnd (ending_ok _ _ _) ?zB_C18r14 ?zF_C18r14 ?zX_C18r14 ?zN_C18r14 ?zT_C18r14 ?zA_C18r14 ?zf_C18r14 ?zk_C18r14 ?zd_C18r14 ?zu_C18r14 ?_; (case zF_C18r14 => k_asm); (case zB_C18r14 => k_asm); (case zX_C18r14 => k_asm); (case zN_C18r14 => k_asm); (case zT_C18r14 => k_asm); (case zA_C18r14 => exact rfl); (case zf_C18r14 => exact rfl); (case zk_C18r14 => exact rfl); (case zd_C18r14 => ktr_room); (case zu_C18r14 => ktr_units); k_whole; intro t' h' tk' hl' F' N'))
  k_with "m:call builtin:list.index" => (k_here; (with_reducible show wpAny _ _ (call (Value.builtin _) [Value.ref _, Value.str _ _]) _ _ _); k_dflt (refine' index_list_strs ?zN_C18r15 ?zl_C18r15 ?zS_C18r15 ?zz_C18r15 ?zk_C18r15 ?_; (case zN_C18r15 => k_asm); (case zl_C18r15 => k_mem); (case zS_C18r15 => k_asm); (case zz_C18r15 => first | exact early_lenOk _ | decide | rfl); (case zk_C18r15 => first | with_reducible assumption | assumption | decide +kernel); k_whole; intro hi'; (try simp only [List.length_cons, List.length_nil, Nat.reduceAdd, Nat.zero_add] at hi')))
  k_with "m:call ref" => (k_here; (with_reducible show wpAny _ _ (call (Value.ref 167) [Value.int _ _, Value.int _ _]) _ _ _); k_dflt (refine' callMayReg (gpr_ok _ _ _ _ _ ?zh_C18r16 ?zh2_C18r16) ?zB_C18r16 ?zF_C18r16 ?zX_C18r16 ?zN_C18r16 ?zT_C18r16 ?zA_C18r16 ?zf_C18r16 ?zk_C18r16 ?zd_C18r16 ?zu_C18r16 ?zo_C18r16 ?zr_C18r16; (case zF_C18r16 => k_asm); (case zB_C18r16 => k_asm); (case zX_C18r16 => k_asm); (case zN_C18r16 => k_asm); (case zT_C18r16 => k_asm); (case zA_C18r16 => exact rfl); (case zf_C18r16 => exact rfl); (case zk_C18r16 => exact rfl); (case zd_C18r16 => ktr_room); (case zu_C18r16 => ktr_units); (case zh_C18r16 => lia); (case zh2_C18r16 => lia); k_whole; (try (case zr_C18r16 => (intro hz; exact absurd ⟨by first | with_reducible assumption | assumption | decide, by lia, by lia⟩ hz))); (all_goals first | (intro hz x' d' u1 u2 u3 u4 u5 u6 u7 u8 h' tk' hx' F' N' l1 l2; (try dsimp only [AllNe] at l1 l2); (repeat (have := And.left l1; replace l1 := And.right l1)); (repeat (have := And.left l2; replace l2 := And.right l2))) | (intro hz e' t' ws' h' tk' R' RK' U'))))
  k_with "m:call ref" => (k_here; (with_reducible show wpAny _ _ (call (Value.ref 174) [Value.int _ _]) _ _ _); k_dflt (refine' callMayReg (high_ok _ _ _ ?zh_C18r17 ?zh2_C18r17) ?zB_C18r17 ?zF_C18r17 ?zX_C18r17 ?zN_C18r17 ?zT_C18r17 ?zA_C18r17 ?zf_C18r17 ?zk_C18r17 ?zd_C18r17 ?zu_C18r17 ?zo_C18r17 ?zr_C18r17; (case zF_C18r17 => k_asm); (case zB_C18r17 => k_asm); (case zX_C18r17 => k_asm); (case zN_C18r17 => k_asm); (case zT_C18r17 => k_asm); (case zA_C18r17 => exact rfl); (case zf_C18r17 => exact rfl); (case zk_C18r17 => exact rfl); (case zd_C18r17 => ktr_room); (case zu_C18r17 => ktr_units); (case zh_C18r17 => lia); (case zh2_C18r17 => lia); k_whole; (try (case zr_C18r17 => (intro hz; exact absurd ⟨by lia, by lia⟩ hz))); (all_goals first | (intro hz x' d' u1 u2 u3 u4 u5 u6 u7 u8 h' tk' hx' F' N' l1 l2; (try dsimp only [AllNe] at l1 l2); (repeat (have := And.left l1; replace l1 := And.right l1)); (repeat (have := And.left l2; replace l2 := And.right l2))) | (intro hz e' t' ws' h' tk' R' RK' U'))))
  k_with "m:call ref" => (k_here; (with_reducible show wpAny _ _ (call (Value.ref 188) [Value.int _ _]) _ _ _); k_dflt (refine' callMayReg (xmm_ok _ _ _ ?zh_C18r18 ?zh2_C18r18) ?zB_C18r18 ?zF_C18r18 ?zX_C18r18 ?zN_C18r18 ?zT_C18r18 ?zA_C18r18 ?zf_C18r18 ?zk_C18r18 ?zd_C18r18 ?zu_C18r18 ?zo_C18r18 ?zr_C18r18; (case zF_C18r18 => k_asm); (case zB_C18r18 => k_asm); (case zX_C18r18 => k_asm); (case zN_C18r18 => k_asm); (case zT_C18r18 => k_asm); (case zA_C18r18 => exact rfl); (case zf_C18r18 => exact rfl); (case zk_C18r18 => exact rfl); (case zd_C18r18 => ktr_room); (case zu_C18r18 => ktr_units); (case zh_C18r18 => lia); (case zh2_C18r18 => lia); k_whole; (try (case zr_C18r18 => (intro hz; exact absurd ⟨by lia, by lia⟩ hz))); (all_goals first | (intro hz x' d' u1 u2 u3 u4 u5 u6 u7 u8 h' tk' hx' F' N' l1 l2; (try dsimp only [AllNe] at l1 l2); (repeat (have := And.left l1; replace l1 := And.right l1)); (repeat (have := And.left l2; replace l2 := And.right l2))) | (intro hz e' t' ws' h' tk' R' RK' U'))))
  k_with "m:call ref" => (k_here; (with_reducible show wpAny _ _ (call (Value.ref 195) _) _ _ _); k_dflt (refine' callReg (rip_ok _) ?zB_C18r19 ?zF_C18r19 ?zX_C18r19 ?zN_C18r19 ?zT_C18r19 ?zA_C18r19 ?zf_C18r19 ?zk_C18r19 ?zd_C18r19 ?zu_C18r19 ?_; (case zF_C18r19 => k_asm); (case zB_C18r19 => k_asm); (case zX_C18r19 => k_asm); (case zN_C18r19 => k_asm); (case zT_C18r19 => k_asm); (case zA_C18r19 => exact rfl); (case zf_C18r19 => exact rfl); (case zk_C18r19 => exact rfl); (case zd_C18r19 => ktr_room); (case zu_C18r19 => ktr_units); k_whole; intro x' d' u1 u2 u3 u4 u5 u6 u7 u8 h' tk' hx' F' N' l1 l2; (try dsimp only [AllNe] at l1 l2); (repeat (have := And.left l1; replace l1 := And.right l1)); (repeat (have := And.left l2; replace l2 := And.right l2))))
  k_with "m:call ref" => (k_here; (with_reducible show wpAny _ _ (call (Value.ref 202) [Value.str (PySem.Str.ofString "fs") _]) _ _ _); k_dflt (refine' callReg (fs_ok _ _) ?zB_C18r20 ?zF_C18r20 ?zX_C18r20 ?zN_C18r20 ?zT_C18r20 ?zA_C18r20 ?zf_C18r20 ?zk_C18r20 ?zd_C18r20 ?zu_C18r20 ?_; (case zF_C18r20 => k_asm); (case zB_C18r20 => k_asm); (case zX_C18r20 => k_asm); (case zN_C18r20 => k_asm); (case zT_C18r20 => k_asm); (case zA_C18r20 => exact rfl); (case zf_C18r20 => exact rfl); (case zk_C18r20 => exact rfl); (case zd_C18r20 => ktr_room); (case zu_C18r20 => ktr_units); k_whole; intro x' d' u1 u2 u3 u4 u5 u6 u7 u8 h' tk' hx' F' N' l1 l2; (try dsimp only [AllNe] at l1 l2); (repeat (have := And.left l1; replace l1 := And.right l1)); (repeat (have := And.left l2; replace l2 := And.right l2))))
  k_with "m:call ref" => (k_here; (with_reducible show wpAny _ _ (call (Value.ref 202) [Value.str (PySem.Str.ofString "gs") _]) _ _ _); k_dflt (refine' callReg (gs_ok _ _) ?zB_C18r21 ?zF_C18r21 ?zX_C18r21 ?zN_C18r21 ?zT_C18r21 ?zA_C18r21 ?zf_C18r21 ?zk_C18r21 ?zd_C18r21 ?zu_C18r21 ?_; (case zF_C18r21 => k_asm); (case zB_C18r21 => k_asm); (case zX_C18r21 => k_asm); (case zN_C18r21 => k_asm); (case zT_C18r21 => k_asm); (case zA_C18r21 => exact rfl); (case zf_C18r21 => exact rfl); (case zk_C18r21 => exact rfl); (case zd_C18r21 => ktr_room); (case zu_C18r21 => ktr_units); k_whole; intro x' d' u1 u2 u3 u4 u5 u6 u7 u8 h' tk' hx' F' N' l1 l2; (try dsimp only [AllNe] at l1 l2); (repeat (have := And.left l1; replace l1 := And.right l1)); (repeat (have := And.left l2; replace l2 := And.right l2))))
  k_with "m:call type:int" => (k_here; (with_reducible show wpAny _ _ (call (Value.type _) [Value.str _ _]) _ _ _); k_dflt (first | (refine' call_xmm ?zk_C18r22 ?_; (case zk_C18r22 => k_asm); k_whole; intro hi') | (refine' call_late ?zk_C18r22 ?_; (case zk_C18r22 => k_asm); k_whole; intro hi')))
  k_with "m:compareOp In str ref" => (k_here; k_dflt (refine' in_strsK ?zN_C18r23 ?zl_C18r23 ?zS_C18r23 ?_; (case zN_C18r23 => k_asm); (case zl_C18r23 => k_mem); (case zS_C18r23 => k_asm); k_whole))
  k_with "m:eval Dict nil nil" => (k_here; k_dflt (refine' newDict_K ?zk1_C18r24 ?zk2_C18r24 ?zk3_C18r24 ?_; (case zk1_C18r24 => k_asm); (case zk2_C18r24 => k_asm); (case zk3_C18r24 => (with_reducible exact Top.nolimit (by assumption))); k_whole); intro d' h' o' F' N' l1 lo' hs' fs' hi' fi'; (try k_lt l1))
  k_with "m:eval Dict" => (k_here; k_dflt (refine' kdn_str ?zq_C18r25 ?zF_C18r25 ?zN_C18r25 ?zb_C18r25 ?za_C18r25 ?zl_C18r25 ?ze_C18r25 ?zn_C18r25 ?_; (case zq_C18r25 => rfl); (case zF_C18r25 => k_asm); (case zN_C18r25 => k_asm); (case zb_C18r25 => (with_reducible exact Top.nolimit (by assumption))); (case za_C18r25 => rfl); (case zl_C18r25 => rfl); (case ze_C18r25 => exact List.cons_ne_nil _ _); (case zn_C18r25 => exact Nat.le_of_ble_eq_true rfl)); intro d' h' o' F' N' l1 lo' hd'; (try k_lt l1))
  k_with "m:eval ListComp" => (k_here; (with_reducible show wpAny _ _ _ _ _ _); lcf_look; k_dflt (refine LCg.ListComp_U (F₀ := by k_asm) (by with_unfolding_all rfl) (by decide) (by rfl) (by decide) (by rfl) ?_); k_dflt lcg_toSrc)
  k_with "m:eval ListComp" => (k_here; k_dflt (refine comp_evalU (by k_asm) (by with_unfolding_all rfl) (by decide) (by rfl) (by decide) (by rfl) ?_))
  k_with "m:exec Assign cons ListComp" => (k_here; k_dflt (refine comp_assU (by k_asm) (by rfl) (by with_unfolding_all rfl) (by with_unfolding_all rfl) (by decide) (by rfl) (by decide) (by rfl) (by rfl) (by rfl) ?_))
  k_with "m:src_go4" => (k_dflt (refine SrcOf.range (n := 4) (by rfl) (by k_asm) (by k_asm) (by assumption) (by decide) (by decide +kernel) (by rw [sizeLine_eq]; decide) (fun g' => ?_)))
  k_with "m:src_go" => (k_dflt (refine SrcOf.range (n := 16) (by rfl) (by k_asm) (by k_asm) (by assumption) (by decide) (by decide +kernel) (by rw [sizeLine_eq]; decide) (fun g' => ?_)))
  k_with "m:src_in" => (rotate_left; (intro ys' rs' hr'; (try simp only [List.cons_append, List.nil_append])); rotate_right; (intro i' t' I' oI' C' oC' D' ys' rs' m' h' tk' E' hi' hC' hx' F' N' off' ne'; (try simp only [List.cons_append, List.nil_append] at N' off')))
  k_with "m:SrcU" => (k_here; (with_reducible show SrcU _ _ _ _ _ _ _ (Expr.Call (Expr.Name (PySem.Str.ofString "gpr") _) _ _ _) _ _ _ _ _ _); (with_reducible rename UseG _ => uG'); k_extra "m:src_go"; k_dflt (refine comp_regsU uG' ?_ ?_); k_extra "m:src_in")
  k_with "m:SrcU" => (k_here; (with_reducible show SrcU _ _ _ _ _ _ _ (Expr.Call (Expr.Name (PySem.Str.ofString "xmm") _) _ _ _) _ _ _ _ _ _); k_extra "m:src_go"; k_dflt (refine comp_regs (fun i : Nat => Str.ofString "xmm" ++ Str.ofString (toString (0 + (i : Int)))) ?_ ?_); k_extra "m:src_in")
  k_with "m:SrcU" => (k_here; (with_reducible show SrcU _ _ _ _ _ _ _ (Expr.Call (Expr.Name (PySem.Str.ofString "high") _) _ _ _) _ _ _ _ _ _); k_extra "m:src_go4"; k_dflt (refine comp_regs (fun i : Nat => highs.getD (4 + (i : Int) - 4).toNat Str.empty) ?_ ?_); k_extra "m:src_in")
  k_with "m:call ref" => (k_here; (with_reducible show wpAny _ _ (call (Value.ref 167) _) _ _ _); k_dflt (refine' callMayReg (gpr_ok _ _ _ _ _ ?zh_C18r35 ?zh2_C18r35) ?zB_C18r35 ?zF_C18r35 ?zX_C18r35 ?zN_C18r35 ?zT_C18r35 ?zA_C18r35 ?zf_C18r35 ?zk_C18r35 ?zd_C18r35 ?zu_C18r35 ?_ ?zr_C18r35; (case zF_C18r35 => k_asm); (case zB_C18r35 => k_asm); (case zX_C18r35 => k_asm); (case zN_C18r35 => k_asm); (case zT_C18r35 => k_asm); (case zA_C18r35 => exact rfl); (case zf_C18r35 => exact rfl); (case zk_C18r35 => exact rfl); (case zd_C18r35 => ktr_room); (case zu_C18r35 => ktr_units); (case zh_C18r35 => lia); (case zh2_C18r35 => lia); k_whole; (try (case zr_C18r35 => (intro hz; exact absurd ⟨early_some (in5 (by assumption) (by assumption)), by lia, by lia⟩ hz))); (all_goals first | (intro hz x' d' u1 u2 u3 u4 u5 u6 u7 u8 h' tk' hx' F' N' l1 l2; (try dsimp only [AllNe] at l1 l2); (repeat (have := And.left l1; replace l1 := And.right l1)); (repeat (have := And.left l2; replace l2 := And.right l2))) | (intro hz e' t' ws' h' tk' R' RK' U'))))
  k_with "m:FinE" => ((unfold LCg.FinE); intro D' h' tk' F' N' o1'; (try simp only [LCg.Off1, and_true] at o1'))
  k_with "m:FinA" => ((unfold LCg.FinA); intro D' h' tk' F' N' o1'; (try simp only [LCg.Off1, and_true] at o1'))
  k_with "m:CompEnd" => (k_dflt (refine' regEnd ?zF_C18r38 ?zN_C18r38 ?zoff_C18r38 ?z1_C18r38 ?z2_C18r38 ?ze_C18r38; (case zF_C18r38 => k_asm); (case zN_C18r38 => k_asm); (case ze_C18r38 => exact rfl)); (case zoff_C18r38 => k_asm); (case z1_C18r38 => exact ⟨by lia, by lia, by lia⟩); (case z2_C18r38 => exact ⟨by lia, by lia, by lia⟩))
  k_with "m:call ref" => (k_here; (with_reducible show wpAny _ _ (call (Value.ref 174) [Value.int _ _]) _ _ _); k_dflt (refine' callMayReg (high_ok _ _ _ ?zh_C18r39 ?zh2_C18r39) ?zB_C18r39 ?zF_C18r39 ?zX_C18r39 ?zN_C18r39 ?zT_C18r39 ?zA_C18r39 ?zf_C18r39 ?zk_C18r39 ?zd_C18r39 ?zu_C18r39 ?_ ?zr_C18r39; (case zF_C18r39 => k_asm); (case zB_C18r39 => k_asm); (case zX_C18r39 => k_asm); (case zN_C18r39 => k_asm); (case zT_C18r39 => k_asm); (case zA_C18r39 => exact rfl); (case zf_C18r39 => exact rfl); (case zk_C18r39 => exact rfl); (case zd_C18r39 => ktr_room); (case zu_C18r39 => ktr_units); (case zh_C18r39 => lia); (case zh2_C18r39 => lia); k_whole; (try (case zr_C18r39 => (intro hz; exact absurd ⟨by lia, by lia⟩ hz))); (all_goals first | (intro hz x' d' u1 u2 u3 u4 u5 u6 u7 u8 h' tk' hx' F' N' l1 l2; (try dsimp only [AllNe] at l1 l2); (repeat (have := And.left l1; replace l1 := And.right l1)); (repeat (have := And.left l2; replace l2 := And.right l2))) | (intro hz e' t' ws' h' tk' R' RK' U'))))
  k_with "m:call ref" => (k_here; (with_reducible show wpAny _ _ (call (Value.ref 188) [Value.int _ _]) _ _ _); k_dflt (refine' callMayReg (xmm_ok _ _ _ ?zh_C18r40 ?zh2_C18r40) ?zB_C18r40 ?zF_C18r40 ?zX_C18r40 ?zN_C18r40 ?zT_C18r40 ?zA_C18r40 ?zf_C18r40 ?zk_C18r40 ?zd_C18r40 ?zu_C18r40 ?_ ?zr_C18r40; (case zF_C18r40 => k_asm); (case zB_C18r40 => k_asm); (case zX_C18r40 => k_asm); (case zN_C18r40 => k_asm); (case zT_C18r40 => k_asm); (case zA_C18r40 => exact rfl); (case zf_C18r40 => exact rfl); (case zk_C18r40 => exact rfl); (case zd_C18r40 => ktr_room); (case zu_C18r40 => ktr_units); (case zh_C18r40 => lia); (case zh2_C18r40 => lia); k_whole; (try (case zr_C18r40 => (intro hz; exact absurd ⟨by lia, by lia⟩ hz))); (all_goals first | (intro hz x' d' u1 u2 u3 u4 u5 u6 u7 u8 h' tk' hx' F' N' l1 l2; (try dsimp only [AllNe] at l1 l2); (repeat (have := And.left l1; replace l1 := And.right l1)); (repeat (have := And.left l2; replace l2 := And.right l2))) | (intro hz e' t' ws' h' tk' R' RK' U'))))
  k_with "m:call builtin:list.extend" => (k_here; k_dflt (refine' extend_regs ?zF_C18r41 ?zN_C18r41 ?zy_C18r41 ?zz_C18r41 ?zne_C18r41 ?z1_C18r41 ?z2_C18r41 ?_; (case zF_C18r41 => k_asm); (case zN_C18r41 => k_asm)); (case zy_C18r41 => k_asm); (case zz_C18r41 => k_asm); (case zne_C18r41 => (with_reducible rename (_ ∧ _ ∧ LCg.Off1 _ _) => o9; exact o9.1)); (case z1_C18r41 => (simp only [List.length_map, List.length_range])); (case z2_C18r41 => (simp only [List.length_map, List.length_range])); intro h' rs' F' N' hr')
  trivial

theorem out128 {P : Params} {n : Int} {rs : List (Addr × Obj)} {ys : List Value} (e : n = 128) (h : RegsAre P rs ys ((List.range 16).map fun i : Nat => Str.ofString "xmm" ++ Str.ofString (toString (0 + (i : Int))))) : RegsAre P rs ys (allNames n) := by
  subst e; exact h
theorem outGpr {P : Params} {n : Int} {rs : List (Addr × Obj)} {ys : List Value} (hn : n ∈ ([8, 16, 32, 64, 128] : List Int)) (h1 : n ≠ 128) (h2 : n ≠ 8) (h : RegsAre P rs ys ((List.range 16).map fun i : Nat => regName (0 + (i : Int)) n)) : RegsAre P rs ys (allNames n) := by
  unfold allNames
  rw [if_neg h1, if_neg h2, ← names_gpr hn h1]; exact h
theorem out8 {P : Params} {n : Int} {rs : List (Addr × Obj)} {ys : List Value} (e : n = 8) (h : RegsAre P rs ys (((List.range 16).map fun i : Nat => regName (0 + (i : Int)) n) ++ ((List.range 4).map fun i : Nat => highs.getD (4 + (i : Int) - 4).toNat Str.empty))) : RegsAre P rs ys (allNames n) := by
  subst e
  rw [names_gpr (by decide) (by decide), names_high] at h
  exact h
theorem new_skip {g h : Heap} {L : Addr} {a c : Addr × Obj} {rs : List (Addr × Obj)} (N : News g L h (a :: c :: rs)) : New g h (a :: rs) := new_of N fun p hp => by
  rcases List.mem_cons.mp hp with rfl | hp
  · exact .head _
  · exact .tail _ (.tail _ hp)
set_option maxRecDepth 100000 in
set_option maxHeartbeats 4000000 in
theorem all_ok (w : World) (n : Int) (t : Tok) (hn5 : n ∈ ([8, 16, 32, 64, 128] : List Int)) : Pure w 6 221 [.int n t] (AllOut w.params n) := by
  w_top off
  dsimp only [FnG, Pure]; k_fill; intros; rename_i hret
  have uG : UseG (fun i : Nat => regName (0 + (i : Int)) n) := rfl
  cell_enter
  k_steps
  all_goals (try dsimp only)
  · exact hret _ _ _ _ (Fr.keep (by assumption)) (new_skip (by assumption)) ⟨_, _, _, _, rfl, rfl, out128 (by first | assumption | rfl) (by assumption)⟩
  · exact hret _ _ _ _ (Fr.keep (by assumption)) (new_of (by assumption) fun p hp => hp) ⟨_, _, _, _, rfl, rfl, out8 (by assumption) (by assumption)⟩
  · exact hret _ _ _ _ (Fr.keep (by assumption)) (new_skip (by assumption)) ⟨_, _, _, _, rfl, rfl, outGpr hn5 (by assumption) (by assumption) (by assumption)⟩

end Mine
end
section
theorem Mine.none_Told : True := by
  k_with_none
  w_top off
  trivial
set_option maxRecDepth 100000
open PySem PySem.W PySem.Calls PyProof.Rows PyProof.Rows.LCg PyProof.Rows.LCt PySem.SeqAt
namespace Mine
/-- one size's names told -/
def ToldAt (rs : List (Addr × Obj)) (z : Int) (v : Value) : Prop := ∃ D vs, v = .ref D ∧ (D, lst vs) ∈ rs ∧ StrsAre vs (allNames z)
inductive ToldsAre (rs : List (Addr × Obj)) : List Value → List Int → Prop
  | nil : ToldsAre rs [] []
  | cons {v : Value} {z : Int} {vs : List Value} {zs : List Int} : ToldAt rs z v → ToldsAre rs vs zs → ToldsAre rs (v :: vs) (z :: zs)
theorem ToldsAre.more {rs rs' : List (Addr × Obj)} {vs : List Value} {zs : List Int} (h : ToldsAre rs vs zs) (hs : ∀ p ∈ rs, p ∈ rs') : ToldsAre rs' vs zs := by
  induction h with
  | nil => exact .nil
  | cons h _ ih =>
    obtain ⟨D, vs, e, hm, hS⟩ := h
    exact .cons ⟨D, vs, e, hs _ hm, hS⟩ ih
theorem ToldsAre.snoc {rs : List (Addr × Obj)} {vs : List Value} {zs : List Int} (h : ToldsAre rs vs zs) {v : Value} {z : Int} (h2 : ToldAt rs z v) : ToldsAre rs (vs ++ [v]) (zs ++ [z]) := by
  induction h with
  | nil => exact .cons h2 .nil
  | cons h _ ih => exact .cons h ih
theorem intsAre_at {vs : List Value} {ks : List Int} (H : IntsAre vs ks) : ∀ (i : Nat) (v : Value), vs[i]? = some v → ∃ k t, v = .int k t ∧ ks[i]? = some k := by
  induction H with
  | nil => intro i v h; simp at h
  | cons k t r ih =>
    intro i v h
    cases i with
    | zero => exact ⟨k, t, (by simpa using h.symm), rfl⟩
    | succ i =>
      obtain ⟨k', t', e, h2⟩ := ih i v (by simpa using h)
      exact ⟨k', t', e, by simpa using h2⟩
section
variable {prog : Program} {w : World} {A : Around} {E : Value → Shared → Prop} {s : Shared} {h₀ : Heap} {L : Addr} {m : Str → Option Value} {env : Env} {news : List (Addr × Obj)}
theorem comp_tolds {elt : PySem.Expr} {x : Str} {scope : Scope} {cl : List (Str × Addr)} {S : List (Addr × Obj) → Prop} {Fin : List Value → List (Addr × Obj) → Prop} {its : Array Value} {zs : List Int} (hi : IntsAre its.toList zs)
    (turn : ∀ (z : Int) t I oI C oC D ys rs m₂ h tk (E' : Value → Shared → Prop), z ∈ zs → NsObj oC m₂ → m₂ x = some (.int z t) → Fr h₀ L h m → News h₀ L h ((I, oI) :: (C, oC) :: (D, lst ys) :: (news ++ rs)) → Off3 I C D (news ++ rs) → ((@Ne Nat I C) ∧ (@Ne Nat I D) ∧ (@Ne Nat C D)) →
      wpAny (model prog w) A (eval elt (compEnvC scope cl C env)) (CompEnd h₀ L m { s with heap := h, toks := tk } I oI C oC D (lst ys) S (fun y nw => ∃ rs', nw = news ++ rs' ∧ (∀ p ∈ rs, p ∈ rs') ∧ ToldAt rs' z y)) E' { s with heap := h, toks := tk })
    (fin : ∀ ys rs, ToldsAre rs ys zs → Fin ys (news ++ rs)) : CompRest prog w A h₀ L m env elt x scope cl s S (fun i v => its[i]? = some v) Fin its.size 0 [] news := by
  have hl : its.size = zs.length := by rw [← hi.length, Array.length_toList]
  refine comp_J (fun i ys nw => ∃ rs, nw = news ++ rs ∧ ToldsAre rs ys (zs.take i)) ?_ ?_ ⟨[], (List.append_nil _).symm, .nil⟩
  · rintro i ys nw v I oI C oC D m₂ h tk E' hlt ⟨rs, rfl, hy⟩ hv hC hx F N off ne
    obtain ⟨z, t, rfl, hz⟩ := intsAre_at hi i v (by rw [Array.getElem?_toList]; exact hv)
    refine wpAny_mono (turn z t I oI C oC D ys rs m₂ h tk E' (List.mem_of_getElem? hz) hC hx F N off ne) (fun y s₂ hq => ?_) fun _ _ e => e
    obtain ⟨h', tk', nw', e1, F', N', off', hS, rs', e2, hs, hR⟩ := hq
    refine ⟨h', tk', nw', e1, F', N', off', hS, rs', e2, ?_⟩
    rw [List.take_add_one, hz]
    exact (hy.more hs).snoc hR
  · rintro ys nw ⟨rs, rfl, hy⟩
    rw [hl, List.take_length] at hy
    exact fin ys rs hy
theorem comp_told {elt : PySem.Expr} {x : Str} {scope : Scope} {cl : List (Str × Addr)} {S : List (Addr × Obj) → Prop} {Fin : List Value → List (Addr × Obj) → Prop} {vs : List Value} {xs : List Str} {rs : List (Addr × Obj)} {Ll : Addr} (hr : RegsAre w.params rs vs xs) (hsub : ∀ p ∈ rs, p ∈ news) (hoff : ∀ q ∈ rs, q.1 ≠ Ll)
    (turn : ∀ X d nm kd k n t1 t2 t3 t4 t5 t6 t7 t8 I oI C oC D ys m₂ h tk (E' : Value → Shared → Prop), (@Ne Nat X Ll ∧ @Ne Nat d Ll) → NsObj oC m₂ → m₂ x = some (.ref X) → Fr h₀ L h m → News h₀ L h ((X, instObj 142 d) :: (d, regDict w.params nm kd k n t1 t2 t3 t4 t5 t6 t7 t8) :: (I, oI) :: (C, oC) :: (D, lst ys) :: news) → Off3 I C D news → ((@Ne Nat I C) ∧ (@Ne Nat I D) ∧ (@Ne Nat C D)) →
      wpAny (model prog w) A (eval elt (compEnvC scope cl C env)) (CompEnd h₀ L m { s with heap := h, toks := tk } I oI C oC D (lst ys) S (fun y nw => nw = news ∧ ∃ t, y = .str nm t)) E' { s with heap := h, toks := tk })
    (fin : ∀ ys, StrsAre ys xs → Fin ys news) : CompRest prog w A h₀ L m env elt x scope cl s S (fun i v => vs.toArray[i]? = some v) Fin vs.toArray.size 0 [] news := by
  have hl : vs.toArray.size = xs.length := by rw [List.size_toArray]; exact hr.len
  refine comp_J (fun i ys nw => nw = news ∧ StrsAre ys (xs.take i)) ?_ ?_ ⟨rfl, .nil⟩
  · rintro i ys nw v I oI C oC D m₂ h tk E' hlt ⟨rfl, hy⟩ hv hC hx F N off ne
    obtain ⟨nm, hnm, X, d, kd, k, n, t1, t2, t3, t4, t5, t6, t7, t8, rfl, h1, h2⟩ := hr.at i v (by simpa using hv)
    refine wpAny_mono (turn X d nm kd k n t1 t2 t3 t4 t5 t6 t7 t8 I oI C oC D ys m₂ h tk E' ⟨hoff _ h1, hoff _ h2⟩ hC hx F (fun p hp => ?_) off ne) (fun y s₂ hq => ?_) fun _ _ e => e
    · rcases List.mem_cons.mp hp with rfl | hp
      · exact N _ (.tail _ (.tail _ (.tail _ (hsub _ h1))))
      rcases List.mem_cons.mp hp with rfl | hp
      · exact N _ (.tail _ (.tail _ (.tail _ (hsub _ h2))))
      · exact N p hp
    · obtain ⟨h', tk', nw', e1, F', N', off', hS, e2, t, e3⟩ := hq
      refine ⟨h', tk', nw', e1, F', N', off', hS, e2, ?_⟩
      rw [e3, List.take_add_one, hnm]
      exact strs_snoc hy _ _
  · rintro ys nw ⟨rfl, hy⟩
    rw [hl, List.take_length] at hy
    exact fin ys hy
theorem toldStr {I C D X d : Addr} {s₁ : Shared} {oI oC oD oX od : Obj} {S : List (Addr × Obj) → Prop} {h' : Heap} {tk : Nat} {nm : Str} {t : Tok}
    (F : Fr h₀ L h' m) (N : News h₀ L h' ((X, oX) :: (d, od) :: (I, oI) :: (C, oC) :: (D, oD) :: news)) (off : Off3 I C D news) (hS : S news) :
    CompEnd h₀ L m s₁ I oI C oC D oD S (fun y nw => nw = news ∧ ∃ t, y = .str nm t) (.str nm t) { s₁ with heap := h', toks := tk } :=
  CompEnd.intro F N news (fun p hp => .tail _ (.tail _ hp)) off hS ⟨rfl, t, rfl⟩
theorem toldEnd {I C D D' ax : Addr} {s₁ : Shared} {oI oC oD ot : Obj} {h' : Heap} {tk : Nat} {nin rs : List (Addr × Obj)} {ys : List Value} {z : Int} {its : Array Value} {n : Nat}
    (F : Fr h₀ L h' m) (N : News h₀ L h' ((D', lst ys) :: nin)) (o1 : Off1 D' nin) (sub : ∀ p ∈ (I, oI) :: (C, oC) :: (D, oD) :: (news ++ rs), p ∈ nin) (off : Off3 I C D (news ++ rs)) (hs : StrsAre ys (allNames z))
    (hm : (ax, ot) ∈ news) (hc : ot.cls = .type "tuple") (hd : ot.data = .seq its n) :
    CompEnd h₀ L m s₁ I oI C oC D oD (TupAt h₀ ax its) (fun y nw => ∃ rs', nw = news ++ rs' ∧ (∀ p ∈ rs, p ∈ rs') ∧ ToldAt rs' z y) (.ref D') { s₁ with heap := h', toks := tk } := by
  have hne := off1_mem o1
  refine CompEnd.intro F N (news ++ (D', lst ys) :: rs) (fun p hp => ?_) (Off3.of fun p hp => ?_) (.inr ⟨ot, List.mem_append_left _ hm, hc, n, hd⟩) ⟨_, rfl, fun p hp => .tail _ hp, D', ys, rfl, .head _, hs⟩
  · simp only [List.mem_cons, List.mem_append] at hp
    rcases hp with rfl | rfl | rfl | hp | rfl | hp
    · exact .tail _ (sub _ (.head _))
    · exact .tail _ (sub _ (.tail _ (.head _)))
    · exact .tail _ (sub _ (.tail _ (.tail _ (.head _))))
    · exact .tail _ (sub _ (.tail _ (.tail _ (.tail _ (List.mem_append_left _ hp)))))
    · exact .head _
    · exact .tail _ (sub _ (.tail _ (.tail _ (.tail _ (List.mem_append_right _ hp)))))
  · have hmm := Off3.mem off
    rcases List.mem_append.mp hp with hp | hp
    · exact hmm p (List.mem_append_left _ hp)
    · rcases List.mem_cons.mp hp with rfl | hp
      · exact ⟨Ne.symm (hne _ (sub _ (.head _))), Ne.symm (hne _ (sub _ (.tail _ (.head _)))), Ne.symm (hne _ (sub _ (.tail _ (.tail _ (.head _)))))⟩
      · exact hmm p (List.mem_append_right _ hp)
end
end Mine
namespace Mine
open PySem PySem.W PySem.Calls PyProof.Rows PyProof.Rows.LCg
theorem all_len {n : Int} (h : n ∈ ([8, 16, 32, 64, 128] : List Int)) : (allNames n).length ≤ 20 := by
  have : ∀ y ∈ ([8, 16, 32, 64, 128] : List Int), (allNames y).length ≤ 20 := by decide +kernel
  exact this n h
theorem all_fits {P : Params} {rs : List (Addr × Obj)} {vs : List Value} {n : Int} (hr : RegsAre P rs vs (allNames n)) (h : n ∈ ([8, 16, 32, 64, 128] : List Int)) : vs.toArray.size ≤ sizeLine := by
  have := all_len h
  rw [List.size_toArray, hr.len, sizeLine_eq]; lia
end Mine
namespace Mine
open PySem PySem.W PySem.Calls PyProof.Rows
section
variable {w : World} {s : Shared} {A : Around} {h₀ : Heap} {L Ll : Addr} {m : Str → Option Value} {env le : Env} {news : List (Addr × Obj)} {Q E : Value → Shared → Prop}
  {p : Program} {loose : List Str} {mean : ExcName → Option Value} {mg mb : Str → Option Value} {dp un : Nat} {gd : Option (List Code)} {f : Addr} {vs : List Value} {lv : Nat} {oLl : Obj}
/-- a pure def called from the frame beside which the outer frame stands on the ledger -/
theorem callPureN {P : Value → List (Addr × Obj) → Prop} (H : Pure w lv f vs P) (hle : le.frame = some Ll) (hlk : le.scope.kind = .function) {dL : Data} (hdd : ∃ es n, dL = .dict es n) (hm : (Ll, oLl) ∈ news) (hd0 : oLl.data = dL)
    (F : Fr h₀ L s.heap m) (X : (Mine.hd.heap_39 w.params).In h₀) (T : Top p loose mean mg mb h₀) (N : News h₀ L s.heap news)
    (hA : A = A0 dp un gd [env, le]) (hf : env.frame = some L) (hke : env.scope.kind = .function) (hd : dp + 2 * lv < recursionLimit) (hun : un + 10 * lv + 100 < cLine)
    (h : ∀ v ns h' tk', P v ns → Fr h₀ L h' m → News h₀ L h' (ns ++ news) → (∀ q ∈ ns, q.1 ≠ Ll) → Q v { s with heap := h', toks := tk' }) :
    wpAny (model Challenge.rw_qz0048_01.row.prog w) A (call (.ref f) vs) Q E s := by
  subst hA
  have NL := N _ hm
  obtain ⟨es, en, hde⟩ := hdd
  rw [hde] at hd0
  obtain ⟨oL, es', en', hoL, hdL, hkL⟩ := F.ns
  have hL0 : h₀.get? L = none := kts_self F
  refine wpAny_call (H p loose mean mg mb dp un gd [env, le] h₀ s.heap s _ ⟨rfl, F.keep, ?_⟩ (X.keeps F.keep) (T.keeps F.keep) (fun _ _ e => e) (Nat.le_refl _) (fun _ hq => nomatch hq) hd hun ?_)
  · refine ⟨by rw [hke]; decide, ⟨L, oL, hf, hL0, hoL, fun vs q => ?_⟩, by rw [hlk]; decide, ⟨Ll, oLl, hle, NL.2.2, NL.1, fun vs q => ?_⟩, trivial⟩
    · rw [hdL] at q; cases q
    · rw [hd0] at q; cases q
  · intro v ns h' tk' hk Nn hP
    exact h v ns h' tk' hP (F.after hk) (News.new F N hk Nn) fun q hq => Ne.symm (New.apart N Nn q hq _ hm)
/-- what told answers, the register's two objects beside the ground -/
abbrev TellG (X d : Addr) (oX od : Obj) (nm : Str) : Heap → List Env → Heap → Shared → (Result → Shared → Prop) → Prop := fun _ _ g s R =>
  ∀ t h' tk', g.StaysIn h' → h'.get? X = some oX → h'.get? d = some od → R (.ok (.ret (.str nm t))) { s with heap := h', toks := tk' }
theorem off_tail {a : Addr × Obj} {rs : List (Addr × Obj)} {Ll : Addr} (h : ∀ q ∈ a :: rs, q.1 ≠ Ll) : ∀ q ∈ rs, q.1 ≠ Ll := fun q hq => h q (.tail _ hq)
theorem callTellN {X d : Addr} {oX od : Obj} {nm : Str} (H : FnG w lv f [.ref X] [(X, oX), (d, od)] (TellG X d oX od nm)) (hle : le.frame = some Ll) (hlk : le.scope.kind = .function) {dL : Data} (hdd : ∃ es n, dL = .dict es n) (hm : (Ll, oLl) ∈ news) (hd0 : oLl.data = dL)
    (hX : (X, oX) ∈ news) (hD : (d, od) ∈ news) (hXl : @Ne Nat X Ll ∧ @Ne Nat d Ll)
    (F : Fr h₀ L s.heap m) (XF : (Mine.hd.heap_39 w.params).In h₀) (T : Top p loose mean mg mb h₀) (N : News h₀ L s.heap news)
    (hA : A = A0 dp un gd [env, le]) (hf : env.frame = some L) (hke : env.scope.kind = .function) (hd : dp + 2 * lv < recursionLimit) (hun : un + 10 * lv + 100 < cLine)
    (h : ∀ t h' tk', Fr h₀ L h' m → News h₀ L h' news → Q (.str nm t) { s with heap := h', toks := tk' }) :
    wpAny (model Challenge.rw_qz0048_01.row.prog w) A (call (.ref f) [.ref X]) Q E s := by
  subst hA
  have NL := N _ hm
  have NX := N _ hX
  have ND := N _ hD
  obtain ⟨es, en, hde⟩ := hdd
  rw [hde] at hd0
  obtain ⟨oL, es', en', hoL, hdL, hkL⟩ := F.ns
  have hL0 : h₀.get? L = none := kts_self F
  have st : h₀.StaysIn (hideAll s.heap [X, d]) := fun b o e => hideAll_get _ (F.keep _ _ e) fun hq => by
    simp only [List.mem_cons, List.not_mem_nil, or_false] at hq
    rcases hq with rfl | rfl
    · rw [NX.2.2] at e; cases e
    · rw [ND.2.2] at e; cases e
  have gL : (hideAll s.heap [X, d]).get? L = some oL := hideAll_get _ hoL fun hq => by
    simp only [List.mem_cons, List.not_mem_nil, or_false] at hq
    rcases hq with rfl | rfl
    · exact NX.2.1 rfl
    · exact ND.2.1 rfl
  have gLl : (hideAll s.heap [X, d]).get? Ll = some oLl := hideAll_get _ NL.1 fun hq => by
    simp only [List.mem_cons, List.not_mem_nil, or_false] at hq
    rcases hq with rfl | rfl
    · exact hXl.1 rfl
    · exact hXl.2 rfl
  refine wpAny_call (H p loose mean mg mb dp un gd [env, le] h₀ (hideAll s.heap [X, d]) s _ ⟨rfl, st, ?_⟩ (XF.keeps st) (T.keeps st) (fun _ _ e => of_hideAll _ e) (Nat.le_of_eq (hideAll_size _ _)) (fun u hu => ?_) hd hun ?_)
  · refine ⟨by rw [hke]; decide, ⟨L, oL, hf, hL0, gL, fun vs q => ?_⟩, by rw [hlk]; decide, ⟨Ll, oLl, hle, NL.2.2, gLl, fun vs q => ?_⟩, trivial⟩
    · rw [hdL] at q; cases q
    · rw [hd0] at q; cases q
  · simp only [List.mem_cons, List.not_mem_nil, or_false] at hu
    rcases hu with rfl | rfl
    · exact ⟨NX.1, hideAll_none _ (by simp)⟩
    · exact ⟨ND.1, hideAll_none _ (by simp)⟩
  · intro t h' tk' hk hx' hd'
    have keep : ∀ b o, s.heap.get? b = some o → h'.get? b = some o := fun b o e => by
      by_cases h1 : b = X
      · subst h1; rw [NX.1] at e; cases e; exact hx'
      by_cases h2 : b = d
      · subst h2; rw [ND.1] at e; cases e; exact hd'
      · exact hk _ _ (hideAll_get _ e (by simp only [List.mem_cons, List.not_mem_nil, or_false]; exact fun q => q.elim h1 h2))
    exact h t h' tk' (F.keeps keep) (fun q hq => ⟨keep _ _ (N q hq).1, (N q hq).2⟩)
end
end Mine
end
section
open PySem PySem.W PySem.Calls PyProof.Rows
namespace Mine
theorem rows_C19_1 : True := by
  k_with_none
  k_with "m:on" => skip
  k_with "m:klt" => (intro l0; replace l0 := allLt_of l0; dsimp only [AllLt] at l0; (repeat (have := And.left l0; replace l0 := And.right l0)); revert l0)
  k_with "m:ktr_room" => k_dflt (first | exact rm1 (by with_reducible assumption) rfl | exact rm2 (by with_reducible assumption) rfl | exact rm3 (by with_reducible assumption) rfl)
  k_with "m:ktr_units" => k_dflt (first | exact un0 (by with_reducible assumption) rfl | exact un1 (by with_reducible assumption) rfl | exact un2 (by with_reducible assumption) rfl | exact un3 (by with_reducible assumption) rfl)
  k_with "m:k_ne" => (refine neN ?_; (try dsimp only); first | with_reducible assumption | exact Ne.symm (by with_reducible assumption) | exact Nat.ne_of_lt (by with_reducible assumption) | exact Nat.ne_of_gt (by with_reducible assumption) | lia)
  k_with "m:cell_enter" => (refine' enterGC ?zk1_C19r1 ?zk2_C19r1 ?zk3_C19r1 ?zk4_C19r1 ?zk5_C19r1 ?zk6_C19r1 ?zk7_C19r1 ?zk8_C19r1 ?zk9_C19r1 ?zkB_C19r1 ?zkD_C19r1 ?_ ?zc2_C19r1 ?zc3_C19r1 ?zc4_C19r1; (case zk1_C19r1 => k_asm); (case zk2_C19r1 => k_asm); (case zk3_C19r1 => k_asm); (case zk4_C19r1 => k_asm); (case zk5_C19r1 => k_asm); (case zk6_C19r1 => k_is); (case zk7_C19r1 => k_is); (case zk8_C19r1 => lia); (case zk9_C19r1 => first | exact BindsTo.of_eq rfl | exact binds_K (by k_in) rfl (by k_is) rfl rfl rfl); (case zkB_C19r1 => exact rfl); (case zkD_C19r1 => decide +kernel); (case zc2_C19r1 => exact rfl); (case zc3_C19r1 => exact rfl); (case zc4_C19r1 => exact rfl); k_whole; intro L' h' tk' cells' F' N' Y' l1; (try k_lt l1); k_cells Y'; (try simp only [List.cons_append, List.nil_append, List.append_nil] at N'); (try dsimp only); (try k_fold))
  k_with "m:cell_enter" => (first | (refine' enterG ?zk1_C19r2 ?zk2_C19r2 ?zk3_C19r2 ?zk4_C19r2 ?zk5_C19r2 ?zk6_C19r2 ?zk7_C19r2 ?zk8_C19r2 ?zk9_C19r2 ?zkB_C19r2 ?_ ?zc2_C19r2 ?zc3_C19r2 ?zc4_C19r2 ?zc5_C19r2; (case zk1_C19r2 => k_asm); (case zk2_C19r2 => k_asm); (case zk3_C19r2 => k_asm); (case zk4_C19r2 => k_asm); (case zk5_C19r2 => k_asm); (case zk6_C19r2 => k_is); (case zk7_C19r2 => k_is); (case zk8_C19r2 => lia); (case zk9_C19r2 => first | exact BindsTo.of_eq rfl | exact binds_K (by k_in) rfl (by k_is) rfl rfl rfl); (case zc5_C19r2 => decide); (case zkB_C19r2 => exact locs rfl); (case zc2_C19r2 => exact rfl); (case zc3_C19r2 => exact rfl); (case zc4_C19r2 => exact rfl); k_whole; intro L' h' F' N' l1; (try k_lt l1); (try dsimp only); (try k_fold)) | fail)
  k_with "m:exec Raise some none" => (k_here; (with_reducible show wpAny _ _ (exec (Stmt.Raise (some (Expr.Call (Expr.Name _ _) _ _ _)) none _) _) _ _ _); k_dflt (refine Raise_mint (by exact rfl) ?_))
  k_with "m:call ref" => (k_here; (with_reducible show wpAny _ _ (call (Value.ref _) [Value.str _ _]) (RaisedO _) _ _); k_dflt (refine' mint_callN PySem.F.excBase_Exception ?zX_C19r4 ?zF_C19r4 ?zN_C19r4 ?zC_C19r4 ?zi_C19r4 ?zf_C19r4 ?zc_C19r4 ?_; (case zX_C19r4 => k_asm); (case zF_C19r4 => k_asm); (case zN_C19r4 => k_asm); (case zC_C19r4 => k_is); (case zi_C19r4 => k_is); (case zf_C19r4 => k_is); (case zc_C19r4 => rfl); k_whole); intro e' t' h' F' N' l1 l2; (try k_lt l1); (try k_lt2 l2); k_dflt (refine wpAny_call ?_; k_enter))
  k_with "m:getMethod type:Exception" => (k_here; refine' method_type ?zF_C19r5 ?zX_C19r5 ?zm_C19r5 (by decide +kernel) ?ze_C19r5 ?zh_C19r5 ?_; (case zF_C19r5 => k_asm); (case zX_C19r5 => k_asm); (case zm_C19r5 => exact meta_Exception); (case ze_C19r5 => k_dflt k_is); (case zh_C19r5 => k_handed))
  k_with "m:call builtin:Exception.__init__" => (k_here; k_dflt (refine' exc_initN' PySem.F.excBase_Exception ?zC_C19r6 ?zF_C19r6 ?zN_C19r6 ?zh2_C19r6 ?_; (case zF_C19r6 => k_asm); (case zN_C19r6 => k_asm); (case zC_C19r6 => exact Frag.In.keeps (by k_asm) (Fr.keep (by k_asm)) _ _ (by k_is)); (case zh2_C19r6 => k_all); k_whole); intro D' h' F' N' l1; (try simp only [List.nil_append] at F' N' l1); (try k_lt l1))
  k_with "m:setAttr ref" => (k_here; k_dflt (refine' exc_set2 ?zF_C19r7 ?zX_C19r7 ?zN_C19r7 ?ze_C19r7 ?zU_C19r7 ?zs_C19r7 ?zc_C19r7 ?zm_C19r7 ?zd_C19r7 ?zt_C19r7 ?zn_C19r7 ?zq_C19r7 ?zz_C19r7 ?_; (case zF_C19r7 => k_asm); (case zX_C19r7 => k_asm); (case zN_C19r7 => k_asm); (case ze_C19r7 => k_mem); (case zU_C19r7 => k_upd); (case zs_C19r7 => k_is); (case zc_C19r7 => k_is); (case zm_C19r7 => rfl); (case zd_C19r7 => rfl); (case zt_C19r7 => k_is); (case zn_C19r7 => rfl); (case zq_C19r7 => rfl); (case zz_C19r7 => exact Nat.le_of_ble_eq_true rfl); k_whole); intro h' tk' F' N')
  k_with "m:setAttr ref" => (k_here; k_dflt (refine' exc_set1' ?zF_C19r8 ?zX_C19r8 ?zN_C19r8 ?zh1_C19r8 ?zh2_C19r8 ?zs_C19r8 ?zc_C19r8 ?zm_C19r8 ?zd_C19r8 ?zt_C19r8 ?_; (case zF_C19r8 => k_asm); (case zX_C19r8 => k_asm); (case zN_C19r8 => k_asm); (case zh1_C19r8 => k_ne); (case zh2_C19r8 => k_all); (case zs_C19r8 => k_is); (case zc_C19r8 => k_is); (case zm_C19r8 => rfl); (case zd_C19r8 => rfl); (case zt_C19r8 => k_is); k_whole); intro D' h' tk' F' N' l1; (try simp only [List.cons_append, List.nil_append] at F' N' l1); (try k_lt l1))
  k_with "m:RaisedO" => (k_dflt (refine' raisedO_of ?zX_C19r9 ?zF_C19r9 ?zN_C19r9 ?ze_C19r9 ?zC_C19r9 ?zb_C19r9 ?_; (case zX_C19r9 => k_asm); (case zF_C19r9 => k_asm); (case zN_C19r9 => k_asm); (case ze_C19r9 => k_mem); (case zC_C19r9 => k_is); (case zb_C19r9 => rfl); k_whole))
  k_with "m:leaving ref" => (k_here; k_dflt (refine' leave_mint4 ?zK_C19r10 ?zF_C19r10 ?zN_C19r10 ?zh1_C19r10 ?zh2_C19r10 ?_; (case zK_C19r10 => k_asm); (case zF_C19r10 => k_asm); (case zN_C19r10 => k_asm); (case zh1_C19r10 => k_all); (case zh2_C19r10 => k_all); k_whole); intro h' R' RK' U'; (try dsimp only at R' RK' U' ⊢))
  trivial

set_option maxRecDepth 100000 in
set_option maxHeartbeats 2000000 in
theorem tell_ok (w : World) (X d : Addr) (nm kd : Str) (k n : Int) (t1 t2 t3 t4 t5 t6 t7 t8 : Tok) :
    FnG w 2 139 [.ref X] [(X, instObj 142 d), (d, regDict w.params nm kd k n t1 t2 t3 t4 t5 t6 t7 t8)] (TellG X d (instObj 142 d) (regDict w.params nm kd k n t1 t2 t3 t4 t5 t6 t7 t8) nm) := by
  w_top off
  dsimp only [FnG, TellG]; k_fill; intros; rename_i hret
  cell_enter
  k_steps
  all_goals (try dsimp only)
  · exact hret _ _ _ (Fr.keep (by assumption)) (News.get (by assumption) (.head _)) (News.get (by assumption) (.tail _ (.head _)))

end Mine
end
section
theorem Mine.none_Eqs : True := by
  k_with_none
  w_top off
  trivial
set_option maxRecDepth 100000
open PySem PySem.W PySem.Calls PyProof.Rows PyProof.Rows.LCg PyProof.Rows.LCt PySem.SeqAt
namespace Mine
theorem mem_rest {x : Addr × Obj} {rest news : List (Addr × Obj)} (h : x ∈ rest) (hs : ∀ p ∈ rest, p ∈ news) : x ∈ news := hs x h
def namesD (z : Int) : PyData := .list ((allNames z).map PyData.str)
def allD : PyData := .list [namesD 8, namesD 16, namesD 32, namesD 64, namesD 128]
theorem allD_shaped : shaped allD = true := by decide +kernel
theorem allD_eqv : PyData.eqv allD allD = true := by decide +kernel
theorem told_reads {h : Heap} {rs : List (Addr × Obj)} (hr : ∀ p ∈ rs, h.get? p.1 = some p.2) {ys : List Value} {zs : List Int} (H : ToldsAre rs ys zs) : ∃ as, ReadsAll h ys (zs.map namesD) as := by
  induction H with
  | nil => exact ⟨[], .nil⟩
  | cons q r ih =>
    obtain ⟨as, ha⟩ := ih
    obtain ⟨D, vs, e, hm, hS⟩ := q
    subst e
    exact ⟨_, .cons (reads_of_strs ⟨_, hr _ hm, rfl, _, rfl⟩ hS) ha⟩
section
variable {prog : Program} {w : World} {A : Around} {E : Value → Shared → Prop} {s : Shared} {h₀ : Heap} {L : Addr} {m : Str → Option Value} {news rest rs : List (Addr × Obj)}
theorem eq_tolds {DT DL D9 D16 D32 D64 D128 : Addr} {ys ws w16 w32 w64 w128 : List Value} {e9 n16 n32 n64 n128 : Nat} {oL : Obj} {ep : Nat} {xs : List Str} {Q : Value → Shared → Prop} (N : News h₀ L s.heap news) (hT : (DT, lst ys) ∈ news) (ht : ToldsAre rs ys [8, 16, 32, 64, 128]) (hrs : ∀ p ∈ rs, p ∈ news)
    (hL : (DL, oL) ∈ news) (hLc : oL.cls = .type "list") (hLd : oL.data = .seq #[.ref D9, .ref D16, .ref D32, .ref D64, .ref D128] ep) (h9 : (D9, (⟨.type "list", none, .seq ws.toArray e9, #[]⟩ : Obj)) ∈ news) (s9 : StrsAre ws xs) (ex : xs = allNames 8)
    (m16 : (D16, (⟨.type "list", none, .seq w16.toArray n16, #[]⟩ : Obj)) ∈ rest) (s16 : StrsAre w16 (gprNames 16)) (m32 : (D32, (⟨.type "list", none, .seq w32.toArray n32, #[]⟩ : Obj)) ∈ rest) (s32 : StrsAre w32 (gprNames 32))
    (m64 : (D64, (⟨.type "list", none, .seq w64.toArray n64, #[]⟩ : Obj)) ∈ rest) (s64 : StrsAre w64 (gprNames 64)) (m128 : (D128, (⟨.type "list", none, .seq w128.toArray n128, #[]⟩ : Obj)) ∈ rest) (s128 : StrsAre w128 xmmNames)
    (hsub : ∀ p ∈ rest, p ∈ news) (hu : A.units + 64 < cLine) (h : Q (.bool true) s) : wpAny (model prog w) A (compareOp .Eq (.ref DT) (.ref DL)) Q E s := by
  subst ex
  obtain ⟨as, ha⟩ := told_reads (h := s.heap) (fun p hp => (N p (hrs p hp)).1) ht
  have r1 : Reads s.heap (.ref DT) allD (DT :: as) := Reads.list (N _ hT).1 rfl rfl (by simpa using ha)
  have g : ∀ {D : Addr} {vs : List Value} {k : Nat} {zs : List Str}, (D, (⟨.type "list", none, .seq vs.toArray k, #[]⟩ : Obj)) ∈ news → StrsAre vs zs → Reads s.heap (.ref D) (.list (zs.map PyData.str)) [D] := fun hm hS => reads_of_strs ⟨_, (N _ hm).1, rfl, _, rfl⟩ hS
  have r2 := Reads.list (xs := [namesD 8, namesD 16, namesD 32, namesD 64, namesD 128]) (N _ hL).1 hLc hLd (.cons (g h9 s9) (.cons (g (hsub _ m16) s16) (.cons (g (hsub _ m32) s32) (.cons (g (hsub _ m64) s64) (.cons (g (hsub _ m128) s128) .nil)))))
  refine eq_dataH r1 r2 allD_shaped allD_shaped hu ?_
  have e : PyData.eqv allD (.list [namesD 8, namesD 16, namesD 32, namesD 64, namesD 128]) = true := allD_eqv
  rw [e]; exact h
end
end Mine
end
section
open PySem PySem.W PyProof.Rows
namespace Mine
structure BoxKey (P : Prop) : Prop where
  out : P
theorem joinNeq {M : Model} {Ar : Around} {e : PySem.Expr} {env : Env} {l : Value} {Q2 : Value → Shared → Prop} {E E2 : Value → Shared → Prop} {h : Heap} {g : Array GenState} {d : Drawn} {k0 : Nat} {o : OsState} (main : BoxKey (∀ tk, Q2 (.bool false) ⟨h, g, d, tk, o⟩) → wpAny M Ar (eval e env) (fun v s' => wpAny M Ar (compareOp .NotEq l v) Q2 E2 s') E ⟨h, g, d, k0, o⟩) (key : ∀ tk, Q2 (.bool false) ⟨h, g, d, tk, o⟩) : wpAny M Ar (eval e env) (fun v s' => wpAny M Ar (compareOp .NotEq l v) Q2 E2 s') E ⟨h, g, d, k0, o⟩ := main ⟨key⟩
theorem joinCmp {M : Model} {Ar : Around} {e : PySem.Expr} {env : Env} {Q E : Value → Shared → Prop} {h : Heap} {g : Array GenState} {d : Drawn} {k0 : Nat} {o : OsState} (c : Prop) (main : BoxKey (∀ b tk, (b = true ↔ c) → Q (.bool b) ⟨h, g, d, tk, o⟩) → wpAny M Ar (eval e env) Q E ⟨h, g, d, k0, o⟩) (key : ∀ b tk, (b = true ↔ c) → Q (.bool b) ⟨h, g, d, tk, o⟩) : wpAny M Ar (eval e env) Q E ⟨h, g, d, k0, o⟩ := main ⟨key⟩
theorem rows_C20_1 : True := by
  k_with_none
  k_with "m:on" => skip
  k_with "m:klt" => (intro l0; replace l0 := allLt_of l0; dsimp only [AllLt] at l0; (repeat (have := And.left l0; replace l0 := And.right l0)); revert l0)
  k_with "m:ktr_room" => k_dflt (first | exact rm1 (by with_reducible assumption) rfl | exact rm2 (by with_reducible assumption) rfl | exact rm3 (by with_reducible assumption) rfl)
  k_with "m:ktr_units" => k_dflt (first | exact un0 (by with_reducible assumption) rfl | exact un1 (by with_reducible assumption) rfl | exact un2 (by with_reducible assumption) rfl | exact un3 (by with_reducible assumption) rfl)
  k_with "m:k_ne" => (refine neN ?_; (try dsimp only); first | with_reducible assumption | exact Ne.symm (by with_reducible assumption) | exact Nat.ne_of_lt (by with_reducible assumption) | exact Nat.ne_of_gt (by with_reducible assumption) | lia)
  k_with "m:cell_enter" => (refine' enterGC ?zk1_C20r1 ?zk2_C20r1 ?zk3_C20r1 ?zk4_C20r1 ?zk5_C20r1 ?zk6_C20r1 ?zk7_C20r1 ?zk8_C20r1 ?zk9_C20r1 ?zkB_C20r1 ?zkD_C20r1 ?_ ?zc2_C20r1 ?zc3_C20r1 ?zc4_C20r1; (case zk1_C20r1 => assumption); (case zk2_C20r1 => assumption); (case zk3_C20r1 => assumption); (case zk4_C20r1 => assumption); (case zk5_C20r1 => assumption); (case zk6_C20r1 => k_is); (case zk7_C20r1 => k_is); (case zk8_C20r1 => lia); (case zk9_C20r1 => first | exact BindsTo.of_eq rfl | exact binds_K (by k_in) rfl (by k_is) rfl rfl rfl); (case zkB_C20r1 => exact rfl); (case zkD_C20r1 => decide +kernel); (case zc2_C20r1 => exact rfl); (case zc3_C20r1 => exact rfl); (case zc4_C20r1 => exact rfl); k_whole; intro L' h' tk' cells' F' N' Y' l1; (try k_lt l1); k_cells Y'; (try simp only [List.cons_append, List.nil_append, List.append_nil] at N'); (try dsimp only); (try k_fold))
  k_with "m:cell_enter" => (first | (refine' enterG ?zk1_C20r2 ?zk2_C20r2 ?zk3_C20r2 ?zk4_C20r2 ?zk5_C20r2 ?zk6_C20r2 ?zk7_C20r2 ?zk8_C20r2 ?zk9_C20r2 ?zkB_C20r2 ?_ ?zc2_C20r2 ?zc3_C20r2 ?zc4_C20r2 ?zc5_C20r2; (case zk1_C20r2 => assumption); (case zk2_C20r2 => assumption); (case zk3_C20r2 => assumption); (case zk4_C20r2 => assumption); (case zk5_C20r2 => assumption); (case zk6_C20r2 => k_is); (case zk7_C20r2 => k_is); (case zk8_C20r2 => lia); (case zk9_C20r2 => first | exact BindsTo.of_eq rfl | exact binds_K (by k_in) rfl (by k_is) rfl rfl rfl); (case zc5_C20r2 => decide); (case zkB_C20r2 => exact locs rfl); (case zc2_C20r2 => exact rfl); (case zc3_C20r2 => exact rfl); (case zc4_C20r2 => exact rfl); k_whole; intro L' h' F' N' l1; (try k_lt l1); (try dsimp only); (try k_fold)) | fail)
  k_with "m:exec Raise some none" => (k_here; (with_reducible show wpAny _ _ (exec (Stmt.Raise (some (Expr.Call (Expr.Name _ _) _ _ _)) none _) _) _ _ _); k_dflt (refine Raise_mint (by exact rfl) ?_))
  k_with "m:call ref" => (k_here; (with_reducible show wpAny _ _ (call (Value.ref _) [Value.str _ _]) (RaisedO _) _ _); k_dflt (refine' mint_callN PySem.F.excBase_Exception ?zX_C20r4 ?zF_C20r4 ?zN_C20r4 ?zC_C20r4 ?zi_C20r4 ?zf_C20r4 ?zc_C20r4 ?_; (case zX_C20r4 => k_asm); (case zF_C20r4 => k_asm); (case zN_C20r4 => k_asm); (case zC_C20r4 => k_is); (case zi_C20r4 => k_is); (case zf_C20r4 => k_is); (case zc_C20r4 => rfl); k_whole); intro e' t' h' F' N' l1 l2; (try k_lt l1); (try k_lt2 l2); k_dflt (refine wpAny_call ?_; k_enter))
  k_with "m:getMethod type:Exception" => (k_here; refine' method_type ?zF_C20r5 ?zX_C20r5 ?zm_C20r5 (by decide +kernel) ?ze_C20r5 ?zh_C20r5 ?_; (case zF_C20r5 => k_asm); (case zX_C20r5 => k_asm); (case zm_C20r5 => exact meta_Exception); (case ze_C20r5 => k_dflt k_is); (case zh_C20r5 => k_handed))
  k_with "m:call builtin:Exception.__init__" => (k_here; k_dflt (refine' exc_initN' PySem.F.excBase_Exception ?zC_C20r6 ?zF_C20r6 ?zN_C20r6 ?zh2_C20r6 ?_; (case zF_C20r6 => k_asm); (case zN_C20r6 => k_asm); (case zC_C20r6 => exact Frag.In.keeps (by k_asm) (Fr.keep (by k_asm)) _ _ (by k_is)); (case zh2_C20r6 => k_all); k_whole); intro D' h' F' N' l1; (try simp only [List.nil_append] at F' N' l1); (try k_lt l1))
  k_with "m:setAttr ref" => (k_here; k_dflt (refine' exc_set2 ?zF_C20r7 ?zX_C20r7 ?zN_C20r7 ?ze_C20r7 ?zU_C20r7 ?zs_C20r7 ?zc_C20r7 ?zm_C20r7 ?zd_C20r7 ?zt_C20r7 ?zn_C20r7 ?zq_C20r7 ?zz_C20r7 ?_; (case zF_C20r7 => k_asm); (case zX_C20r7 => k_asm); (case zN_C20r7 => k_asm); (case ze_C20r7 => k_mem); (case zU_C20r7 => k_upd); (case zs_C20r7 => k_is); (case zc_C20r7 => k_is); (case zm_C20r7 => rfl); (case zd_C20r7 => rfl); (case zt_C20r7 => k_is); (case zn_C20r7 => rfl); (case zq_C20r7 => rfl); (case zz_C20r7 => exact Nat.le_of_ble_eq_true rfl); k_whole); intro h' tk' F' N')
  k_with "m:setAttr ref" => (k_here; k_dflt (refine' exc_set1' ?zF_C20r8 ?zX_C20r8 ?zN_C20r8 ?zh1_C20r8 ?zh2_C20r8 ?zs_C20r8 ?zc_C20r8 ?zm_C20r8 ?zd_C20r8 ?zt_C20r8 ?_; (case zF_C20r8 => k_asm); (case zX_C20r8 => k_asm); (case zN_C20r8 => k_asm); (case zh1_C20r8 => k_ne); (case zh2_C20r8 => k_all); (case zs_C20r8 => k_is); (case zc_C20r8 => k_is); (case zm_C20r8 => rfl); (case zd_C20r8 => rfl); (case zt_C20r8 => k_is); k_whole); intro D' h' tk' F' N' l1; (try simp only [List.cons_append, List.nil_append] at F' N' l1); (try k_lt l1))
  k_with "m:RaisedO" => (k_dflt (refine' raisedO_of ?zX_C20r9 ?zF_C20r9 ?zN_C20r9 ?ze_C20r9 ?zC_C20r9 ?zb_C20r9 ?_; (case zX_C20r9 => k_asm); (case zF_C20r9 => k_asm); (case zN_C20r9 => k_asm); (case ze_C20r9 => k_mem); (case zC_C20r9 => k_is); (case zb_C20r9 => rfl); k_whole))
  k_with "m:leaving ref" => (k_here; k_dflt (refine' leave_mint4 ?zK_C20r10 ?zF_C20r10 ?zN_C20r10 ?zh1_C20r10 ?zh2_C20r10 ?_; (case zK_C20r10 => assumption); (case zF_C20r10 => k_asm); (case zN_C20r10 => k_asm); (case zh1_C20r10 => k_all); (case zh2_C20r10 => k_all); k_whole); intro h' R' RK' U'; (try dsimp only at R' RK' U' ⊢))
  k_with "m:compareOp Eq ref ref" => (k_here; k_dflt (refine' eq_strsK ?zN_C20r11 ?zl_C20r11 ?zS_C20r11 ?zl2_C20r11 ?zS2_C20r11 ?zu_C20r11 ?zo_C20r11 ?zo2_C20r11 ?_; (case zN_C20r11 => k_asm); (case zl_C20r11 => k_mem); (case zS_C20r11 => assumption); (case zl2_C20r11 => k_mem); (case zS2_C20r11 => exact StrsAre.nil); (case zu_C20r11 => ktr_units); (case zo_C20r11 => exact early_ok1 _); (case zo2_C20r11 => rfl); k_whole))
  k_with "m:subscriptTail Name Name ref int" => (k_here; k_dflt (refine' item_strsK ?zN_C20r12 ?zl_C20r12 ?zS_C20r12 ?z0_C20r12 ?zk_C20r12 ?zf_C20r12 ?_ ?zs_C20r12 ?zg_C20r12; (case zN_C20r12 => k_asm); (case zl_C20r12 => k_mem); (case zS_C20r12 => assumption); (case z0_C20r12 => lia); (case zk_C20r12 => first | exact early_lt (by assumption) (by lia) | (show _ < ((_ : Nat) : Int); lia)); (case zf_C20r12 => lia); (case zs_C20r12 => with_unfolding_all rfl); (case zg_C20r12 => (intro _; with_unfolding_all rfl)); k_whole; intro t'))
  k_with "m:call ref" => (k_here; (with_reducible show wpAny _ _ (call (Value.ref 153) [Value.int _ _]) _ _ _); k_dflt (refine' callList (early_ok _ _ _) ?zB_C20r13 ?zF_C20r13 ?zX_C20r13 ?zN_C20r13 ?zT_C20r13 ?zA_C20r13 ?zf_C20r13 ?zk_C20r13 ?zd_C20r13 ?zu_C20r13 ?_; (case zF_C20r13 => k_asm); (case zB_C20r13 => assumption); (case zX_C20r13 => k_asm); (case zN_C20r13 => k_asm); (case zT_C20r13 => assumption); (case zA_C20r13 => exact rfl); (case zf_C20r13 => exact rfl); (case zk_C20r13 => exact rfl); (case zd_C20r13 => ktr_room); (case zu_C20r13 => ktr_units); k_whole; intro D' vs' n' h' tk' S' F' N' l1; (try dsimp only [AllNe] at l1); (repeat (have := And.left l1; replace l1 := And.right l1))))
  k_with "m:call ref" => (k_here; (with_reducible show wpAny _ _ (call (Value.ref 160) [Value.int _ _]) _ _ _); k_dflt (refine' callEnd (ending_ok _ _ _) ?zB_C20r14 ?zF_C20r14 ?zX_C20r14 ?zN_C20r14 ?zT_C20r14 ?zA_C20r14 ?zf_C20r14 ?zk_C20r14 ?zd_C20r14 ?zu_C20r14 ?_; (case zF_C20r14 => k_asm); (case zB_C20r14 => assumption); (case zX_C20r14 => k_asm); (case zN_C20r14 => k_asm); (case zT_C20r14 => assumption); (case zA_C20r14 => exact rfl); (case zf_C20r14 => exact rfl); (case zk_C20r14 => exact rfl); (case zd_C20r14 => ktr_room); (case zu_C20r14 => ktr_units); k_whole; intro t' h' tk' hl' F' N'))
  k_with "m:call builtin:list.index" => (k_here; (with_reducible show wpAny _ _ (call (Value.builtin _) [Value.ref _, Value.str _ _]) _ _ _); k_dflt (refine' index_list_strs ?zN_C20r15 ?zl_C20r15 ?zS_C20r15 ?zz_C20r15 ?zk_C20r15 ?_; (case zN_C20r15 => k_asm); (case zl_C20r15 => k_mem); (case zS_C20r15 => assumption); (case zz_C20r15 => first | exact early_lenOk _ | decide | rfl); (case zk_C20r15 => first | assumption | decide +kernel); k_whole; intro hi'; (try simp only [List.length_cons, List.length_nil, Nat.reduceAdd, Nat.zero_add] at hi')))
  k_with "m:call ref" => (k_here; (with_reducible show wpAny _ _ (call (Value.ref 167) [Value.int _ _, Value.int _ _]) _ _ _); k_dflt (refine' callMayReg (gpr_ok _ _ _ _ _ ?zh_C20r16 ?zh2_C20r16) ?zB_C20r16 ?zF_C20r16 ?zX_C20r16 ?zN_C20r16 ?zT_C20r16 ?zA_C20r16 ?zf_C20r16 ?zk_C20r16 ?zd_C20r16 ?zu_C20r16 ?zo_C20r16 ?zr_C20r16; (case zF_C20r16 => k_asm); (case zB_C20r16 => assumption); (case zX_C20r16 => k_asm); (case zN_C20r16 => k_asm); (case zT_C20r16 => assumption); (case zA_C20r16 => exact rfl); (case zf_C20r16 => exact rfl); (case zk_C20r16 => exact rfl); (case zd_C20r16 => ktr_room); (case zu_C20r16 => ktr_units); (case zh_C20r16 => lia); (case zh2_C20r16 => lia); k_whole; (try (case zr_C20r16 => (intro hz; exact absurd ⟨by first | assumption | decide, by lia, by lia⟩ hz))); (all_goals first | (intro hz x' d' u1 u2 u3 u4 u5 u6 u7 u8 h' tk' hx' F' N' l1 l2; (try dsimp only [AllNe] at l1 l2); (repeat (have := And.left l1; replace l1 := And.right l1)); (repeat (have := And.left l2; replace l2 := And.right l2))) | (intro hz e' t' ws' h' tk' R' RK' U'))))
  k_with "m:call ref" => (k_here; (with_reducible show wpAny _ _ (call (Value.ref 174) [Value.int _ _]) _ _ _); k_dflt (refine' callMayReg (high_ok _ _ _ ?zh_C20r17 ?zh2_C20r17) ?zB_C20r17 ?zF_C20r17 ?zX_C20r17 ?zN_C20r17 ?zT_C20r17 ?zA_C20r17 ?zf_C20r17 ?zk_C20r17 ?zd_C20r17 ?zu_C20r17 ?zo_C20r17 ?zr_C20r17; (case zF_C20r17 => k_asm); (case zB_C20r17 => assumption); (case zX_C20r17 => k_asm); (case zN_C20r17 => k_asm); (case zT_C20r17 => assumption); (case zA_C20r17 => exact rfl); (case zf_C20r17 => exact rfl); (case zk_C20r17 => exact rfl); (case zd_C20r17 => ktr_room); (case zu_C20r17 => ktr_units); (case zh_C20r17 => lia); (case zh2_C20r17 => lia); k_whole; (try (case zr_C20r17 => (intro hz; exact absurd ⟨by lia, by lia⟩ hz))); (all_goals first | (intro hz x' d' u1 u2 u3 u4 u5 u6 u7 u8 h' tk' hx' F' N' l1 l2; (try dsimp only [AllNe] at l1 l2); (repeat (have := And.left l1; replace l1 := And.right l1)); (repeat (have := And.left l2; replace l2 := And.right l2))) | (intro hz e' t' ws' h' tk' R' RK' U'))))
  k_with "m:call ref" => (k_here; (with_reducible show wpAny _ _ (call (Value.ref 188) [Value.int _ _]) _ _ _); k_dflt (refine' callMayReg (xmm_ok _ _ _ ?zh_C20r18 ?zh2_C20r18) ?zB_C20r18 ?zF_C20r18 ?zX_C20r18 ?zN_C20r18 ?zT_C20r18 ?zA_C20r18 ?zf_C20r18 ?zk_C20r18 ?zd_C20r18 ?zu_C20r18 ?zo_C20r18 ?zr_C20r18; (case zF_C20r18 => k_asm); (case zB_C20r18 => assumption); (case zX_C20r18 => k_asm); (case zN_C20r18 => k_asm); (case zT_C20r18 => assumption); (case zA_C20r18 => exact rfl); (case zf_C20r18 => exact rfl); (case zk_C20r18 => exact rfl); (case zd_C20r18 => ktr_room); (case zu_C20r18 => ktr_units); (case zh_C20r18 => lia); (case zh2_C20r18 => lia); k_whole; (try (case zr_C20r18 => (intro hz; exact absurd ⟨by lia, by lia⟩ hz))); (all_goals first | (intro hz x' d' u1 u2 u3 u4 u5 u6 u7 u8 h' tk' hx' F' N' l1 l2; (try dsimp only [AllNe] at l1 l2); (repeat (have := And.left l1; replace l1 := And.right l1)); (repeat (have := And.left l2; replace l2 := And.right l2))) | (intro hz e' t' ws' h' tk' R' RK' U'))))
  k_with "m:call ref" => (k_here; (with_reducible show wpAny _ _ (call (Value.ref 195) _) _ _ _); k_dflt (refine' callReg (rip_ok _) ?zB_C20r19 ?zF_C20r19 ?zX_C20r19 ?zN_C20r19 ?zT_C20r19 ?zA_C20r19 ?zf_C20r19 ?zk_C20r19 ?zd_C20r19 ?zu_C20r19 ?_; (case zF_C20r19 => k_asm); (case zB_C20r19 => assumption); (case zX_C20r19 => k_asm); (case zN_C20r19 => k_asm); (case zT_C20r19 => assumption); (case zA_C20r19 => exact rfl); (case zf_C20r19 => exact rfl); (case zk_C20r19 => exact rfl); (case zd_C20r19 => ktr_room); (case zu_C20r19 => ktr_units); k_whole; intro x' d' u1 u2 u3 u4 u5 u6 u7 u8 h' tk' hx' F' N' l1 l2; (try dsimp only [AllNe] at l1 l2); (repeat (have := And.left l1; replace l1 := And.right l1)); (repeat (have := And.left l2; replace l2 := And.right l2))))
  k_with "m:call ref" => (k_here; (with_reducible show wpAny _ _ (call (Value.ref 202) [Value.str (PySem.Str.ofString "fs") _]) _ _ _); k_dflt (refine' callReg (fs_ok _ _) ?zB_C20r20 ?zF_C20r20 ?zX_C20r20 ?zN_C20r20 ?zT_C20r20 ?zA_C20r20 ?zf_C20r20 ?zk_C20r20 ?zd_C20r20 ?zu_C20r20 ?_; (case zF_C20r20 => k_asm); (case zB_C20r20 => assumption); (case zX_C20r20 => k_asm); (case zN_C20r20 => k_asm); (case zT_C20r20 => assumption); (case zA_C20r20 => exact rfl); (case zf_C20r20 => exact rfl); (case zk_C20r20 => exact rfl); (case zd_C20r20 => ktr_room); (case zu_C20r20 => ktr_units); k_whole; intro x' d' u1 u2 u3 u4 u5 u6 u7 u8 h' tk' hx' F' N' l1 l2; (try dsimp only [AllNe] at l1 l2); (repeat (have := And.left l1; replace l1 := And.right l1)); (repeat (have := And.left l2; replace l2 := And.right l2))))
  k_with "m:call ref" => (k_here; (with_reducible show wpAny _ _ (call (Value.ref 202) [Value.str (PySem.Str.ofString "gs") _]) _ _ _); k_dflt (refine' callReg (gs_ok _ _) ?zB_C20r21 ?zF_C20r21 ?zX_C20r21 ?zN_C20r21 ?zT_C20r21 ?zA_C20r21 ?zf_C20r21 ?zk_C20r21 ?zd_C20r21 ?zu_C20r21 ?_; (case zF_C20r21 => k_asm); (case zB_C20r21 => assumption); (case zX_C20r21 => k_asm); (case zN_C20r21 => k_asm); (case zT_C20r21 => assumption); (case zA_C20r21 => exact rfl); (case zf_C20r21 => exact rfl); (case zk_C20r21 => exact rfl); (case zd_C20r21 => ktr_room); (case zu_C20r21 => ktr_units); k_whole; intro x' d' u1 u2 u3 u4 u5 u6 u7 u8 h' tk' hx' F' N' l1 l2; (try dsimp only [AllNe] at l1 l2); (repeat (have := And.left l1; replace l1 := And.right l1)); (repeat (have := And.left l2; replace l2 := And.right l2))))
  k_with "m:call type:int" => (k_here; (with_reducible show wpAny _ _ (call (Value.type _) [Value.str _ _]) _ _ _); k_dflt (first | (refine' call_xmm ?zk_C20r22 ?_; (case zk_C20r22 => assumption); k_whole; intro hi') | (refine' call_late ?zk_C20r22 ?_; (case zk_C20r22 => assumption); k_whole; intro hi')))
  k_with "m:compareOp In str ref" => (k_here; k_dflt (refine' in_strsK ?zN_C20r23 ?zl_C20r23 ?zS_C20r23 ?_; (case zN_C20r23 => k_asm); (case zl_C20r23 => k_mem); (case zS_C20r23 => assumption); k_whole))
  k_with "m:eval Dict nil nil" => (k_here; k_dflt (refine' newDict_K ?zk1_C20r24 ?zk2_C20r24 ?zk3_C20r24 ?_; (case zk1_C20r24 => k_asm); (case zk2_C20r24 => k_asm); (case zk3_C20r24 => (with_reducible exact Top.nolimit (by assumption))); k_whole); intro d' h' o' F' N' l1 lo' hs' fs' hi' fi'; (try k_lt l1))
  k_with "m:eval Dict" => (k_here; k_dflt (refine' kdn_str ?zq_C20r25 ?zF_C20r25 ?zN_C20r25 ?zb_C20r25 ?za_C20r25 ?zl_C20r25 ?ze_C20r25 ?zn_C20r25 ?_; (case zq_C20r25 => rfl); (case zF_C20r25 => k_asm); (case zN_C20r25 => k_asm); (case zb_C20r25 => (with_reducible exact Top.nolimit (by assumption))); (case za_C20r25 => rfl); (case zl_C20r25 => rfl); (case ze_C20r25 => exact List.cons_ne_nil _ _); (case zn_C20r25 => exact Nat.le_of_ble_eq_true rfl)); intro d' h' o' F' N' l1 lo' hd'; (try k_lt l1))
  k_with "m:eval ListComp" => (k_here; (with_reducible show wpAny _ _ _ _ _ _); lcf_look; k_dflt (refine LCg.ListComp_U (F₀ := by k_asm) (by with_unfolding_all rfl) (by decide) (by rfl) (by decide) (by rfl) ?_); k_dflt lcg_toSrc)
  k_with "m:my_var" => first | assumption | exact rfl | exact if_pos rfl | ((with_reducible refine (if_neg (by decide)).trans ?_); walk_at "my_var")
  k_with "m:tab_rel" => exact ⟨by walk_at "my_var", by walk_at "my_var", by first | walk_at "my_var" | trivial⟩
  k_with "m:tab_c" => exact ⟨by walk_at "my_var", by walk_at "my_var", by first | walk_at "my_var" | trivial⟩
  k_with "m:k_mm" => with_reducible (first | exact List.mem_cons_self | (refine List.mem_cons_of_mem _ ?_; k_extra "m:k_mm"))
  k_with "m:my_sub1" => with_reducible (first | (refine List.forall_mem_cons.mpr (And.intro ?_ ?_); focus (k_extra "m:k_mm"); k_extra "m:my_sub1") | (intro p hp; (repeat (first | assumption | refine List.mem_cons_of_mem _ ?_)); done) | assumption | exact List.forall_mem_nil _)
  k_with "m:my_sub" => first | k_extra "m:my_sub1" | assumption | exact List.forall_mem_nil _ | (refine List.forall_mem_cons.mpr ⟨by k_mem, ?_⟩; walk_at "my_sub") | (intro p hp; (repeat (first | exact hp | refine List.mem_cons_of_mem _ ?_)))
  k_with "m:my_ne" => first | assumption | exact List.forall_mem_nil _ | exact ne_app (by assumption) (by assumption) | (refine List.forall_mem_cons.mpr ⟨by (dsimp only; k_ne), ?_⟩; walk_at "my_ne")
  k_with "m:tab_open" => (with_reducible rename (_ ∧ _ ∧ _) => hc'; obtain ⟨hc1', hc2', hc3'⟩ := hc')
  k_with "m:subscriptTail Name Name ref int" => (k_here; k_dflt (refine kda_item (knd := intKind _ _) (by k_asm) (by k_mem) (by assumption) (intKind_is _ _ _ _) (by first | exact valueAt_add | assumption) ?_))
  k_with "m:my_outF" => first | (refine' OutF.head ?za_C20r34; (case za_C20r34 => first | assumption | k_all | walk_at "my_ne")) | (refine' OutF.tail ?za_C20r34 ?zb_C20r34; (case za_C20r34 => k_ne); (case zb_C20r34 => walk_at "my_outF"))
  k_with "m:my_strs" => first | assumption | exact StrsAre.nil | (refine StrsAre.cons _ _ ?_; walk_at "my_strs")
  k_with "m:call type:enumerate" => (k_here; (with_reducible rename UseTab _ _ _ _ _ _ _ => uT'); k_dflt (refine' enum_tab uT' ?zh_C20r36 ?zF_C20r36 ?zN_C20r36 ?zO_C20r36 ?zm_C20r36 ?zc_C20r36 ?zd_C20r36 ?zx_C20r36 ?zD_C20r36 ?zI_C20r36 ?zC_C20r36 ?_ ?_; (case zh_C20r36 => exact rfl); (case zF_C20r36 => k_asm); (case zN_C20r36 => k_asm)); (case zD_C20r36 => assumption); (case zO_C20r36 => walk_at "my_outF"); (case zI_C20r36 => assumption); k_dflt ((case zm_C20r36 => k_mem); (case zc_C20r36 => exact rfl); (case zd_C20r36 => exact rfl)); (case zx_C20r36 => k_dflt (walk_at "my_strs")); (case zC_C20r36 => k_dflt (walk_at "tab_rel")); rotate_left; ((intro o' ts' kvs' m' h' tk' hd' ht' hk' hoff' hc' F' N'); clear uT'; (have hK9' := tup_offK N' hd' ht'); (try dsimp only at hc'); (try dsimp only [List.cons_append] at N'); walk_at "tab_open"); rotate_right; ((intro I' T' pre' x' post' ti' tx' o' it' ie' ts' rest' kvs' m' h' tk' hKI' hKI2' hkl' hR' hrK' e' hT' hit' hie' hd' ht' hk' hoff' hc' F' N'); clear uT'; (try dsimp only at hc'); walk_at "tab_open"))
  k_with "m:exec For Tuple Call cons nil" => (k_here; (rename Fr _ _ _ _ => lF'); (with_unfolding_all refine' For_turns lF' ?_; k_whole))
  k_with "m:eval Name" => (k_here; k_dflt (refine' nameX_L ?zF_C20r38 ?zv_C20r38 ?_ ?zk_C20r38 ?zx_C20r38 ?zd_C20r38; (case zk_C20r38 => exact rfl); (case zx_C20r38 => with_unfolding_all rfl); (case zd_C20r38 => decide); (case zF_C20r38 => k_asm); k_whole); (case zv_C20r38 => walk_at "my_var"))
  k_with "m:my_updF" => first | (refine' UpdF.head ?za_C20r39; (case za_C20r39 => first | assumption | k_all | walk_at "my_ne")) | (refine' UpdF.tail ?za_C20r39 ?zb_C20r39; (case za_C20r39 => k_ne); (case zb_C20r39 => walk_at "my_updF"))
  k_with "m:setItem ref str" => (k_here; k_dflt (refine' kda_set (knd := PySem.strKind _ _) ?zF_C20r40 ?zN_C20r40 ?zU_C20r40 ?zd_C20r40 (strKind_is _ _ _ _) ?zz_C20r40 ?_; (case zF_C20r40 => k_asm); (case zN_C20r40 => k_asm); k_whole); (case zU_C20r40 => walk_at "my_updF"); (case zd_C20r40 => assumption); (case zz_C20r40 => (refine' known_small ?zq1_C20r40 ?zq2_C20r40 ?zq3_C20r40 ?zq4_C20r40; (case zq1_C20r40 => assumption); (case zq4_C20r40 => assumption); (case zq2_C20r40 => assumption); (case zq3_C20r40 => assumption))); intro h' o' F' N' hd'; (try dsimp only at N'))
  k_with "m:subscriptTail Name Constant ref int" => (k_here; k_dflt (refine kda_item (knd := intKind _ _) (by k_asm) (by k_mem) (by assumption) (intKind_is _ _ _ _) (by first | exact valueAt_add | assumption) ?_))
  k_with "m:call builtin:str.split" => (k_here; k_dflt (refine' split_strsK ?zF_C20r43 ?zN_C20r43 ?zy_C20r43 ?zs_C20r43 ?zz_C20r43 ?_; (case zF_C20r43 => k_asm); (case zN_C20r43 => k_asm); (case zy_C20r43 => rfl)); (case zs_C20r43 => assumption); (case zz_C20r43 => assumption); intro D' vs' h' k' F' N' l1 hs'; (try k_lt l1))
  k_with "m:binaryOp Add ref ref" => (k_here; k_dflt (refine' add_strsK ?zF_C20r44 ?zN_C20r44 ?za_C20r44 ?zi_C20r44 ?zb_C20r44 ?zj_C20r44 ?zz_C20r44 ?_; (case zF_C20r44 => k_asm); (case zN_C20r44 => k_asm); (case za_C20r44 => k_mem); (case zb_C20r44 => k_mem)); (case zi_C20r44 => assumption); (case zj_C20r44 => assumption); (case zz_C20r44 => walk_at "my_len"); intro D' ws' h' F' N' l1 hs'; (try k_lt l1))
  k_with "m:eval ListComp" => (k_here; k_dflt (refine LCg.ListComp_U (F₀ := by k_asm) (by with_unfolding_all rfl) (by decide) (by rfl) (by decide) (by rfl) ?_); k_dflt lcg_toSrc)
  k_with "m:FinE" => ((unfold LCg.FinE); intro D' h' tk' F' N' o1'; (try simp only [LCg.Off1, and_true] at o1'))
  k_with "m:my_len" => first | lia | (simp only [lateNames, List.length_map, List.length_range]; lia)
  k_with "m:setItem ref int" => (k_here; k_dflt (refine' kda_set (knd := PySem.intKind _ _) ?zF_C20r48 ?zN_C20r48 ?zU_C20r48 ?zd_C20r48 (intKind_is _ _ _ _) ?zz_C20r48 ?_; (case zF_C20r48 => k_asm); (case zN_C20r48 => k_asm); k_whole); (case zU_C20r48 => walk_at "my_updF"); (case zd_C20r48 => assumption); (case zz_C20r48 => (rw [sizeLine_eq]; lia)); intro h' o' F' N' hd'; (try dsimp only at N'))
  k_with "m:CompSrc" => (k_here; (with_reducible rename UseComp _ _ => uC'); k_dflt (refine LCg.CompSrc.range (by rfl) (by k_asm) (by k_asm) (by assumption) (by first | decide | rfl) (by first | rfl | decide) (by first | size_fits | exact Nat.le_of_ble_eq_true rfl) (fun g' => comp_strs uC' ?_ ?_)); (rotate_left; (intro ys' hs'; clear uC'); rotate_right; (intro i' ys' v' I' oI' C' oC' D' m' h' tk' E' hi' hv' hC' hx' F' N' off' ne'; clear uC'; (obtain ⟨t9', hv9'⟩ := hv'); subst hv9')))
  k_with "m:CompEnd" => (k_dflt (refine' compEnd_strs ?zF_C20r50 ?zN_C20r50 ?zoff_C20r50 ?zsub_C20r50 ?zS_C20r50 ?zr_C20r50; (case zF_C20r50 => k_asm); (case zN_C20r50 => k_asm); (case zr_C20r50 => exact rfl); (case zS_C20r50 => exact trivial)); (case zoff_C20r50 => assumption); (case zsub_C20r50 => walk_at "my_sub"))
  k_with "m:tab_row" => (intro i' v' hv'; (rcases i' with _ | _ | _ | _ | i'); (all_goals (first | (have hv9' := Option.some.inj hv'; subst hv9'; exact ⟨_, _, _, _, _, _, _, _, rfl, by k_mem, rfl, rfl, ⟨rfl, by decide +kernel, by decide⟩⟩) | (cases hv'; done) | (simp at hv'; done))))
  k_with "m:tab_base" => exact .cons (by k_mem) ⟨rfl, _, _, _, _, rfl⟩ (.cons (by k_mem) ⟨rfl, _, _, _, _, rfl⟩ (.cons (by k_mem) ⟨rfl, _, _, _, _, rfl⟩ .nil))
  k_with "m:pyIter ref" => (k_here; k_dflt (refine' outer_tab2 ?zh_C20r53 ?zF_C20r53 ?zN_C20r53 ?zmK_C20r53 ?zmS_C20r53 ?zcl_C20r53 ?zdK_C20r53 ?zdS_C20r53 ?zO1_C20r53 ?zO2_C20r53 ?zO3_C20r53 ?zm_C20r53 ?zc_C20r53 ?zd_C20r53 ?zrow_C20r53 ?zlen_C20r53 ?zcell_C20r53 ?zk_C20r53 ?_ ?_; (case zh_C20r53 => exact rfl); (case zF_C20r53 => k_asm); (case zN_C20r53 => k_asm); (case zmK_C20r53 => exact rfl); (case zmS_C20r53 => exact rfl); (case zcl_C20r53 => exact rfl)); (case zdK_C20r53 => assumption); (case zdS_C20r53 => assumption); (case zO1_C20r53 => walk_at "my_outF"); (case zO2_C20r53 => walk_at "my_outF"); (case zO3_C20r53 => walk_at "my_outF"); k_dflt ((case zm_C20r53 => k_mem); (case zc_C20r53 => exact rfl); (case zd_C20r53 => exact rfl); (case zrow_C20r53 => walk_at "tab_row"); (case zlen_C20r53 => exact rfl)); (case zcell_C20r53 => assumption); (case zk_C20r53 => k_dflt (walk_at "tab_base")); rotate_left; (intro oK' oS' oc' rest' kvs' skv' v' m' h' tk' hrS' hrK' hrc' hcell' hdK' hdS' hk' hz' hmK' hmS' hsk' hne' uT2' uT1' uC' n1' n2' n3' n4' n5' n6' F' N'); rotate_right; (intro I' T' i' size' f' t1' t2' t3' oK' oS' oc' it' rest' kvs' skv' v' m' h' tk' hSI' hKI' hcI' hb' hrI' hrS' hrK' hrc' hrow' hsp' hfl' hT' hit' hcell' hdK' hdS' hk' hz' hmK' hmS' F' N' hel' hes' hnd' hgl' hle' hsk' hne' uC' uT'))
  k_with "m:newTuple" => (k_here; k_dflt (refine' kup_newTuple ?zF_C20r54 ?zN_C20r54 ?_ ?zz_C20r54; (case zF_C20r54 => k_asm); (case zN_C20r54 => k_asm); (case zz_C20r54 => kmk_size)); intro D' h' F' N' l1; (try k_lt l1))
  k_with "m:storeName" => (k_here; k_dflt (refine' storeX_C ?zF_C20r55 ?zN_C20r55 ?zc_C20r55 ?zU_C20r55 ?zd_C20r55 ?_ ?zk_C20r55 ?zx_C20r55; (case zk_C20r55 => exact rfl); (case zx_C20r55 => with_unfolding_all rfl); (case zF_C20r55 => k_asm); (case zN_C20r55 => k_asm); (case zc_C20r55 => exact rfl); k_whole); (case zU_C20r55 => walk_at "my_updF"); (case zd_C20r55 => assumption); intro h' o' F' N' hd'; (try dsimp only at N'))
  k_with "m:exec For Name Call cons nil" => (k_here; (rename Fr _ _ _ _ => lF'); (with_unfolding_all refine' For_turns lF' ?_; k_whole))
  k_with "m:pyIter ref" => (k_here; k_dflt (refine' iter_nums2 (n := 20) ?zh_C20r58 ?zF_C20r58 ?zN_C20r58 ?zr_C20r58 ?zsm_C20r58 ?zn_C20r58 ?zle_C20r58 ?zmS_C20r58 ?zmO_C20r58 ?zmT_C20r58 ?zcN_C20r58 ?zcS_C20r58 ?zO1_C20r58 ?zO2_C20r58 ?zO3_C20r58 ?zO4_C20r58 ?zO5_C20r58 ?zO6_C20r58 ?zdN_C20r58 ?zdS_C20r58 ?_ ?_; (case zh_C20r58 => exact rfl); (case zF_C20r58 => k_asm); (case zN_C20r58 => k_asm)); (case zr_C20r58 => assumption); (case zle_C20r58 => assumption); k_dflt ((case zsm_C20r58 => decide); (case zn_C20r58 => decide +kernel); (case zmS_C20r58 => exact rfl); (case zmO_C20r58 => exact rfl); (case zmT_C20r58 => exact rfl); (case zcN_C20r58 => exact rfl); (case zcS_C20r58 => exact rfl)); (case zO1_C20r58 => walk_at "my_outF"); (case zO2_C20r58 => walk_at "my_outF"); (case zO3_C20r58 => walk_at "my_outF"); (case zO4_C20r58 => walk_at "my_outF"); (case zO5_C20r58 => walk_at "my_outF"); (case zO6_C20r58 => walk_at "my_outF"); (case zdN_C20r58 => assumption); (case zdS_C20r58 => assumption); rotate_left; (intro ps' oL' oN' oS' vN' vS' tl' m' h' tk' far' hdl' hdn' hds' hrt' q1' q2' q3' q4' q5' q6' hC' F' N'; (unfold Far at far'); k_dflt (obtain ⟨hc1', hc2', hc3'⟩ := hC')); rotate_right; (intro I' i' t' it' ps' oL' oN' oS' vN' vS' tl' m' h' tk' hI' far' uI' hi' hit' hdl' hdn' hds' htab' hrt' q0' q1' q2' q3' q4' q5' q6' hC' F' N'; (unfold Far at far'); k_dflt (obtain ⟨hc1', hc2', hc3'⟩ := hC')))
  k_with "m:pyIter ref" => (k_here; (with_reducible rename UseIt _ _ => uI'); k_dflt (refine' iter_sizes2 (ns := [8, 16, 32, 64, 24, 128]) ?zT_C20r59 ?zh_C20r59 ?zF_C20r59 ?zN_C20r59 ?zc_C20r59 ?zd_C20r59 ?zi_C20r59 ?zle_C20r59 ?zmS_C20r59 ?zmO_C20r59 ?zmT_C20r59 ?zmI_C20r59 ?zcN_C20r59 ?zcS_C20r59 uI' ?zO1_C20r59 ?zO2_C20r59 ?zO3_C20r59 ?zO4_C20r59 ?zO5_C20r59 ?zO6_C20r59 ?zO7_C20r59 ?zO8_C20r59 ?zdL_C20r59 ?zdN_C20r59 ?zdS_C20r59 ?_ ?_; (case zh_C20r59 => exact rfl); (case zF_C20r59 => k_asm); (case zN_C20r59 => k_asm)); (case zT_C20r59 => assumption); (case zle_C20r59 => assumption); k_dflt ((case zmS_C20r59 => walk_at "my_var"); (case zmO_C20r59 => walk_at "my_var"); (case zmT_C20r59 => walk_at "my_var"); (case zmI_C20r59 => walk_at "my_var"); (case zcN_C20r59 => exact rfl); (case zcS_C20r59 => exact rfl)); (case zO1_C20r59 => walk_at "my_outF"); (case zO2_C20r59 => walk_at "my_outF"); (case zO3_C20r59 => walk_at "my_outF"); (case zO4_C20r59 => walk_at "my_outF"); (case zO5_C20r59 => walk_at "my_outF"); (case zO6_C20r59 => walk_at "my_outF"); (case zO7_C20r59 => walk_at "my_outF"); (case zO8_C20r59 => walk_at "my_outF"); k_dflt ((case zc_C20r59 => exact rfl); (case zd_C20r59 => exact rfl); (case zi_C20r59 => exact .cons _ _ (.cons _ _ (.cons _ _ (.cons _ _ (.cons _ _ (.cons _ _ .nil))))))); (case zdL_C20r59 => assumption); (case zdN_C20r59 => assumption); (case zdS_C20r59 => assumption); rotate_left; (intro ps' oL' oN' oS' vS' tl' m' h' tk' hdl' hdn' hds' htab' hrt' q1' q2' q3' q4' q5' q6' q7' hc1' hc2' hc3' hc4' F' N'); rotate_right; (intro I' i' z' t' it' ps' oL' oN' oS' vS' tl' m' h' tk' hI' hz' hit' hdl' hdn' hds' htab' hrt' q0' q1' q2' q3' q4' q5' q6' q7' q8' hc1' hc2' hc3' hc4' F' N'))
  k_with "m:my_ne" => with_reducible (first | assumption | exact ne_app (by assumption) (by assumption) | exact ne_of_lt_all (by assumption) (by lia) | exact List.forall_mem_nil _ | (refine List.forall_mem_cons.mpr ⟨by (dsimp only; k_ne), ?_⟩; walk_at "my_ne") | exact grow_ne2 (by assumption) (by k_dflt k_mem) (by walk_at "my_ne"))
  k_with "m:my_tail" => first | exact TailF.nil | (refine' TailF.cons ?ztl_C20r61; (case ztl_C20r61 => walk_at "my_tail"))
  k_with "m:my_mem" => first | assumption | (refine List.Mem.tail _ ?_; walk_at "my_mem")
  k_with "m:eval Lambda" => (k_here; k_dflt (refine' kla_eval ?zd0_C20r63 ?_; (case zd0_C20r63 => exact rfl)); k_dflt (refine' lamAny ?zk_C20r63 ?zF_C20r63 ?zN_C20r63 ?zT_C20r63 ?zC_C20r63 ?zcd_C20r63 ?zO_C20r63 ?zTl_C20r63 ?zcl_C20r63 ?_; (case zF_C20r63 => k_asm); (case zN_C20r63 => k_asm); (case zT_C20r63 => k_asm)); (case zk_C20r63 => assumption); k_dflt ((case zcd_C20r63 => exact rfl); (case zC_C20r63 => assumption); (case zcl_C20r63 => exact rfl)); (case zO_C20r63 => walk_at "my_outF"); (case zTl_C20r63 => walk_at "my_tail"); intro f' c' oc' vs' t' ct' h' tk' ps' tl' F' N' htab' hcm' hcd' hcv' hlt' hts' hgr'; (try dsimp only [id_eq] at N'); (try k_lt hlt'))
  k_with "m:call ref" => (k_here; (with_reducible show wpAny _ _ (call (Value.ref 254) [Value.ref _]) _ _ _); k_dflt (first | (refine' lam_gpr ?zm_C20r64 ?zcm_C20r64 ?zcd_C20r64 ?zcv_C20r64 ?zcN_C20r64 ?zNm_C20r64 ?zdN_C20r64 ?zcS_C20r64 ?zSm_C20r64 ?zdS_C20r64 ?zAsk_C20r64 ?zle_C20r64 ?zlk_C20r64 ?zO_C20r64 ?zd0_C20r64 ?zdd_C20r64 ?zF_C20r64 ?zX_C20r64 ?zT_C20r64 ?zN_C20r64 ?zA_C20r64 ?zf_C20r64 ?zke_C20r64 ?zd_C20r64 ?zu_C20r64 ?_; (case zle_C20r64 => assumption); (case zlk_C20r64 => assumption); (case zF_C20r64 => k_asm); (case zX_C20r64 => k_asm); (case zT_C20r64 => assumption); (case zN_C20r64 => k_asm); (case zO_C20r64 => walk_at "my_outF"); (case zm_C20r64 => k_mem); (case zcm_C20r64 => walk_at "my_mem"); (case zcd_C20r64 => assumption); (case zcv_C20r64 => assumption); (case zcN_C20r64 => exact rfl); (case zNm_C20r64 => k_mem); (case zdN_C20r64 => assumption); (case zcS_C20r64 => exact rfl); (case zSm_C20r64 => k_mem); (case zdS_C20r64 => assumption); (case zd0_C20r64 => assumption); (case zdd_C20r64 => assumption); (case zA_C20r64 => exact rfl); (case zf_C20r64 => exact rfl); (case zke_C20r64 => exact rfl); (case zd_C20r64 => ktr_room); (case zu_C20r64 => ktr_units); (case zAsk_C20r64 => exact ask_gpr _ (by assumption) (by assumption) (by assumption) (by assumption) (by lia) (by lia))) | (refine' lam_xmm ?zm_C20r64 ?zcm_C20r64 ?zcd_C20r64 ?zcv_C20r64 ?zcN_C20r64 ?zNm_C20r64 ?zdN_C20r64 ?zAsk_C20r64 ?zle_C20r64 ?zlk_C20r64 ?zO_C20r64 ?zd0_C20r64 ?zdd_C20r64 ?zF_C20r64 ?zX_C20r64 ?zT_C20r64 ?zN_C20r64 ?zA_C20r64 ?zf_C20r64 ?zke_C20r64 ?zd_C20r64 ?zu_C20r64 ?_; (case zle_C20r64 => assumption); (case zlk_C20r64 => assumption); (case zF_C20r64 => k_asm); (case zX_C20r64 => k_asm); (case zT_C20r64 => assumption); (case zN_C20r64 => k_asm); (case zO_C20r64 => walk_at "my_outF"); (case zm_C20r64 => k_mem); (case zcm_C20r64 => walk_at "my_mem"); (case zcd_C20r64 => assumption); (case zcv_C20r64 => assumption); (case zcN_C20r64 => exact rfl); (case zNm_C20r64 => k_mem); (case zdN_C20r64 => assumption); (case zd0_C20r64 => assumption); (case zdd_C20r64 => assumption); (case zA_C20r64 => exact rfl); (case zf_C20r64 => exact rfl); (case zke_C20r64 => exact rfl); (case zd_C20r64 => ktr_room); (case zu_C20r64 => ktr_units); (case zAsk_C20r64 => exact ask_xmm _ (by assumption) (by assumption) (by assumption) (by lia) (by lia))) | (refine' lam_high ?zm_C20r64 ?zcm_C20r64 ?zcd_C20r64 ?zcv_C20r64 ?zcN_C20r64 ?zNm_C20r64 ?zdN_C20r64 ?zAsk_C20r64 ?zle_C20r64 ?zlk_C20r64 ?zO_C20r64 ?zd0_C20r64 ?zdd_C20r64 ?zF_C20r64 ?zX_C20r64 ?zT_C20r64 ?zN_C20r64 ?zA_C20r64 ?zf_C20r64 ?zke_C20r64 ?zd_C20r64 ?zu_C20r64 ?_; (case zle_C20r64 => assumption); (case zlk_C20r64 => assumption); (case zF_C20r64 => k_asm); (case zX_C20r64 => k_asm); (case zT_C20r64 => assumption); (case zN_C20r64 => k_asm); (case zO_C20r64 => walk_at "my_outF"); (case zm_C20r64 => k_mem); (case zcm_C20r64 => walk_at "my_mem"); (case zcd_C20r64 => assumption); (case zcv_C20r64 => assumption); (case zcN_C20r64 => exact rfl); (case zNm_C20r64 => k_mem); (case zdN_C20r64 => assumption); (case zd0_C20r64 => assumption); (case zdd_C20r64 => assumption); (case zA_C20r64 => exact rfl); (case zf_C20r64 => exact rfl); (case zke_C20r64 => exact rfl); (case zd_C20r64 => ktr_room); (case zu_C20r64 => ktr_units); (case zAsk_C20r64 => exact ask_high _ (by assumption) (by assumption) (by assumption) (by lia) (by lia))) | (refine' lam_oct_true ?zm_C20r64 ?zcm_C20r64 ?zcd_C20r64 ?zcv_C20r64 ?zcN_C20r64 ?zNm_C20r64 ?zdN_C20r64 ?zAsk_C20r64 ?zle_C20r64 ?zlk_C20r64 ?zO_C20r64 ?zd0_C20r64 ?zdd_C20r64 ?zF_C20r64 ?zX_C20r64 ?zT_C20r64 ?zN_C20r64 ?zA_C20r64 ?zf_C20r64 ?zke_C20r64 ?zd_C20r64 ?zu_C20r64 ?_; (case zle_C20r64 => assumption); (case zlk_C20r64 => assumption); (case zF_C20r64 => k_asm); (case zX_C20r64 => k_asm); (case zT_C20r64 => assumption); (case zN_C20r64 => k_asm); (case zO_C20r64 => walk_at "my_outF"); (case zm_C20r64 => k_mem); (case zcm_C20r64 => walk_at "my_mem"); (case zcd_C20r64 => assumption); (case zcv_C20r64 => assumption); (case zcN_C20r64 => exact rfl); (case zNm_C20r64 => k_mem); (case zdN_C20r64 => assumption); (case zd0_C20r64 => assumption); (case zdd_C20r64 => assumption); (case zA_C20r64 => exact rfl); (case zf_C20r64 => exact rfl); (case zke_C20r64 => exact rfl); (case zd_C20r64 => ktr_room); (case zu_C20r64 => ktr_units); (case zAsk_C20r64 => exact ask_oct_true _ (by assumption) (by assumption) (by assumption) (by lia) (by lia))) | (refine' lam_oct_false ?zm_C20r64 ?zcm_C20r64 ?zcd_C20r64 ?zcv_C20r64 ?zcN_C20r64 ?zNm_C20r64 ?zdN_C20r64 ?zAsk_C20r64 ?zle_C20r64 ?zlk_C20r64 ?zO_C20r64 ?zd0_C20r64 ?zdd_C20r64 ?zF_C20r64 ?zX_C20r64 ?zT_C20r64 ?zN_C20r64 ?zA_C20r64 ?zf_C20r64 ?zke_C20r64 ?zd_C20r64 ?zu_C20r64 ?_; (case zle_C20r64 => assumption); (case zlk_C20r64 => assumption); (case zF_C20r64 => k_asm); (case zX_C20r64 => k_asm); (case zT_C20r64 => assumption); (case zN_C20r64 => k_asm); (case zO_C20r64 => walk_at "my_outF"); (case zm_C20r64 => k_mem); (case zcm_C20r64 => walk_at "my_mem"); (case zcd_C20r64 => assumption); (case zcv_C20r64 => assumption); (case zcN_C20r64 => exact rfl); (case zNm_C20r64 => k_mem); (case zdN_C20r64 => assumption); (case zd0_C20r64 => assumption); (case zdd_C20r64 => assumption); (case zA_C20r64 => exact rfl); (case zf_C20r64 => exact rfl); (case zke_C20r64 => exact rfl); (case zd_C20r64 => ktr_room); (case zu_C20r64 => ktr_units); (case zAsk_C20r64 => exact ask_oct_false _ (by assumption) (by assumption) (by assumption) (by lia) (by lia)))); intro v' oL' h' tk' hP' hd' F' N')
  k_with "m:my_ask" => (intro p9 loose9 mean9 mg9 mb9 dp9 un9 gd9 outer9 base9 g9 s9 R9 hus9 hB9 hX9 hT9 hg9 hz9 hd9 hu9 hret9; (have a1 := hus9 _ (.head _)); (have a2 := hus9 _ (.tail _ (.head _))); (have a3 := hus9 _ (.tail _ (.tail _ (.head _)))); (try (have a4 := hus9 _ (.tail _ (.tail _ (.tail _ (.head _)))))); clear hus9; (refine' enterL hT9 hg9 hz9 a1 ⟨_, _, _, _, rfl, a2, ?zq1_C20r65, ?zq2_C20r65⟩ ?zroom_C20r65 ?zbind_C20r65 ?zloc_C20r65 ?_ ?zco_C20r65 ?zgen_C20r65 ?zk_C20r65 ?zcell_C20r65; (case zq1_C20r65 => assumption); (case zq2_C20r65 => assumption); (case zroom_C20r65 => lia); (case zbind_C20r65 => exact rfl); (case zloc_C20r65 => exact locs rfl); (case zco_C20r65 => exact rfl); (case zgen_C20r65 => exact rfl); (case zk_C20r65 => exact rfl); (case zcell_C20r65 => decide)); k_whole; intro L' h' F' N'; (try dsimp only); k_steps; all_goals (try dsimp only); all_goals first | exact hret9.1 (by assumption) _ [_, _] _ _ (Fr.keep (by assumption)) (new2 (by assumption)) (regOut_of rfl (by assumption)) | exact hret9.2 (by assumption) _ _ _ _ _ (raisedS_nil (by assumption)) (raisedK_nil (by assumption)) (by assumption))
  k_with "m:eval Name" => (k_here; k_dflt (refine' nameX_G ?zF_C20r66 ?zc_C20r66 ?zv_C20r66 ?zd_C20r66 ?_ ?zk_C20r66 ?zx_C20r66; (case zk_C20r66 => exact rfl); (case zx_C20r66 => with_unfolding_all rfl); (case zF_C20r66 => k_asm); (case zc_C20r66 => exact rfl); k_whole); (case zv_C20r66 => assumption); (case zd_C20r66 => assumption))
  k_with "m:call ref" => (k_here; (with_reducible show wpAny _ _ (call (Value.ref 167) [Value.int _ _, Value.int _ _]) _ _ _); k_dflt (refine' callMayReg (gpr_ok _ _ _ _ _ ?zh_C20r67 ?zh2_C20r67) ?zB_C20r67 ?zF_C20r67 ?zX_C20r67 ?zN_C20r67 ?zT_C20r67 ?zA_C20r67 ?zf_C20r67 ?zk_C20r67 ?zd_C20r67 ?zu_C20r67 ?_ ?_; (case zF_C20r67 => k_asm); (case zB_C20r67 => assumption); (case zX_C20r67 => k_asm); (case zN_C20r67 => k_asm); (case zT_C20r67 => assumption); (case zA_C20r67 => exact rfl); (case zf_C20r67 => exact rfl); (case zk_C20r67 => exact rfl); (case zd_C20r67 => ktr_room); (case zu_C20r67 => ktr_units); (case zh_C20r67 => lia); (case zh2_C20r67 => lia); k_whole; (all_goals first | (intro hz x' d' u1 u2 u3 u4 u5 u6 u7 u8 h' tk' hx' F' N' l1 l2; (try dsimp only [AllNe] at l1 l2); (repeat (have := And.left l1; replace l1 := And.right l1)); (repeat (have := And.left l2; replace l2 := And.right l2))) | (intro hz e' t' ws' h' tk' R' RK' U'))))
  k_with "m:call ref" => (k_here; (with_reducible show wpAny _ _ (call (Value.ref 174) [Value.int _ _]) _ _ _); k_dflt (refine' callMayReg (high_ok _ _ _ ?zh_C20r68 ?zh2_C20r68) ?zB_C20r68 ?zF_C20r68 ?zX_C20r68 ?zN_C20r68 ?zT_C20r68 ?zA_C20r68 ?zf_C20r68 ?zk_C20r68 ?zd_C20r68 ?zu_C20r68 ?_ ?_; (case zF_C20r68 => k_asm); (case zB_C20r68 => assumption); (case zX_C20r68 => k_asm); (case zN_C20r68 => k_asm); (case zT_C20r68 => assumption); (case zA_C20r68 => exact rfl); (case zf_C20r68 => exact rfl); (case zk_C20r68 => exact rfl); (case zd_C20r68 => ktr_room); (case zu_C20r68 => ktr_units); (case zh_C20r68 => lia); (case zh2_C20r68 => lia); k_whole; (all_goals first | (intro hz x' d' u1 u2 u3 u4 u5 u6 u7 u8 h' tk' hx' F' N' l1 l2; (try dsimp only [AllNe] at l1 l2); (repeat (have := And.left l1; replace l1 := And.right l1)); (repeat (have := And.left l2; replace l2 := And.right l2))) | (intro hz e' t' ws' h' tk' R' RK' U'))))
  k_with "m:call ref" => (k_here; (with_reducible show wpAny _ _ (call (Value.ref 188) [Value.int _ _]) _ _ _); k_dflt (refine' callMayReg (xmm_ok _ _ _ ?zh_C20r69 ?zh2_C20r69) ?zB_C20r69 ?zF_C20r69 ?zX_C20r69 ?zN_C20r69 ?zT_C20r69 ?zA_C20r69 ?zf_C20r69 ?zk_C20r69 ?zd_C20r69 ?zu_C20r69 ?_ ?_; (case zF_C20r69 => k_asm); (case zB_C20r69 => assumption); (case zX_C20r69 => k_asm); (case zN_C20r69 => k_asm); (case zT_C20r69 => assumption); (case zA_C20r69 => exact rfl); (case zf_C20r69 => exact rfl); (case zk_C20r69 => exact rfl); (case zd_C20r69 => ktr_room); (case zu_C20r69 => ktr_units); (case zh_C20r69 => lia); (case zh2_C20r69 => lia); k_whole; (all_goals first | (intro hz x' d' u1 u2 u3 u4 u5 u6 u7 u8 h' tk' hx' F' N' l1 l2; (try dsimp only [AllNe] at l1 l2); (repeat (have := And.left l1; replace l1 := And.right l1)); (repeat (have := And.left l2; replace l2 := And.right l2))) | (intro hz e' t' ws' h' tk' R' RK' U'))))
  k_with "m:leaving ref" => (k_here; k_dflt (refine' leave_onE ?zK_C20r70 ?zF_C20r70 ?zR_C20r70 ?zU_C20r70 ?_ ?zf_C20r70; (case zf_C20r70 => exact rfl); (case zR_C20r70 => assumption); (case zK_C20r70 => assumption); (case zF_C20r70 => k_asm); (case zU_C20r70 => assumption); k_whole); intro h' R' RK' U'; (try dsimp only at R' RK' U' ⊢))
  k_with "m:call ref" => (k_here; (with_reducible show wpAny _ _ (call (Value.ref 181) [Value.int _ _, Value.bool _]) _ _ _); k_dflt (refine' callMayReg (octet_ok _ _ _ _ ?zh_C20r71 ?zh2_C20r71) ?zB_C20r71 ?zF_C20r71 ?zX_C20r71 ?zN_C20r71 ?zT_C20r71 ?zA_C20r71 ?zf_C20r71 ?zk_C20r71 ?zd_C20r71 ?zu_C20r71 ?_ ?_; (case zF_C20r71 => k_asm); (case zB_C20r71 => assumption); (case zX_C20r71 => k_asm); (case zN_C20r71 => k_asm); (case zT_C20r71 => assumption); (case zA_C20r71 => exact rfl); (case zf_C20r71 => exact rfl); (case zk_C20r71 => exact rfl); (case zd_C20r71 => ktr_room); (case zu_C20r71 => ktr_units); (case zh_C20r71 => lia); (case zh2_C20r71 => lia); k_whole; (all_goals first | (intro hz x' d' u1 u2 u3 u4 u5 u6 u7 u8 h' tk' hx' F' N' l1 l2; (try dsimp only [AllNe] at l1 l2); (repeat (have := And.left l1; replace l1 := And.right l1)); (repeat (have := And.left l2; replace l2 := And.right l2))) | (intro hz e' t' ws' h' tk' R' RK' U'))))
  k_with "m:newTuple" => (k_here; k_dflt (refine' kup_newTuple ?zF_C20r72 ?zN_C20r72 ?_ ?zz_C20r72; (case zF_C20r72 => k_asm); (case zN_C20r72 => k_asm); (case zz_C20r72 => kmk_size)); intro D' h' F' N' l1; (try (have l2' := lt_tail (by assumption) l1 (by walk_at "my_sub"))); (try k_lt l1))
  k_with "m:my_chain" => with_reducible (first | assumption | (refine List.mem_cons_of_mem _ ?_; walk_at "my_chain") | (refine List.mem_append_left _ ?_; walk_at "my_chain") | (refine chain9 (by assumption) ?_; walk_at "my_chain"))
  k_with "m:my_rest" => (intro p9 hp9; (repeat (with_reducible refine List.mem_cons_of_mem _ ?_)); walk_at "my_chain")
  k_with "m:subscriptTail Name Name ref int" => (k_here; k_dflt (refine' item_rest ?zl_C20r75 ?zi_C20r75 ?zlen_C20r75 ?zN_C20r75 ?zsub_C20r75 ?z0_C20r75 ?zk_C20r75 ?_ ?zs_C20r75 ?zg_C20r75; (case zN_C20r75 => k_asm); (case zs_C20r75 => with_unfolding_all rfl); (case zg_C20r75 => (intro _; with_unfolding_all rfl))); (case zl_C20r75 => assumption); (case zi_C20r75 => assumption); (case zlen_C20r75 => first | assumption | exact xmm_len | exact gpr_len (by decide)); (case zsub_C20r75 => walk_at "my_rest"); (case z0_C20r75 => lia); (case zk_C20r75 => lia); intro t')
  k_with "m:subscriptTail Name Name ref int" => (k_here; k_dflt (refine' size_step ?zN_C20r76 ?zm_C20r76 ?zd_C20r76 ?zz_C20r76 ?za_C20r76 ?_ ?zs_C20r76 ?zg_C20r76; (case zN_C20r76 => k_asm); (case zm_C20r76 => k_mem); (case zs_C20r76 => with_unfolding_all rfl); (case zg_C20r76 => (intro _; with_unfolding_all rfl))); (case zd_C20r76 => assumption); (case zz_C20r76 => assumption); (case za_C20r76 => assumption); intro D' vs' n' hmD' hsD' hlD')
  k_with "m:subscriptTail Name BinOp ref int" => (k_here; k_dflt (refine' item_tops ?zN_C20r77 ?zl_C20r77 ?z0_C20r77 ?zk_C20r77 ?_ ?zs_C20r77 ?zg_C20r77; (case zN_C20r77 => k_asm); (case zl_C20r77 => k_mem); (case zs_C20r77 => with_unfolding_all rfl); (case zg_C20r77 => (intro _; with_unfolding_all rfl))); (case z0_C20r77 => lia); (case zk_C20r77 => lia); intro t')
  k_with "m:my_nok" => (intro hq9; first | (obtain ⟨h91, h92, h93⟩ := hq9; first | lia | exact h91 (early_none (by assumption))) | (obtain ⟨h92, h93⟩ := hq9; lia))
  k_with "m:my_ok" => first | exact ⟨early_some (by assumption), by lia, by lia⟩ | exact ⟨by lia, by lia⟩
  k_with "m:my_nm" => first | exact name_at (by assumption) (by lia) (by lia) | exact xmm_at (by lia) (by lia) | exact high_at | exact oct_t (by lia) (by lia) | exact oct_f (by lia) (by lia) (by lia) | exact oct_h (by lia) (by lia)
  k_with "m:compareOp NotEq" => (k_here; k_dflt (first | (refine' cmp_none ?zh_C20r81 ?zn_C20r81 ?_; (case zh_C20r81 => assumption); (case zn_C20r81 => walk_at "my_nok")) | (refine' cmp_str ?zh_C20r81 ?zo_C20r81 ?ze_C20r81 ?_; (case zh_C20r81 => assumption); (case zo_C20r81 => walk_at "my_ok"); (case ze_C20r81 => walk_at "my_nm"))))
  k_with "m:UnrEndW" => ((with_reducible show UnrEndW _ _ _ _ (NumJ _ _ _ _ _ _ [_, _, _, _] _ _ _ _) _); k_dflt (refine' sizeEnd ?zF_C20r82 ?zN_C20r82 ?z4_C20r82 ?z1_C20r82 ?z2_C20r82 ?z3_C20r82 ?zsub_C20r82 ?zI_C20r82 ?z5_C20r82 ?k1_C20r82 ?k2_C20r82 ?k3_C20r82 ?k4_C20r82 ?k5_C20r82 ?k6_C20r82 ?k7_C20r82 ?k8_C20r82 ?k9_C20r82 ?c1_C20r82 ?c2_C20r82 ?c3_C20r82 ?c4_C20r82; (case zF_C20r82 => k_asm); (case zN_C20r82 => k_asm)); (case z4_C20r82 => assumption); (case zI_C20r82 => assumption); (case zsub_C20r82 => k_dflt (walk_at "my_sub")); (case z1_C20r82 => assumption); (case z2_C20r82 => assumption); (case z3_C20r82 => assumption); (case z5_C20r82 => walk_at "my_rest"); (case k1_C20r82 => walk_at "my_ne"); (case k2_C20r82 => walk_at "my_ne"); (case k3_C20r82 => walk_at "my_ne"); (case k4_C20r82 => walk_at "my_ne"); (case k5_C20r82 => walk_at "my_ne"); (case k6_C20r82 => walk_at "my_ne"); (case k7_C20r82 => walk_at "my_ne"); (case k8_C20r82 => walk_at "my_ne"); (case k9_C20r82 => walk_at "my_ne"); (case c1_C20r82 => assumption); (case c2_C20r82 => assumption); (case c3_C20r82 => assumption); (case c4_C20r82 => assumption))
  k_with "m:UnrEndW" => ((with_reducible show UnrEndW _ _ _ _ (NumJ _ _ _ _ _ _ [_, _] _ _ _ _) _); k_dflt (refine' numEnd2 ?zF_C20r83 ?zN_C20r83 ?z4_C20r83 ?z1_C20r83 ?z2_C20r83 ?z3_C20r83 ?zsub_C20r83 ?zI_C20r83 ?z5_C20r83 ?k1_C20r83 ?k2_C20r83 ?k3_C20r83 ?k4_C20r83 ?k5_C20r83 ?k6_C20r83 ?k7_C20r83 ?c7_C20r83; (case zF_C20r83 => k_asm); (case zN_C20r83 => k_asm)); (case z4_C20r83 => assumption); (case zI_C20r83 => assumption); (case zsub_C20r83 => k_dflt (walk_at "my_sub")); (case z1_C20r83 => assumption); (case z2_C20r83 => assumption); (case z3_C20r83 => assumption); (case z5_C20r83 => walk_at "my_rest"); (case k1_C20r83 => walk_at "my_ne"); (case k2_C20r83 => walk_at "my_ne"); (case k3_C20r83 => walk_at "my_ne"); (case k4_C20r83 => walk_at "my_ne"); (case k5_C20r83 => walk_at "my_ne"); (case k6_C20r83 => walk_at "my_ne"); (case k7_C20r83 => walk_at "my_ne"); (case c7_C20r83 => exact ⟨by assumption, by assumption, by assumption⟩))
  k_with "m:my_mem2" => first | exact List.Mem.head _ | (refine List.Mem.tail _ ?_; walk_at "my_mem2") | (refine List.mem_append_right _ ?_; walk_at "my_mem2")
  k_with "m:eval ListComp" => (k_here; k_dflt (refine comp_evalU (by k_asm) (by with_unfolding_all rfl) (by decide) (by rfl) (by decide) (by rfl) ?_))
  k_with "m:exec Assign cons ListComp" => (k_here; k_dflt (refine comp_assU (by k_asm) (by rfl) (by with_unfolding_all rfl) (by with_unfolding_all rfl) (by decide) (by rfl) (by decide) (by rfl) (by rfl) (by rfl) ?_))
  k_with "m:SrcU" => (k_here; (with_reducible show SrcU _ _ _ _ _ _ _ (Expr.ListComp _ _ _ _) _ _ _ _ _ _); k_dflt (refine SrcOf.tup (by rfl) (by k_asm) (by k_asm) (.inr ⟨_, by k_mem, rfl, _, rfl⟩) (by rw [sizeLine_eq]; exact Nat.le_of_ble_eq_true rfl) (fun g' => ?_); refine comp_tolds (zs := [8, 16, 32, 64, 128]) (.cons _ _ (.cons _ _ (.cons _ _ (.cons _ _ (.cons _ _ .nil))))) ?_ ?_); (rotate_left; (intro ys' rs' ht'; (try simp only [List.cons_append, List.nil_append])); rotate_right; (intro z' t' I' oI' C' oC' D' ys' rs' m' h' tk' E' hz' hC' hx' F' N' off' ne'; (try simp only [List.cons_append, List.nil_append] at N' off'))))
  k_with "m:SrcU" => (k_here; (with_reducible show SrcU _ _ _ _ _ _ _ (Expr.Call (Expr.Attribute _ _ _) _ _ _) _ _ _ _ _ _); (with_reducible rename RegsAre _ _ _ _ => hr9); k_dflt (refine SrcOf.list (by rfl) (by k_asm) (by k_asm) (by k_mem) (all_fits hr9 (by assumption)) (fun g' => ?_); refine comp_told hr9 (fun p hp => List.mem_cons_of_mem _ (List.mem_append_left _ hp)) (by assumption) ?_ ?_); (rotate_left; (intro ys' hs'); rotate_right; (intro X' d' nm' kd' k' n' u1 u2 u3 u4 u5 u6 u7 u8 I' oI' C' oC' D' ys' m' h' tk' E' hxl' hC' hx' F' N' off' ne')))
  k_with "m:call ref" => (k_here; (with_reducible show wpAny _ _ (call (Value.ref 221) _) _ _ _); k_dflt (refine' callPureN (all_ok _ _ _ ?zh_C20r89) ?zle_C20r89 ?zlk_C20r89 ?zdd_C20r89 ?zm_C20r89 ?zd0_C20r89 ?zF_C20r89 ?zX_C20r89 ?zT_C20r89 ?zN_C20r89 ?zA_C20r89 ?zf_C20r89 ?zk_C20r89 ?zd_C20r89 ?zu_C20r89 ?_; (case zh_C20r89 => assumption); (case zle_C20r89 => assumption); (case zlk_C20r89 => assumption); (case zF_C20r89 => k_asm); (case zX_C20r89 => k_asm); (case zT_C20r89 => assumption); (case zN_C20r89 => k_asm); (case zm_C20r89 => walk_at "my_mem2"); (case zd0_C20r89 => first | assumption | exact rfl); (case zdd_C20r89 => assumption); (case zA_C20r89 => exact rfl); (case zf_C20r89 => exact rfl); (case zk_C20r89 => exact rfl); (case zd_C20r89 => ktr_room); (case zu_C20r89 => ktr_units); k_whole; intro v' ns' h' tk' P' F' N' l1; obtain ⟨D', vs', ep', rs', e1, e2, hr'⟩ := P'; subst e1 e2; replace l1 := off_tail l1; (try simp only [List.cons_append] at N')))
  k_with "m:FinE" => ((unfold LCg.FinE); intro D' h' tk' F' N' o1')
  k_with "m:FinA" => ((unfold LCg.FinA); intro D' h' tk' F' N' o1')
  k_with "m:CompEnd" => (k_dflt (refine' toldEnd ?zF_C20r92 ?zN_C20r92 ?zo1_C20r92 ?zsub_C20r92 ?zoff_C20r92 ?zs_C20r92 ?zm_C20r92 ?zc_C20r92 ?zd_C20r92; (case zF_C20r92 => k_asm); (case zN_C20r92 => k_asm)); (case zo1_C20r92 => assumption); (case zoff_C20r92 => assumption); (case zs_C20r92 => assumption); k_dflt ((case zm_C20r92 => k_mem); (case zc_C20r92 => exact rfl); (case zd_C20r92 => exact rfl); (case zsub_C20r92 => (intro p9 hp9; exact List.mem_cons_of_mem _ (List.mem_append_right _ hp9)))))
  k_with "m:CompEnd" => (k_dflt (refine' toldStr ?zF_C20r93 ?zN_C20r93 ?zoff_C20r93 ?zS_C20r93; (case zF_C20r93 => k_asm); (case zN_C20r93 => k_asm)); (case zoff_C20r93 => assumption); (case zS_C20r93 => k_dflt (exact .inr ⟨_, by k_mem, rfl, _, rfl⟩)))
  k_with "m:call ref" => (k_here; (with_reducible show wpAny _ _ (call (Value.ref 139) _) _ _ _); k_dflt (refine' callTellN (tell_ok _ _ _ _ _ _ _ _ _ _ _ _ _ _ _) ?zle_C20r94 ?zlk_C20r94 ?zdd_C20r94 ?zm_C20r94 ?zd0_C20r94 ?zX1_C20r94 ?zD1_C20r94 ?zXl_C20r94 ?zF_C20r94 ?zX_C20r94 ?zT_C20r94 ?zN_C20r94 ?zA_C20r94 ?zf_C20r94 ?zk_C20r94 ?zd_C20r94 ?zu_C20r94 ?_; (case zle_C20r94 => assumption); (case zlk_C20r94 => assumption); (case zF_C20r94 => k_asm); (case zX_C20r94 => k_asm); (case zT_C20r94 => assumption); (case zN_C20r94 => k_asm); (case zXl_C20r94 => assumption); (case zX1_C20r94 => k_mem); (case zD1_C20r94 => k_mem); (case zm_C20r94 => walk_at "my_mem2"); (case zd0_C20r94 => first | assumption | exact rfl); (case zdd_C20r94 => assumption); (case zA_C20r94 => exact rfl); (case zf_C20r94 => exact rfl); (case zk_C20r94 => exact rfl); (case zd_C20r94 => ktr_room); (case zu_C20r94 => ktr_units); k_whole; intro t' h' tk' F' N'))
  k_with "m:my_rs" => (intro p9 hp9; (repeat (with_reducible refine List.mem_cons_of_mem _ ?_)); exact List.mem_append_right _ hp9)
  k_with "m:binaryOp Add ref ref" => (k_here; k_dflt (refine' add_strsK ?zF_C20r96 ?zN_C20r96 ?za_C20r96 ?zi_C20r96 ?zb_C20r96 ?zj_C20r96 ?zz_C20r96 ?_; (case zF_C20r96 => k_asm); (case zN_C20r96 => k_asm)); (case za_C20r96 => (refine mem_rest (by with_reducible assumption) ?_; walk_at "my_rest")); (case zi_C20r96 => assumption); k_dflt ((case zb_C20r96 => walk_at "my_mem2"); (case zj_C20r96 => exact .cons _ _ (.cons _ _ (.cons _ _ (.cons _ _ .nil)))); (case zz_C20r96 => decide +kernel)); intro D' ws' h' F' N' l1 hs')
  k_with "m:compareOp Eq ref ref" => (k_here; k_dflt (refine' eq_tolds ?zN_C20r97 ?zT_C20r97 ?zt_C20r97 ?zrs_C20r97 ?zL_C20r97 ?zLc_C20r97 ?zLd_C20r97 ?z9_C20r97 ?zs9_C20r97 ?zex_C20r97 ?z16_C20r97 ?zt16_C20r97 ?z32_C20r97 ?zt32_C20r97 ?z64_C20r97 ?zt64_C20r97 ?z128_C20r97 ?zt128_C20r97 ?zsub_C20r97 ?zu_C20r97 ?_; (case zN_C20r97 => k_asm)); k_dflt ((case zT_C20r97 => walk_at "my_mem2"); (case zL_C20r97 => k_mem); (case zLc_C20r97 => exact rfl); (case zLd_C20r97 => exact rfl); (case z9_C20r97 => walk_at "my_mem2")); (case zt_C20r97 => assumption); (case zrs_C20r97 => walk_at "my_rs"); (case zs9_C20r97 => assumption); (case zex_C20r97 => k_dflt (first | rfl | decide +kernel)); (case z16_C20r97 => assumption); (case zt16_C20r97 => assumption); (case z32_C20r97 => assumption); (case zt32_C20r97 => assumption); (case z64_C20r97 => assumption); (case zt64_C20r97 => assumption); (case z128_C20r97 => assumption); (case zt128_C20r97 => assumption); (case zsub_C20r97 => walk_at "my_rest"); (case zu_C20r97 => ktr_units))
  k_with "m:callWith ref" => (k_here; k_dflt (refine' callWith_K ?zN_CW ?zi_CW ?_; (case zN_CW => k_asm); (case zi_CW => k_is); k_whole))
  k_with "m:eval Compare" => (k_here; k_dflt (with_reducible (refine' joinCmp (0 ≤ (-2 : Int) + ((i' : Nat) : Int) ∧ (-2 : Int) + ((i' : Nat) : Int) < 16) ?_ ?_; rotate_left; (intro bJ tkJ hbJ; try dsimp only); rotate_right; intro keyB; refine Compare_chain ?_)))
  k_with "m:storeName" => (k_here; (with_reducible apply keyB.out); k_dflt (first | lia | grind); walk_say "JOINED B")
  k_with "m:eval IfExp" => (k_here; (with_reducible show wpAny _ _ (eval (Expr.IfExp _ _ _ _) _) _ _ _); k_dflt (with_reducible (refine' joinNeq ?_ ?_; rotate_left; (intro tkJ; try dsimp only); rotate_right; intro keyJ; refine IfExp_ ?_)))
  k_with "m:truthy bool" => (k_here; (with_reducible show wpAny _ _ (truthy (Value.bool false)) _ _ _); (with_reducible apply keyJ.out); walk_say "JOINED")
  trivial

theorem news_get {g h : Heap} {L a : Addr} {o : Obj} {news : List (Addr × Obj)} (N : News g L h news) (hm : (a, o) ∈ news) : h.get? a = some o := (N _ hm).1
set_option maxRecDepth 100000 in
set_option maxHeartbeats 16000000 in
theorem nums_ok (w : World) (SZ : Addr) (oSZ : Obj) (skv : List (Int × Value)) (rest : List (Addr × Obj)) (hS : oSZ.IsDictOf (intKind Challenge.rw_qz0048_01.row.prog w) skv) (hz : SizesIs rest allZs skv) (hrS : ∀ p ∈ rest, p.1 ≠ SZ) (hr256 : ∀ p ∈ rest, p.1 ≠ 256) (h256 : @Ne Nat SZ 256) : FnN w 12 259 [.ref SZ] ((256, tabObj #[]) :: (SZ, oSZ) :: rest) (fun v => v = .bool true) := by
  w_top off
  obtain ⟨⟨D8, w8, n8, e8, m8, s8⟩, ⟨D16, w16, n16, e16, m16, s16⟩, ⟨D32, w32, n32, e32, m32, s32⟩, ⟨D64, w64, n64, e64, m64, s64⟩, ⟨D128, w128, n128, e128, m128, s128⟩⟩ := sizes_all hz
  dsimp only [FnN]; k_fill; intro p' loose' mean' mg' mb' dp' un' gd' le' Ll' oLl' g' s' R' hle' hlk' hdd' hCd' hX' hT' hg' hz' hLn' hu' hd' hun' hret
  have hL1 := hLn' _ (.head _)
  have hL2 := hLn' _ (.tail _ (.head _))
  have hL3 : ∀ p ∈ rest, p.1 ≠ Ll' := fun p hp => hLn' _ (.tail _ (.tail _ hp))
  dsimp only at hL1 hL2
  
  cell_enter
  (with_reducible rename (AllLt _ _) => l9); have hr9 := allLt_mem l9
  k_steps
  all_goals (try dsimp only)
  refine' hret _ _ _ _ ?zd9 (news_get ?zn9 ?zm9) (Fr.keep ?zf9) rfl (GrownAt.of ?zh9 ?zg9)
  case zh9 => assumption
  case zg9 => walk_at "my_mem2"
  case zn9 => assumption
  case zd9 => assumption
  case zf9 => assumption
  case zm9 => walk_at "my_mem2"
end Mine
end
section
theorem Mine.none_End : True := by
  k_with_none
  w_top off
  trivial
open PySem PySem.W PyProof.Rows
namespace Mine
theorem law_fin9 {cl : Str → Option Addr} {mean : ExcName → Option Value} {ns : List Int} {s₁ s' : Shared} {L : Addr} {m : Str → Option Value} (F : Fr s₁.heap L s'.heap m) (hg : s'.gens = #[]) (hos : s'.os = s₁.os) :
    GoodW Challenge.rw_qz0048_01.row.claim cl mean [ofPy (PyData.list (ns.map PyData.int))] s₁ (.ok (.ret (.bool true))) s' :=
  goodW_bool F hg (fun cls => rfl) (by wrow_post) hos
end Mine
end
section
open PySem PySem.W PyProof.Rows
namespace Mine
theorem rows_T_main_1 : True := by
  k_with_none
  k_with "m:on" => skip
  k_with "m:cell_enter" => (refine' enterGC ?zk1_Tmainr1 ?zk2_Tmainr1 ?zk3_Tmainr1 ?zk4_Tmainr1 ?zk5_Tmainr1 ?zk6_Tmainr1 ?zk7_Tmainr1 ?zk8_Tmainr1 ?zk9_Tmainr1 ?zkB_Tmainr1 ?zkD_Tmainr1 ?_ ?zc2_Tmainr1 ?zc3_Tmainr1 ?zc4_Tmainr1; (case zk1_Tmainr1 => k_asm); (case zk2_Tmainr1 => k_asm); (case zk3_Tmainr1 => k_asm); (case zk4_Tmainr1 => k_asm); (case zk5_Tmainr1 => k_asm); (case zk6_Tmainr1 => k_is); (case zk7_Tmainr1 => k_is); (case zk8_Tmainr1 => lia); (case zk9_Tmainr1 => first | exact BindsTo.of_eq rfl | exact binds_K (by k_in) rfl (by k_is) rfl rfl rfl); (case zkB_Tmainr1 => exact rfl); (case zkD_Tmainr1 => decide +kernel); (case zc2_Tmainr1 => exact rfl); (case zc3_Tmainr1 => exact rfl); (case zc4_Tmainr1 => exact rfl); k_whole; intro L' h' tk' cells' F' N' Y' l1; (try k_lt l1); k_cells Y'; (try simp only [List.cons_append, List.nil_append, List.append_nil] at N'); (try dsimp only); (try k_fold))
  k_with "m:cell_enter" => (first | (refine' enterG ?zk1_Tmainr2 ?zk2_Tmainr2 ?zk3_Tmainr2 ?zk4_Tmainr2 ?zk5_Tmainr2 ?zk6_Tmainr2 ?zk7_Tmainr2 ?zk8_Tmainr2 ?zk9_Tmainr2 ?zkB_Tmainr2 ?_ ?zc2_Tmainr2 ?zc3_Tmainr2 ?zc4_Tmainr2 ?zc5_Tmainr2; (case zk1_Tmainr2 => k_asm); (case zk2_Tmainr2 => k_asm); (case zk3_Tmainr2 => k_asm); (case zk4_Tmainr2 => k_asm); (case zk5_Tmainr2 => k_asm); (case zk6_Tmainr2 => k_is); (case zk7_Tmainr2 => k_is); (case zk8_Tmainr2 => lia); (case zk9_Tmainr2 => first | exact BindsTo.of_eq rfl | exact binds_K (by k_in) rfl (by k_is) rfl rfl rfl); (case zc5_Tmainr2 => decide); (case zkB_Tmainr2 => exact locs rfl); (case zc2_Tmainr2 => exact rfl); (case zc3_Tmainr2 => exact rfl); (case zc4_Tmainr2 => exact rfl); k_whole; intro L' h' F' N' l1; (try k_lt l1); (try dsimp only); (try k_fold)) | fail)
  k_with "m:exec Raise some none" => (k_here; (with_reducible show wpAny _ _ (exec (Stmt.Raise (some (Expr.Call (Expr.Name _ _) _ _ _)) none _) _) _ _ _); k_dflt (refine Raise_mint (by exact rfl) ?_))
  k_with "m:call ref" => (k_here; (with_reducible show wpAny _ _ (call (Value.ref _) [Value.str _ _]) (RaisedO _) _ _); k_dflt (refine' mint_callN PySem.F.excBase_Exception ?zX_Tmainr4 ?zF_Tmainr4 ?zN_Tmainr4 ?zC_Tmainr4 ?zi_Tmainr4 ?zf_Tmainr4 ?zc_Tmainr4 ?_; (case zX_Tmainr4 => k_asm); (case zF_Tmainr4 => k_asm); (case zN_Tmainr4 => k_asm); (case zC_Tmainr4 => k_is); (case zi_Tmainr4 => k_is); (case zf_Tmainr4 => k_is); (case zc_Tmainr4 => rfl); k_whole); intro e' t' h' F' N' l1 l2; (try k_lt l1); (try k_lt2 l2); k_dflt (refine wpAny_call ?_; k_enter))
  k_with "m:getMethod type:Exception" => (k_here; refine' method_type ?zF_Tmainr5 ?zX_Tmainr5 ?zm_Tmainr5 (by decide +kernel) ?ze_Tmainr5 ?zh_Tmainr5 ?_; (case zF_Tmainr5 => k_asm); (case zX_Tmainr5 => k_asm); (case zm_Tmainr5 => exact meta_Exception); (case ze_Tmainr5 => k_dflt k_is); (case zh_Tmainr5 => k_handed))
  k_with "m:call builtin:Exception.__init__" => (k_here; k_dflt (refine' exc_initN' PySem.F.excBase_Exception ?zC_Tmainr6 ?zF_Tmainr6 ?zN_Tmainr6 ?zh2_Tmainr6 ?_; (case zF_Tmainr6 => k_asm); (case zN_Tmainr6 => k_asm); (case zC_Tmainr6 => exact Frag.In.keeps (by k_asm) (Fr.keep (by k_asm)) _ _ (by k_is)); (case zh2_Tmainr6 => k_all); k_whole); intro D' h' F' N' l1; (try simp only [List.nil_append] at F' N' l1); (try k_lt l1))
  k_with "m:setAttr ref" => (k_here; k_dflt (refine' exc_set2 ?zF_Tmainr7 ?zX_Tmainr7 ?zN_Tmainr7 ?ze_Tmainr7 ?zU_Tmainr7 ?zs_Tmainr7 ?zc_Tmainr7 ?zm_Tmainr7 ?zd_Tmainr7 ?zt_Tmainr7 ?zn_Tmainr7 ?zq_Tmainr7 ?zz_Tmainr7 ?_; (case zF_Tmainr7 => k_asm); (case zX_Tmainr7 => k_asm); (case zN_Tmainr7 => k_asm); (case ze_Tmainr7 => k_mem); (case zU_Tmainr7 => k_upd); (case zs_Tmainr7 => k_is); (case zc_Tmainr7 => k_is); (case zm_Tmainr7 => rfl); (case zd_Tmainr7 => rfl); (case zt_Tmainr7 => k_is); (case zn_Tmainr7 => rfl); (case zq_Tmainr7 => rfl); (case zz_Tmainr7 => exact Nat.le_of_ble_eq_true rfl); k_whole); intro h' tk' F' N')
  k_with "m:setAttr ref" => (k_here; k_dflt (refine' exc_set1' ?zF_Tmainr8 ?zX_Tmainr8 ?zN_Tmainr8 ?zh1_Tmainr8 ?zh2_Tmainr8 ?zs_Tmainr8 ?zc_Tmainr8 ?zm_Tmainr8 ?zd_Tmainr8 ?zt_Tmainr8 ?_; (case zF_Tmainr8 => k_asm); (case zX_Tmainr8 => k_asm); (case zN_Tmainr8 => k_asm); (case zh1_Tmainr8 => k_ne); (case zh2_Tmainr8 => k_all); (case zs_Tmainr8 => k_is); (case zc_Tmainr8 => k_is); (case zm_Tmainr8 => rfl); (case zd_Tmainr8 => rfl); (case zt_Tmainr8 => k_is); k_whole); intro D' h' tk' F' N' l1; (try simp only [List.cons_append, List.nil_append] at F' N' l1); (try k_lt l1))
  k_with "m:RaisedO" => (k_dflt (refine' raisedO_of ?zX_Tmainr9 ?zF_Tmainr9 ?zN_Tmainr9 ?ze_Tmainr9 ?zC_Tmainr9 ?zb_Tmainr9 ?_; (case zX_Tmainr9 => k_asm); (case zF_Tmainr9 => k_asm); (case zN_Tmainr9 => k_asm); (case ze_Tmainr9 => k_mem); (case zC_Tmainr9 => k_is); (case zb_Tmainr9 => rfl); k_whole))
  k_with "m:leaving ref" => (k_here; k_dflt (refine' leave_mint4 ?zK_Tmainr10 ?zF_Tmainr10 ?zN_Tmainr10 ?zh1_Tmainr10 ?zh2_Tmainr10 ?_; (case zK_Tmainr10 => k_asm); (case zF_Tmainr10 => k_asm); (case zN_Tmainr10 => k_asm); (case zh1_Tmainr10 => k_all); (case zh2_Tmainr10 => k_all); k_whole); intro h' R' RK' U'; (try dsimp only at R' RK' U' ⊢))
  k_with "m:compareOp Eq ref ref" => (k_here; k_dflt (refine' eq_strsK ?zN_Tmainr11 ?zl_Tmainr11 ?zS_Tmainr11 ?zl2_Tmainr11 ?zS2_Tmainr11 ?zu_Tmainr11 ?zo_Tmainr11 ?zo2_Tmainr11 ?_; (case zN_Tmainr11 => k_asm); (case zl_Tmainr11 => k_mem); (case zS_Tmainr11 => k_asm); (case zl2_Tmainr11 => k_mem); (case zS2_Tmainr11 => exact StrsAre.nil); (case zu_Tmainr11 => ktr_units); (case zo_Tmainr11 => exact early_ok1 _); (case zo2_Tmainr11 => rfl); k_whole))
  k_with "m:subscriptTail Name Name ref int" => (k_here; k_dflt (refine' item_strsK ?zN_Tmainr12 ?zl_Tmainr12 ?zS_Tmainr12 ?z0_Tmainr12 ?zk_Tmainr12 ?zf_Tmainr12 ?_ ?zs_Tmainr12 ?zg_Tmainr12; (case zN_Tmainr12 => k_asm); (case zl_Tmainr12 => k_mem); (case zS_Tmainr12 => k_asm); (case z0_Tmainr12 => lia); (case zk_Tmainr12 => first | exact early_lt (by assumption) (by lia) | (show _ < ((_ : Nat) : Int); lia)); (case zf_Tmainr12 => lia); (case zs_Tmainr12 => with_unfolding_all rfl); (case zg_Tmainr12 => (intro _; with_unfolding_all rfl)); k_whole; intro t'))
  k_with "m:call ref" => (k_here; (with_reducible show wpAny _ _ (call (Value.ref 153) [Value.int _ _]) _ _ _); k_dflt (refine' callList (early_ok _ _ _) ?zB_Tmainr13 ?zF_Tmainr13 ?zX_Tmainr13 ?zN_Tmainr13 ?zT_Tmainr13 ?zA_Tmainr13 ?zf_Tmainr13 ?zk_Tmainr13 ?zd_Tmainr13 ?zu_Tmainr13 ?_; (case zF_Tmainr13 => k_asm); (case zB_Tmainr13 => k_asm); (case zX_Tmainr13 => k_asm); (case zN_Tmainr13 => k_asm); (case zT_Tmainr13 => k_asm); (case zA_Tmainr13 => exact rfl); (case zf_Tmainr13 => exact rfl); (case zk_Tmainr13 => exact rfl); (case zd_Tmainr13 => ktr_room); (case zu_Tmainr13 => ktr_units); k_whole; intro D' vs' n' h' tk' S' F' N' l1; (try dsimp only [AllNe] at l1)))
  k_with "m:call ref" => (k_here; (with_reducible show wpAny _ _ (call (Value.ref 160) [Value.int _ _]) _ _ _); k_dflt (refine' callEnd (ending_ok _ _ _) ?zB_Tmainr14 ?zF_Tmainr14 ?zX_Tmainr14 ?zN_Tmainr14 ?zT_Tmainr14 ?zA_Tmainr14 ?zf_Tmainr14 ?zk_Tmainr14 ?zd_Tmainr14 ?zu_Tmainr14 ?_; (case zF_Tmainr14 => k_asm); (case zB_Tmainr14 => k_asm); (case zX_Tmainr14 => k_asm); (case zN_Tmainr14 => k_asm); (case zT_Tmainr14 => k_asm); (case zA_Tmainr14 => exact rfl); (case zf_Tmainr14 => exact rfl); (case zk_Tmainr14 => exact rfl); (case zd_Tmainr14 => ktr_room); (case zu_Tmainr14 => ktr_units); k_whole; intro t' h' tk' hl' F' N'))
  k_with "m:call builtin:list.index" => (k_here; (with_reducible show wpAny _ _ (call (Value.builtin _) [Value.ref _, Value.str _ _]) _ _ _); k_dflt (refine' index_list_strs ?zN_Tmainr15 ?zl_Tmainr15 ?zS_Tmainr15 ?zz_Tmainr15 ?zk_Tmainr15 ?_; (case zN_Tmainr15 => k_asm); (case zl_Tmainr15 => k_mem); (case zS_Tmainr15 => k_asm); (case zz_Tmainr15 => first | exact early_lenOk _ | decide | rfl); (case zk_Tmainr15 => first | assumption | decide +kernel); k_whole; intro hi'; (try simp only [List.length_cons, List.length_nil, Nat.reduceAdd, Nat.zero_add] at hi')))
  k_with "m:call ref" => (k_here; (with_reducible show wpAny _ _ (call (Value.ref 167) [Value.int _ _, Value.int _ _]) _ _ _); k_dflt (refine' callMayReg (gpr_ok _ _ _ _ _ ?zh_Tmainr16 ?zh2_Tmainr16) ?zB_Tmainr16 ?zF_Tmainr16 ?zX_Tmainr16 ?zN_Tmainr16 ?zT_Tmainr16 ?zA_Tmainr16 ?zf_Tmainr16 ?zk_Tmainr16 ?zd_Tmainr16 ?zu_Tmainr16 ?zo_Tmainr16 ?zr_Tmainr16; (case zF_Tmainr16 => k_asm); (case zB_Tmainr16 => k_asm); (case zX_Tmainr16 => k_asm); (case zN_Tmainr16 => k_asm); (case zT_Tmainr16 => k_asm); (case zA_Tmainr16 => exact rfl); (case zf_Tmainr16 => exact rfl); (case zk_Tmainr16 => exact rfl); (case zd_Tmainr16 => ktr_room); (case zu_Tmainr16 => ktr_units); (case zh_Tmainr16 => lia); (case zh2_Tmainr16 => lia); k_whole; (try (case zr_Tmainr16 => (intro hz; exact absurd ⟨by first | assumption | decide, by lia, by lia⟩ hz))); (all_goals first | (intro hz x' d' u1 u2 u3 u4 u5 u6 u7 u8 h' tk' hx' F' N' l1 l2; (try dsimp only [AllNe] at l1 l2)) | (intro hz e' t' ws' h' tk' R' RK' U'))))
  k_with "m:call ref" => (k_here; (with_reducible show wpAny _ _ (call (Value.ref 174) [Value.int _ _]) _ _ _); k_dflt (refine' callMayReg (high_ok _ _ _ ?zh_Tmainr17 ?zh2_Tmainr17) ?zB_Tmainr17 ?zF_Tmainr17 ?zX_Tmainr17 ?zN_Tmainr17 ?zT_Tmainr17 ?zA_Tmainr17 ?zf_Tmainr17 ?zk_Tmainr17 ?zd_Tmainr17 ?zu_Tmainr17 ?zo_Tmainr17 ?zr_Tmainr17; (case zF_Tmainr17 => k_asm); (case zB_Tmainr17 => k_asm); (case zX_Tmainr17 => k_asm); (case zN_Tmainr17 => k_asm); (case zT_Tmainr17 => k_asm); (case zA_Tmainr17 => exact rfl); (case zf_Tmainr17 => exact rfl); (case zk_Tmainr17 => exact rfl); (case zd_Tmainr17 => ktr_room); (case zu_Tmainr17 => ktr_units); (case zh_Tmainr17 => lia); (case zh2_Tmainr17 => lia); k_whole; (try (case zr_Tmainr17 => (intro hz; exact absurd ⟨by lia, by lia⟩ hz))); (all_goals first | (intro hz x' d' u1 u2 u3 u4 u5 u6 u7 u8 h' tk' hx' F' N' l1 l2; (try dsimp only [AllNe] at l1 l2)) | (intro hz e' t' ws' h' tk' R' RK' U'))))
  k_with "m:call ref" => (k_here; (with_reducible show wpAny _ _ (call (Value.ref 188) [Value.int _ _]) _ _ _); k_dflt (refine' callMayReg (xmm_ok _ _ _ ?zh_Tmainr18 ?zh2_Tmainr18) ?zB_Tmainr18 ?zF_Tmainr18 ?zX_Tmainr18 ?zN_Tmainr18 ?zT_Tmainr18 ?zA_Tmainr18 ?zf_Tmainr18 ?zk_Tmainr18 ?zd_Tmainr18 ?zu_Tmainr18 ?zo_Tmainr18 ?zr_Tmainr18; (case zF_Tmainr18 => k_asm); (case zB_Tmainr18 => k_asm); (case zX_Tmainr18 => k_asm); (case zN_Tmainr18 => k_asm); (case zT_Tmainr18 => k_asm); (case zA_Tmainr18 => exact rfl); (case zf_Tmainr18 => exact rfl); (case zk_Tmainr18 => exact rfl); (case zd_Tmainr18 => ktr_room); (case zu_Tmainr18 => ktr_units); (case zh_Tmainr18 => lia); (case zh2_Tmainr18 => lia); k_whole; (try (case zr_Tmainr18 => (intro hz; exact absurd ⟨by lia, by lia⟩ hz))); (all_goals first | (intro hz x' d' u1 u2 u3 u4 u5 u6 u7 u8 h' tk' hx' F' N' l1 l2; (try dsimp only [AllNe] at l1 l2)) | (intro hz e' t' ws' h' tk' R' RK' U'))))
  k_with "m:call ref" => (k_here; (with_reducible show wpAny _ _ (call (Value.ref 195) _) _ _ _); k_dflt (refine' callReg (rip_ok _) ?zB_Tmainr19 ?zF_Tmainr19 ?zX_Tmainr19 ?zN_Tmainr19 ?zT_Tmainr19 ?zA_Tmainr19 ?zf_Tmainr19 ?zk_Tmainr19 ?zd_Tmainr19 ?zu_Tmainr19 ?_; (case zF_Tmainr19 => k_asm); (case zB_Tmainr19 => k_asm); (case zX_Tmainr19 => k_asm); (case zN_Tmainr19 => k_asm); (case zT_Tmainr19 => k_asm); (case zA_Tmainr19 => exact rfl); (case zf_Tmainr19 => exact rfl); (case zk_Tmainr19 => exact rfl); (case zd_Tmainr19 => ktr_room); (case zu_Tmainr19 => ktr_units); k_whole; intro x' d' u1 u2 u3 u4 u5 u6 u7 u8 h' tk' hx' F' N' l1 l2; (try dsimp only [AllNe] at l1 l2)))
  k_with "m:call ref" => (k_here; (with_reducible show wpAny _ _ (call (Value.ref 202) [Value.str (PySem.Str.ofString "fs") _]) _ _ _); k_dflt (refine' callReg (fs_ok _ _) ?zB_Tmainr20 ?zF_Tmainr20 ?zX_Tmainr20 ?zN_Tmainr20 ?zT_Tmainr20 ?zA_Tmainr20 ?zf_Tmainr20 ?zk_Tmainr20 ?zd_Tmainr20 ?zu_Tmainr20 ?_; (case zF_Tmainr20 => k_asm); (case zB_Tmainr20 => k_asm); (case zX_Tmainr20 => k_asm); (case zN_Tmainr20 => k_asm); (case zT_Tmainr20 => k_asm); (case zA_Tmainr20 => exact rfl); (case zf_Tmainr20 => exact rfl); (case zk_Tmainr20 => exact rfl); (case zd_Tmainr20 => ktr_room); (case zu_Tmainr20 => ktr_units); k_whole; intro x' d' u1 u2 u3 u4 u5 u6 u7 u8 h' tk' hx' F' N' l1 l2; (try dsimp only [AllNe] at l1 l2)))
  k_with "m:call ref" => (k_here; (with_reducible show wpAny _ _ (call (Value.ref 202) [Value.str (PySem.Str.ofString "gs") _]) _ _ _); k_dflt (refine' callReg (gs_ok _ _) ?zB_Tmainr21 ?zF_Tmainr21 ?zX_Tmainr21 ?zN_Tmainr21 ?zT_Tmainr21 ?zA_Tmainr21 ?zf_Tmainr21 ?zk_Tmainr21 ?zd_Tmainr21 ?zu_Tmainr21 ?_; (case zF_Tmainr21 => k_asm); (case zB_Tmainr21 => k_asm); (case zX_Tmainr21 => k_asm); (case zN_Tmainr21 => k_asm); (case zT_Tmainr21 => k_asm); (case zA_Tmainr21 => exact rfl); (case zf_Tmainr21 => exact rfl); (case zk_Tmainr21 => exact rfl); (case zd_Tmainr21 => ktr_room); (case zu_Tmainr21 => ktr_units); k_whole; intro x' d' u1 u2 u3 u4 u5 u6 u7 u8 h' tk' hx' F' N' l1 l2; (try dsimp only [AllNe] at l1 l2)))
  k_with "m:call type:int" => (k_here; (with_reducible show wpAny _ _ (call (Value.type _) [Value.str _ _]) _ _ _); k_dflt (first | (refine' call_xmm ?zk_Tmainr22 ?_; (case zk_Tmainr22 => k_asm); k_whole; intro hi') | (refine' call_late ?zk_Tmainr22 ?_; (case zk_Tmainr22 => k_asm); k_whole; intro hi')))
  k_with "m:compareOp In str ref" => (k_here; k_dflt (refine' in_strsK ?zN_Tmainr23 ?zl_Tmainr23 ?zS_Tmainr23 ?_; (case zN_Tmainr23 => k_asm); (case zl_Tmainr23 => k_mem); (case zS_Tmainr23 => k_asm); k_whole))
  k_with "m:eval Dict nil nil" => (k_here; k_dflt (refine' newDict_K ?zk1_Tmainr24 ?zk2_Tmainr24 ?zk3_Tmainr24 ?_; (case zk1_Tmainr24 => k_asm); (case zk2_Tmainr24 => k_asm); (case zk3_Tmainr24 => (with_reducible exact Top.nolimit (by assumption))); k_whole); intro d' h' o' F' N' l1 lo' hs' fs' hi' fi'; (try k_lt l1))
  k_with "m:eval Dict" => (k_here; k_dflt (refine' kdn_str ?zq_Tmainr25 ?zF_Tmainr25 ?zN_Tmainr25 ?zb_Tmainr25 ?za_Tmainr25 ?zl_Tmainr25 ?ze_Tmainr25 ?zn_Tmainr25 ?_; (case zq_Tmainr25 => rfl); (case zF_Tmainr25 => k_asm); (case zN_Tmainr25 => k_asm); (case zb_Tmainr25 => (with_reducible exact Top.nolimit (by assumption))); (case za_Tmainr25 => rfl); (case zl_Tmainr25 => rfl); (case ze_Tmainr25 => exact List.cons_ne_nil _ _); (case zn_Tmainr25 => exact Nat.le_of_ble_eq_true rfl)); intro d' h' o' F' N' l1 lo' hd'; (try k_lt l1))
  k_with "m:eval ListComp" => (k_here; (with_reducible show wpAny _ _ _ _ _ _); lcf_look; k_dflt (refine LCg.ListComp_U (F₀ := by k_asm) (by with_unfolding_all rfl) (by decide) (by rfl) (by decide) (by rfl) ?_); k_dflt lcg_toSrc)
  k_with "m:my_varb" => ((try dsimp only); k_extra "m:my_var")
  k_with "m:k_mm" => with_reducible (first | exact List.mem_cons_self | (refine List.mem_cons_of_mem _ ?_; k_extra "m:k_mm"))
  k_with "m:my_sub1" => with_reducible (first | (refine List.forall_mem_cons.mpr (And.intro ?_ ?_); focus (k_extra "m:k_mm"); k_extra "m:my_sub1") | (intro p hp; (repeat (first | assumption | refine List.mem_cons_of_mem _ ?_)); done) | assumption | exact List.forall_mem_nil _)
  k_with "m:my_sub" => first | k_extra "m:my_sub1" | assumption | exact List.forall_mem_nil _ | (refine List.forall_mem_cons.mpr ⟨by k_mem, ?_⟩; k_extra "m:my_sub") | (intro p hp; (repeat (first | exact hp | refine List.mem_cons_of_mem _ ?_)))
  k_with "m:my_var" => first | assumption | exact rfl | exact if_pos rfl | ((with_reducible refine (if_neg (by decide)).trans ?_); k_extra "m:my_var")
  k_with "m:my_ne" => first | assumption | exact List.forall_mem_nil _ | exact ne_app (by assumption) (by assumption) | (refine List.forall_mem_cons.mpr ⟨by k_extra "m:my_n1", ?_⟩; k_extra "m:my_ne")
  k_with "m:my_outF" => first | (refine' OutF.head ?za_Tmainr31; (case za_Tmainr31 => first | assumption | k_extra "m:my_ne" | k_all)) | (refine' OutF.tail ?za_Tmainr31 ?zb_Tmainr31; (case za_Tmainr31 => k_extra "m:my_n1"); (case zb_Tmainr31 => k_extra "m:my_outF"))
  k_with "m:my_mr" => ((repeat (with_reducible refine List.mem_cons_of_mem _ ?_)); assumption)
  k_with "m:eval Name" => (k_here; k_dflt (refine' nameX_L ?zF_Tmainr33 ?zv_Tmainr33 ?_ ?zk_Tmainr33 ?zx_Tmainr33 ?zd_Tmainr33; (case zk_Tmainr33 => exact rfl); (case zx_Tmainr33 => with_unfolding_all rfl); (case zd_Tmainr33 => decide); (case zF_Tmainr33 => k_asm); k_whole); (case zv_Tmainr33 => k_extra "m:my_var"))
  k_with "m:call ref" => (k_here; (with_reducible show wpAny _ _ (call (Value.ref 235) _) _ _ _); k_dflt (refine' callPen ?zI_Tmainr34 ?zlen_Tmainr34 ?zL_Tmainr34 ?zB_Tmainr34 ?zF_Tmainr34 ?zX_Tmainr34 ?zN_Tmainr34 ?zT_Tmainr34 ?zA_Tmainr34 ?zf_Tmainr34 ?zk_Tmainr34 ?zd_Tmainr34 ?zu_Tmainr34 ?_; (case zI_Tmainr34 => k_asm); (case zL_Tmainr34 => k_asm); (case zF_Tmainr34 => k_asm); (case zB_Tmainr34 => k_asm); (case zX_Tmainr34 => k_asm); (case zN_Tmainr34 => k_asm); (case zT_Tmainr34 => k_asm); (case zA_Tmainr34 => exact rfl); (case zf_Tmainr34 => exact rfl); (case zk_Tmainr34 => exact rfl); (case zd_Tmainr34 => ktr_room); (case zu_Tmainr34 => ktr_units)); (case zlen_Tmainr34 => lia); intro l' a' b' c' ta' tb' tc' ep' h' tk' hp' F' N' hnl'; (replace hnl' := allNe_of hnl'); (try simp only [AllNe, and_true] at hnl'); (have := hnl'.1; have := hnl'.2; clear hnl'))
  k_with "m:call ref" => (k_here; (with_reducible show wpAny _ _ (call (Value.ref 247) _) _ _ _); k_dflt (refine' callTable ?zB_Tmainr35 ?zF_Tmainr35 ?zX_Tmainr35 ?zN_Tmainr35 ?zT_Tmainr35 ?zA_Tmainr35 ?zf_Tmainr35 ?zk_Tmainr35 ?zd_Tmainr35 ?zu_Tmainr35 ?_; (case zF_Tmainr35 => k_asm); (case zB_Tmainr35 => k_asm); (case zX_Tmainr35 => k_asm); (case zN_Tmainr35 => k_asm); (case zT_Tmainr35 => k_asm); (case zA_Tmainr35 => exact rfl); (case zf_Tmainr35 => exact rfl); (case zk_Tmainr35 => exact rfl); (case zd_Tmainr35 => ktr_room); (case zu_Tmainr35 => ktr_units)); intro D' S' K' ep' oS' oK' kvs' skv' rest' h' tk' hdK' hdS' hk' hkl' hz' hne' hrS' hrK' hrD' hrl' hs1' hk1' F' N' hap1' hap2' hap3' hn2'; k_dflt ((have hn3' := hn2' _ (List.Mem.head _)); (have hn4' := hn2' _ (List.Mem.tail _ (List.Mem.head _)))); clear hn2'; (dsimp only at hn3' hn4'); (try simp only [AllNe, and_true] at hap1' hap2' hap3'); (have := hap1'.1; have := hap1'.2.1; have := hap1'.2.2; clear hap1'); (have := hap2'.1; have := hap2'.2.1; have := hap2'.2.2; clear hap2'); (have := hap3'.1; have := hap3'.2.1; have := hap3'.2.2; clear hap3'); (have := hne'.1; have := hne'.2.1; have := hne'.2.2); (try simp only [List.cons_append, List.nil_append] at N'))
  k_with "m:call builtin:sorted" => (k_here; k_dflt (refine' sorted_dict ?zh_Tmainr36 ?zF_Tmainr36 ?zN_Tmainr36 ?zm_Tmainr36 ?zd_Tmainr36 ?zs_Tmainr36 ?zl_Tmainr36 ?_; (case zh_Tmainr36 => exact rfl); (case zF_Tmainr36 => k_asm); (case zN_Tmainr36 => k_asm); (case zm_Tmainr36 => k_mem)); (case zd_Tmainr36 => k_asm); (case zs_Tmainr36 => k_asm); (case zl_Tmainr36 => k_asm); intro D' vs' ss' ep' h' tk' F' N' l1 hs' hl' hss'; (try k_lt l1))
  k_with "m:exec For Name Call cons nil" => (k_here; k_dflt (refine' For_turns ?zF_FT1 ?_ ?zh_FT1 ?zE_FT1; (case zF_FT1 => k_asm); (case zh_FT1 => exact fun _ => rfl); (case zE_FT1 => passes_own); k_whole))
  k_with "m:pyIter ref" => (k_here; k_dflt (refine' iter_names ?zh_Tmainr38 ?zF_Tmainr38 ?zN_Tmainr38 ?zr_Tmainr38 ?zm1_Tmainr38 ?zm2_Tmainr38 ?zm3_Tmainr38 ?zmm_Tmainr38 ?zO_Tmainr38 ?zp_Tmainr38 ?_ ?_; (case zh_Tmainr38 => exact rfl); (case zF_Tmainr38 => k_asm); (case zN_Tmainr38 => k_asm)); (case zr_Tmainr38 => k_asm); k_dflt ((case zm1_Tmainr38 => k_extra "m:my_var"); (case zm2_Tmainr38 => k_extra "m:my_var"); (case zm3_Tmainr38 => k_extra "m:my_var")); (case zp_Tmainr38 => k_asm); (case zmm_Tmainr38 => k_dflt k_mem); (case zO_Tmainr38 => k_dflt (k_extra "m:my_outF")); rotate_left; (intro a' b' c' ta' tb' tc' ep' m' h' tk' hp' hc1' F' N'); rotate_right; (intro I' i' t' it' a' b' c' ta' tb' tc' ep' m' h' tk' hfI' hlI' hi' hp' hc1' hc2' hc3' F' N'))
  k_with "m:call builtin:len" => (k_here; (with_reducible show wpAny _ _ (call (Value.builtin "len") [Value.ref _]) _ _ _); k_dflt (refine' len_names ?zN_Tmainr39 ?zl_Tmainr39 ?zi_Tmainr39 ?zz_Tmainr39 ?_; (case zN_Tmainr39 => k_asm); (case zl_Tmainr39 => k_mem)); (case zi_Tmainr39 => k_asm); (case zz_Tmainr39 => k_asm); intro t' k')
  k_with "m:call ref" => (k_here; (with_reducible show wpAny _ _ (call (Value.ref 242) [Value.ref _, Value.int _ _]) _ _ _); k_dflt (refine' callTake (take_ok _ _ _ _ _ _ _ _ _ _ _ _ ?zp_Tmainr40 ?zj_Tmainr40 ?zn_Tmainr40 ?zn2_Tmainr40) ?zB_Tmainr40 ?zF_Tmainr40 ?zX_Tmainr40 ?zN_Tmainr40 ?zU_Tmainr40 ?zT_Tmainr40 ?zA_Tmainr40 ?zf_Tmainr40 ?zk_Tmainr40 ?zd_Tmainr40 ?zu_Tmainr40 ?_; (case zF_Tmainr40 => k_asm); (case zB_Tmainr40 => k_asm); (case zX_Tmainr40 => k_asm); (case zN_Tmainr40 => k_asm); (case zU_Tmainr40 => k_extra "m:my_updF"); (case zT_Tmainr40 => k_asm); (case zA_Tmainr40 => exact rfl); (case zf_Tmainr40 => exact rfl); (case zk_Tmainr40 => exact rfl); (case zd_Tmainr40 => ktr_room); (case zu_Tmainr40 => ktr_units)); (case zp_Tmainr40 => k_asm); (case zj_Tmainr40 => lia); (case zn_Tmainr40 => lia); (case zn2_Tmainr40 => lia); intro k' a' b' c' ta' tb' tc' t' ep' h' tk' k0' k1' hp' F' N'; (try dsimp only at N'))
  k_with "m:my_updF" => first | (refine' UpdF.head ?za_Tmainr41; (case za_Tmainr41 => first | assumption | k_extra "m:my_ne" | k_all)) | (refine' UpdF.tail ?za_Tmainr41 ?zb_Tmainr41; (case za_Tmainr41 => k_extra "m:my_n1"); (case zb_Tmainr41 => k_extra "m:my_updF"))
  k_with "m:subscriptTail Name Call ref int" => (k_here; k_dflt (refine' item_strsK ?zN_Tmainr42 ?zl_Tmainr42 ?zS_Tmainr42 ?z0_Tmainr42 ?zk_Tmainr42 ?zf_Tmainr42 ?_ ?zs_Tmainr42 ?zg_Tmainr42; (case zN_Tmainr42 => k_asm); (case zl_Tmainr42 => k_mem); (case zs_Tmainr42 => with_unfolding_all rfl); (case zg_Tmainr42 => (intro _; with_unfolding_all rfl))); (case zS_Tmainr42 => k_asm); (case z0_Tmainr42 => lia); (case zk_Tmainr42 => lia); (case zf_Tmainr42 => lia); intro t')
  k_with "m:call ref" => (k_here; (with_reducible show wpAny _ _ (call (Value.ref 266) _) _ _ _); k_dflt (refine' callBent (bent_ok _ _ _ _ _ _ _ _ _ _ _ _ _ _ ?zp_Tmainr43 ?zj_Tmainr43 ?zx_Tmainr43 ?zs1_Tmainr43 ?zs2_Tmainr43) ?zB_Tmainr43 ?zF_Tmainr43 ?zX_Tmainr43 ?zN_Tmainr43 ?zU_Tmainr43 ?zT_Tmainr43 ?zA_Tmainr43 ?zf_Tmainr43 ?zk_Tmainr43 ?zd_Tmainr43 ?zu_Tmainr43 ?_; (case zF_Tmainr43 => k_asm); (case zB_Tmainr43 => k_asm); (case zX_Tmainr43 => k_asm); (case zN_Tmainr43 => k_asm); (case zU_Tmainr43 => k_extra "m:my_updF"); (case zT_Tmainr43 => k_asm); (case zA_Tmainr43 => exact rfl); (case zf_Tmainr43 => exact rfl); (case zk_Tmainr43 => exact rfl); (case zd_Tmainr43 => ktr_room); (case zu_Tmainr43 => ktr_units)); (case zp_Tmainr43 => k_asm); (case zj_Tmainr43 => lia); (case zx_Tmainr43 => first | lia | exact Nat.le_trans (name_len (by assumption) (by assumption) (by assumption) (by assumption) (by assumption)) (by decide)); (case zs1_Tmainr43 => decide); (case zs2_Tmainr43 => decide); intro y' a' b' c' ta' tb' tc' t' ep' h' tk' hp' hb' F' N'; (try dsimp only at N'))
  k_with "m:my_len1" => exact find_len (by assumption) (by assumption) (by assumption) (by assumption) (by assumption) (by assumption)
  k_with "m:call ref" => (k_here; (with_reducible show wpAny _ _ (call (Value.ref 216) _) _ _ _); k_dflt (refine' callFind2 ?zx_Tmainr45 ?zkn_Tmainr45 ?zB_Tmainr45 ?zF_Tmainr45 ?zX_Tmainr45 ?zN_Tmainr45 ?zT_Tmainr45 ?zA_Tmainr45 ?zf_Tmainr45 ?zk_Tmainr45 ?zd_Tmainr45 ?zu_Tmainr45 ?_ ?_; (case zF_Tmainr45 => k_asm); (case zB_Tmainr45 => k_asm); (case zX_Tmainr45 => k_asm); (case zN_Tmainr45 => k_asm); (case zT_Tmainr45 => k_asm); (case zA_Tmainr45 => exact rfl); (case zf_Tmainr45 => exact rfl); (case zk_Tmainr45 => exact rfl); (case zd_Tmainr45 => ktr_room); (case zu_Tmainr45 => ktr_units)); (case zkn_Tmainr45 => k_asm); (case zx_Tmainr45 => k_extra "m:my_len1"); all_goals first | (intro nm' kd' k' n' X' d' u1 u2 u3 u4 u5 u6 u7 u8 Tt' ot' h' tk' hv' hm' ht' hsh' hxd' F' N' hX' hd'; (replace hX' := allNe_of hX'); (replace hd' := allNe_of hd'); (try simp only [AllNe, and_true] at hX' hd')) | (intro h' tk' hv' F' N'))
  k_with "m:storeName" => (k_here; k_dflt (refine' storeX_C ?zF_Tmainr46 ?zN_Tmainr46 ?zc_Tmainr46 ?zU_Tmainr46 ?zd_Tmainr46 ?_ ?zk_Tmainr46 ?zx_Tmainr46; (case zk_Tmainr46 => exact rfl); (case zx_Tmainr46 => with_unfolding_all rfl); (case zF_Tmainr46 => k_asm); (case zN_Tmainr46 => k_asm); (case zc_Tmainr46 => exact rfl)); (case zU_Tmainr46 => k_dflt (k_extra "m:my_updF")); (case zd_Tmainr46 => k_asm); intro h' o' F' N' hd'; (try dsimp only at N'))
  k_with "m:eval ListComp" => (k_here; k_dflt (refine comp_evalU (by k_asm) (by with_unfolding_all rfl) (by decide) (by rfl) (by decide) (by rfl) ?_))
  k_with "m:SrcU" => (k_here; k_dflt (refine SrcOf.range (by rfl) (by k_asm) (by k_asm) (by assumption) ?zsm_Tmainr48 (size_4 (by assumption) (by assumption)) ?zsz_Tmainr48 (fun g' => ?_); (case zsm_Tmainr48 => exact small_4 (by assumption) (by assumption)); (case zsz_Tmainr48 => (rw [sizeLine_eq]; lia)); refine comp_takes (fun _ => trivial) (by assumption) (by k_extra "m:my_ne") ?_ ?_); (rotate_left; (intro ys' ks' a' b' c' ta' tb' tc' ep' hks' hkl' hkr' hp'); rotate_right; (intro i' a' b' c' ta' tb' tc' ep' I' oI' C' oC' D' ys' m' h' tk' E' hfx' hi' hp' hC' F' N' off' ne')))
  k_with "m:CompEnd" => (k_dflt (refine' takesEnd ?zF_Tmainr49 ?zN_Tmainr49 ?zoff_Tmainr49 ?zS_Tmainr49 ?zp_Tmainr49 ?zk0_Tmainr49 ?zk1_Tmainr49; (case zF_Tmainr49 => k_asm); (case zN_Tmainr49 => k_asm)); (case zoff_Tmainr49 => k_asm); (case zS_Tmainr49 => exact fun _ => trivial); (case zp_Tmainr49 => k_asm); (case zk0_Tmainr49 => k_asm); (case zk1_Tmainr49 => k_asm))
  k_with "m:FinE" => ((unfold LCg.FinE); intro D' h' tk' F' N' o1'; (try simp only [LCg.Off1, and_true] at o1'); (repeat (have := And.left o1'; replace o1' := And.right o1')))
  k_with "m:call type:bytes" => (k_here; k_dflt (refine' bytes_ints ?zN_Tmainr51 ?zm_Tmainr51 ?zi_Tmainr51 ?zr_Tmainr51 ?zz_Tmainr51 ?zh_Tmainr51 ?zF_Tmainr51 ?_; (case zN_Tmainr51 => k_asm); (case zF_Tmainr51 => k_asm); (case zh_Tmainr51 => exact rfl); (case zm_Tmainr51 => k_mem)); (case zi_Tmainr51 => k_asm); (case zr_Tmainr51 => k_asm); (case zz_Tmainr51 => lia); intro t' h' k' F' N' hbz')
  k_with "m:call ref" => (k_here; (with_reducible show wpAny _ _ (call (Value.ref 85) _) _ _ _); k_dflt (refine' callPure (octt_ok _ _ _ ?zh_Tmainr52) ?zB_Tmainr52 ?zF_Tmainr52 ?zX_Tmainr52 ?zN_Tmainr52 ?zT_Tmainr52 ?zA_Tmainr52 ?zf_Tmainr52 ?zk_Tmainr52 ?zd_Tmainr52 ?zu_Tmainr52 ?_; (case zF_Tmainr52 => k_asm); (case zB_Tmainr52 => k_asm); (case zX_Tmainr52 => k_asm); (case zN_Tmainr52 => k_asm); (case zT_Tmainr52 => k_asm); (case zA_Tmainr52 => exact rfl); (case zf_Tmainr52 => exact rfl); (case zk_Tmainr52 => exact rfl); (case zd_Tmainr52 => ktr_room); (case zu_Tmainr52 => ktr_units)); (case zh_Tmainr52 => k_extra "m:my_b4"); intro v' ns' h' tk' P' F' N' l1; obtain ⟨e1, t', e2⟩ := P'; subst e1 e2; clear l1; (try simp only [List.nil_append] at N'))
  k_with "m:pyIter ref" => (k_here; k_dflt (refine' iter_texts ?zh_Tmainr53 ?zF_Tmainr53 ?zN_Tmainr53 ?zr_Tmainr53 ?zm1_Tmainr53 ?zm2_Tmainr53 ?zm3_Tmainr53 ?zx_Tmainr53 ?zsg_Tmainr53 ?zmm_Tmainr53 ?zO_Tmainr53 ?zp_Tmainr53 ?_ ?_; (case zh_Tmainr53 => exact rfl); (case zF_Tmainr53 => k_asm); (case zN_Tmainr53 => k_asm)); (case zr_Tmainr53 => k_asm); k_dflt ((case zm1_Tmainr53 => k_extra "m:my_var"); (case zm2_Tmainr53 => k_extra "m:my_var"); (case zm3_Tmainr53 => k_extra "m:my_var")); (case zx_Tmainr53 => exact oct_11 (by k_extra "m:my_b4")); (case zsg_Tmainr53 => exact oct_sg); (case zp_Tmainr53 => k_asm); (case zmm_Tmainr53 => k_dflt k_mem); (case zO_Tmainr53 => k_dflt (k_extra "m:my_outF")); rotate_left; (intro a' b' c' ta' tb' tc' ep' m' h' tk' hc1' hc2' F' N'); rotate_right; (intro I' i' t' it' a' b' c' ta' tb' tc' ep' x' tx' m' h' tk' hfI' hlI' hi' hp' hc1' hc2' hc3' hxl' hxl2' hlim' hsg' F' N'))
  k_with "m:call ref" => (k_here; (with_reducible show wpAny _ _ (call (Value.ref 273) _) _ _ _); k_dflt (refine' callT (heard_ok _ _ _ ?zh_Tmainr54 ?zh2_Tmainr54) ?zB_Tmainr54 ?zF_Tmainr54 ?zX_Tmainr54 ?zN_Tmainr54 ?zT_Tmainr54 ?zA_Tmainr54 ?zf_Tmainr54 ?zk_Tmainr54 ?zd_Tmainr54 ?zu_Tmainr54 ?_; (case zF_Tmainr54 => k_asm); (case zB_Tmainr54 => k_asm); (case zX_Tmainr54 => k_asm); (case zN_Tmainr54 => k_asm); (case zT_Tmainr54 => k_asm); (case zA_Tmainr54 => exact rfl); (case zf_Tmainr54 => exact rfl); (case zk_Tmainr54 => exact rfl); (case zd_Tmainr54 => ktr_room); (case zu_Tmainr54 => ktr_units)); (case zh_Tmainr54 => k_extra "m:my_xl"); (case zh2_Tmainr54 => exact lower_signs (by k_extra "m:my_xs")); intro v' ns' h' tk' P' F' N'; (have P1' := P'.2); clear P')
  k_with "m:my_xl" => first | exact bent_95 (by assumption) (by assumption) (by assumption) | exact oct_100 (by k_extra "m:my_b4")
  k_with "m:my_b4" => exact size_le (by assumption) (by assumption) (by assumption)
  k_with "m:my_xs" => first | exact bent_sg (by assumption) (by assumption) (by first | (unfold Signs; decide) | (unfold Signs; decide +kernel)) | exact oct_sg
  k_with "m:call ref" => (k_here; (with_reducible show wpAny _ _ (call (Value.ref 278) _) _ _ _); k_dflt (refine' callPure (read_ok _ _ _ ?zh_Tmainr58 ?zh1_Tmainr58 ?zh2_Tmainr58) ?zB_Tmainr58 ?zF_Tmainr58 ?zX_Tmainr58 ?zN_Tmainr58 ?zT_Tmainr58 ?zA_Tmainr58 ?zf_Tmainr58 ?zk_Tmainr58 ?zd_Tmainr58 ?zu_Tmainr58 ?_; (case zF_Tmainr58 => k_asm); (case zB_Tmainr58 => k_asm); (case zX_Tmainr58 => k_asm); (case zN_Tmainr58 => k_asm); (case zT_Tmainr58 => k_asm); (case zA_Tmainr58 => exact rfl); (case zf_Tmainr58 => exact rfl); (case zk_Tmainr58 => exact rfl); (case zd_Tmainr58 => ktr_room); (case zu_Tmainr58 => ktr_units)); (case zh_Tmainr58 => k_extra "m:my_xl"); (case zh1_Tmainr58 => k_dflt (k_extra "m:my_xl")); (case zh2_Tmainr58 => k_extra "m:my_xs"); intro v' ns' h' tk' P' F' N' l1; obtain ⟨e1, P2'⟩ := P'; subst e1; clear l1; (try simp only [List.nil_append] at N'))
  k_with "m:compareOp NotEq" => (k_here; k_dflt (first | (refine' cmp_read ?zh1_Tmainr59 ?zh2_Tmainr59 ?_; (case zh1_Tmainr59 => exact heard_read2 (by assumption) (by k_extra "m:my_xs")); (case zh2_Tmainr59 => k_asm)) | exact EqNone.ne_none_none (by assumption) | (refine' cmp_tups ?zN_Tmainr59 ?zD_Tmainr59 ?zdt_Tmainr59 ?zT_Tmainr59 ?ztt_Tmainr59 ?zs_Tmainr59 ?zu_Tmainr59 ?_; (case zN_Tmainr59 => k_asm); (case zD_Tmainr59 => k_mem); (case zdt_Tmainr59 => exact ⟨rfl, _, _, _, _, rfl⟩); (case zT_Tmainr59 => k_extra "m:my_mr"); (case ztt_Tmainr59 => k_asm); (case zs_Tmainr59 => k_asm); (case zu_Tmainr59 => ktr_units))))
  k_with "m:getMethod ref" => (k_here; (with_reducible show wpAny _ _ (getMethod (Value.ref _) (Str.ofString "get") _) _ _ _); k_dflt (refine kdg_method (knd := PySem.strKind _ _) (by k_asm) (by k_mem) (by assumption) ?_))
  k_with "m:call builtin:dict.get" => (k_here; k_dflt (refine kdg_get1 (knd := PySem.strKind _ _) (by k_asm) (by k_mem) (by assumption) (by assumption) (strKind_is _ _ _ _) _ (by assumption) ?_); (try dsimp only [Option.getD]))
  k_with "m:UnrEndW" => (k_dflt (refine' penEnd ?zF_Tmainr62 ?zN_Tmainr62 ?zf_Tmainr62 ?zl_Tmainr62 ?zsub_Tmainr62 ?zp_Tmainr62 ?zj_Tmainr62 ?zC_Tmainr62; (case zF_Tmainr62 => k_asm); (case zN_Tmainr62 => k_asm)); (case zf_Tmainr62 => k_asm); (case zl_Tmainr62 => k_asm); (case zsub_Tmainr62 => k_dflt (k_extra "m:my_sub")); (case zp_Tmainr62 => k_asm); (case zj_Tmainr62 => first | lia | (dsimp only; lia)); (case zC_Tmainr62 => k_dflt (k_extra "m:my_C")))
  k_with "m:my_C" => first | exact ⟨by k_extra "m:my_varb", by k_extra "m:my_varb", by k_extra "m:my_varb"⟩ | exact ⟨⟨by k_extra "m:my_varb", by k_extra "m:my_varb"⟩, _, _, by k_extra "m:my_varb", bent_lim (by assumption) (by assumption) (by assumption), by k_extra "m:my_xs"⟩
  k_with "m:compareOp Eq" => (k_here; k_dflt (refine' cmp_back ?zh_Tmainr64 ?_; (case zh_Tmainr64 => k_asm)))
  k_with "m:call ref" => (k_here; (with_reducible show wpAny _ _ (call (Value.ref 242) [Value.ref _, Value.int 256 _]) _ _ _); k_dflt (refine' callTakeC ?zp_Tmainr65 ?zj_Tmainr65 ?zn_Tmainr65 ?zn2_Tmainr65 ?zB_Tmainr65 ?zF_Tmainr65 ?zX_Tmainr65 ?zN_Tmainr65 ?zoff_Tmainr65 ?zfx_Tmainr65 ?zT_Tmainr65 ?zA_Tmainr65 ?zf_Tmainr65 ?zk_Tmainr65 ?zd_Tmainr65 ?zu_Tmainr65 ?_; (case zF_Tmainr65 => k_asm); (case zB_Tmainr65 => k_asm); (case zX_Tmainr65 => k_asm); (case zN_Tmainr65 => k_asm); (case zT_Tmainr65 => k_asm); (case zA_Tmainr65 => exact rfl); (case zf_Tmainr65 => exact rfl); (case zk_Tmainr65 => exact rfl); (case zd_Tmainr65 => ktr_room); (case zu_Tmainr65 => ktr_units)); (case zp_Tmainr65 => k_asm); (case zoff_Tmainr65 => k_asm); (case zfx_Tmainr65 => k_asm); (case zj_Tmainr65 => lia); (case zn_Tmainr65 => decide); (case zn2_Tmainr65 => decide); intro k' a' b' c' ta' tb' tc' t' ep' h' tk' k0' k1' hp' F' N')
  k_with "m:my_n1" => ((try refine neN ?_); (try dsimp only); first | with_reducible assumption | (refine Ne.symm ?_; with_reducible assumption) | (refine Nat.ne_of_gt ?_; with_reducible assumption) | (refine Nat.ne_of_lt ?_; with_reducible assumption) | lia)
  k_with "m:call ref" => (k_here; (with_reducible show wpAny _ _ (call (Value.ref 259) _) _ _ _); k_dflt (refine' callN (nums_ok _ _ _ _ _ ?z1_Tmainr67 ?z2_Tmainr67 ?z3_Tmainr67 ?z4_Tmainr67 ?z5_Tmainr67) ?zC_Tmainr67 ?zF_Tmainr67 ?zX_Tmainr67 ?zN_Tmainr67 ?zT_Tmainr67 ?zus_Tmainr67 ?zA_Tmainr67 ?zf_Tmainr67 ?zk_Tmainr67 ?zd_Tmainr67 ?zu_Tmainr67 ?_; (case zF_Tmainr67 => k_asm); (case zX_Tmainr67 => k_asm); (case zN_Tmainr67 => k_asm); (case zT_Tmainr67 => k_asm); (case zA_Tmainr67 => exact rfl); (case zf_Tmainr67 => exact rfl); (case zk_Tmainr67 => exact rfl); (case zd_Tmainr67 => ktr_room); (case zu_Tmainr67 => ktr_units)); (case z1_Tmainr67 => k_asm); (case z2_Tmainr67 => k_asm); (case z3_Tmainr67 => k_asm); (case z4_Tmainr67 => k_asm); (case z5_Tmainr67 => first | assumption | exact Ne.symm (by assumption)); (case zC_Tmainr67 => k_asm); (case zus_Tmainr67 => k_dflt (k_extra "m:my_us")); intro v' h' tk' P' F' G'; subst P'; k_dflt (exact ⟨law_fin9 F' (by first | with_reducible assumption | assumption) rfl, G', trivial⟩))
  k_with "m:my_us" => (refine List.forall_mem_cons.mpr ⟨by k_mem, List.forall_mem_cons.mpr ⟨by k_mem, ?_⟩⟩; intro u9 hu9; (repeat (with_reducible refine List.mem_cons_of_mem _ ?_)); first | exact hu9 | exact List.mem_append_right _ hu9)
  trivial

set_option maxRecDepth 100000 in
set_option maxHeartbeats 8000000 in
theorem t_main : Challenge.rw_qz0048_01.Holds := by
  w_top off
  refine hd ?_
  k_go0
  all_goals (try k_fold)
  k_steps
end Mine
end
end
theorem PySem.Challenge.cw_qz0048_01_holds : PySem.Challenge.rw_qz0048_01.Holds := by
  exact Mine.t_main
