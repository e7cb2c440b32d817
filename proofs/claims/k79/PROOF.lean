import PyProof.Rows.All
import Wide.All
import OpenK.AllK
import Wide.FinOn
import HandS.Base
import HandS.Call
import HandS.List
import HandS.Comp
import HandS.Dict
import HandS.Iter
import HandS.Text
import HandS.Steps
import HandS.Words
import HandS.Defaults
import HandS.Evl
import HandS.Wide
import HandS.StrMore
import HandS.IsInst
import HandS.Style
import HandS.Flow
import HandS.HeadHook2
import HandS.Deep
import HandS.SortRule
import PyProof.Rows.StrRev
import PyProof.StrOps2
import PyProof.SliceStr2
import HandS.Property
import HandS.ClsMeth
import HandS.SortKw
import HandS.Zip
import HandS.WordsDict
import KE.DataMinMax
import PySem.Challenge.RW_wordruns_k79_whole_led_words_and_runs
import KE.KStateDown
import HandS.Head0
import HandS.Head1
import HandS.Head2
import HandS.HeadEnd
import HandS.HeadHook1
import PyProof.StrLawsIn
set_option Elab.async false
set_option linter.all false
set_option maxRecDepth 100000
set_option maxHeartbeats 0

/-! my own walk library: what a def computes as a plain Option function, and one rule a statement -/
namespace Wk
open PySem PySem.Spec PyProof.Rows L2

/-! ### heaps -/
def Ex (H H' : Hp) : Prop := ∀ a o, H a = some o → H' a = some o
theorem Ex.refl (H : Hp) : Ex H H := fun _ _ h => h
theorem Ex.trans {H H1 H2 : Hp} (a : Ex H H1) (b : Ex H1 H2) : Ex H H2 := fun x o h => b x o (a x o h)
/-- from B, H to B', H': the base B lies in H; only the objects at M change; what is new in the base was not in H -/
structure Stp (M : List Addr) (B H B' H' : Hp) : Prop where
  b : Ex B B'
  c : Ex B' H'
  h : ∀ q o, q ∉ M → H q = some o → H' q = some o
  n : ∀ q o, B' q = some o → B q = some o ∨ H q = none
  g : ∀ q, H' q = none → H q = none
section
variable {M M' : List Addr} {B H B' H' B1 H1 B2 H2 : Hp} {p : Addr} {o u : HO}
theorem Stp.refl (c : Ex B H) : Stp M B H B H := ⟨Ex.refl B, c, fun _ _ _ h => h, fun _ _ h => .inl h, fun _ h => h⟩
theorem Stp.trans (s : Stp M B H B1 H1) (t : Stp M' B1 H1 B2 H2) (hm : ∀ q, q ∈ M' → q ∈ M) : Stp M B H B2 H2 :=
  ⟨s.b.trans t.b, t.c, fun q o hq e => t.h q o (fun z => hq (hm q z)) (s.h q o hq e), fun q o e => (t.n q o e).elim (fun z => s.n q o z) (fun z => .inr (s.g q z)), fun q e => s.g q (t.g q e)⟩
theorem Stp.t0 (s : Stp M B H B1 H1) (t : Stp [] B1 H1 B2 H2) : Stp M B H B2 H2 := s.trans t (fun _ z => absurd z (by simp))
theorem ne_upd {p q : Addr} (h : q ≠ p) : upd H p o q = H q := upd_ne h
theorem Stp.newB (s : Stp M B0 H0 B H) (np : H p = none) : Stp M B0 H0 (upd B p o) (upd H p o) := by
  refine ⟨fun q u e => ?_, fun q u e => ?_, fun q u hq e => ?_, fun q u e => ?_, fun q e => ?_⟩
  · have e1 := s.b q u e
    have e2 := s.c q u e1
    have h : q ≠ p := fun z => by rw [z, np] at e2; cases e2
    rw [upd_ne h]; exact e1
  · by_cases h : q = p
    · subst h; rw [upd_same] at e ⊢; exact e
    · rw [upd_ne h] at e ⊢; exact s.c q u e
  · have e1 := s.h q u hq e
    have h : q ≠ p := fun z => by rw [z, np] at e1; cases e1
    rw [upd_ne h]; exact e1
  · by_cases h : q = p
    · subst h; exact .inr (s.g q np)
    · rw [upd_ne h] at e; exact s.n q u e
  · by_cases h : q = p
    · subst h; rw [upd_same] at e; cases e
    · rw [upd_ne h] at e; exact s.g q e
theorem Stp.newO (s : Stp M B0 H0 B H) (np : H p = none) : Stp M B0 H0 B (upd H p o) := by
  refine ⟨s.b, fun q u e => ?_, fun q u hq e => ?_, s.n, fun q e => ?_⟩
  · have e2 := s.c q u e
    have h : q ≠ p := fun z => by rw [z, np] at e2; cases e2
    rw [upd_ne h]; exact e2
  · have e1 := s.h q u hq e
    have h : q ≠ p := fun z => by rw [z, np] at e1; cases e1
    rw [upd_ne h]; exact e1
  · by_cases h : q = p
    · subst h; rw [upd_same] at e; cases e
    · rw [upd_ne h] at e; exact s.g q e
/-- an owned object changes -/
theorem Stp.mut (s : Stp M B0 H0 B H) (z : H0 p = none ∨ p ∈ M) (nb : B p = none) : Stp M B0 H0 B (upd H p o) := by
  refine ⟨s.b, fun q u e => ?_, fun q u hq e => ?_, s.n, fun q e => ?_⟩
  · have h : q ≠ p := fun z => by rw [z, nb] at e; cases e
    rw [upd_ne h]; exact s.c q u e
  · have h : q ≠ p := fun y => by
      subst y
      rcases z with z | z
      · rw [z] at e; cases e
      · exact hq z
    rw [upd_ne h]; exact s.h q u hq e
  · by_cases h : q = p
    · subst h; rw [upd_same] at e; cases e
    · rw [upd_ne h] at e; exact s.g q e
/-- an owned object is given to the base -/
theorem Stp.give (s : Stp M B0 H0 B H) (hp : H p = some o) (z : H0 p = none) : Stp M B0 H0 (upd B p o) H := by
  refine ⟨fun q u e => ?_, fun q u e => ?_, s.h, fun q u e => ?_, s.g⟩
  · have e1 := s.b q u e
    by_cases h : q = p
    · subst h
      have e2 := s.c q u e1
      rw [hp] at e2
      rw [upd_same]; exact e2
    · rw [upd_ne h]; exact e1
  · by_cases h : q = p
    · subst h; rw [upd_same] at e; rw [hp]; exact e
    · rw [upd_ne h] at e; exact s.c q u e
  · by_cases h : q = p
    · subst h; exact .inr z
    · rw [upd_ne h] at e; exact s.n q u e
/-- an owned object stays out of the base -/
theorem Stp.out (s : Stp M B H B' H') (nb : B p = none) (hp : H p = some o) : B' p = none := by
  cases e : B' p with
  | none => rfl
  | some u =>
    rcases s.n p u e with z | z
    · rw [nb] at z; cases z
    · rw [hp] at z; cases z
theorem Stp.zero (s : Stp M B H B' H') (hp : H' p = none) : H p = none := s.g p hp
theorem ex_upd (e : Ex B H) (np : H p = none) : Ex B (upd B p o) := fun q u h => by
  have e1 := e q u h
  have z : q ≠ p := fun y => by rw [y, np] at e1; cases e1
  rw [upd_ne z]; exact h
theorem ex_give (e : Ex B H) (hp : H p = some o) : Ex B (upd B p o) := fun q u h => by
  by_cases z : q = p
  · subst z
    have e1 := e q u h
    rw [hp] at e1
    rw [upd_same]; exact e1
  · rw [upd_ne z]; exact h
theorem B_none (e : Ex B H) (np : H p = none) : B p = none := by
  cases h : B p with
  | none => rfl
  | some u => rw [e p u h] at np; cases np
theorem ne_none {q : Addr} (hp : H p = some o) (hq : H q = none) : p ≠ q := ne_of_none hp hq
theorem upd_ne' {q : Addr} (h : q ≠ p) (e : H q = some u) : upd H p o q = some u := by rw [upd_ne h]; exact e
theorem upd_none {q : Addr} (h : q ≠ p) (e : H q = none) : upd H p o q = none := by rw [upd_ne h]; exact e
end
/-! ### lists of values -/
inductive All2 {α β : Type} (r : α → β → Prop) : List α → List β → Prop
  | nil : All2 r [] []
  | cons {a b as bs} : r a b → All2 r as bs → All2 r (a :: as) (b :: bs)
namespace All2
variable {α β : Type} {r q : α → β → Prop}
theorem length : ∀ {xs : List α} {ys : List β}, All2 r xs ys → xs.length = ys.length
  | _, _, .nil => rfl
  | _, _, .cons _ h => by simp [length h]
theorem imp (f : ∀ a b, r a b → q a b) : ∀ {xs : List α} {ys : List β}, All2 r xs ys → All2 q xs ys
  | _, _, .nil => .nil
  | _, _, .cons h t => .cons (f _ _ h) (imp f t)
theorem get : ∀ {xs : List α} {ys : List β}, All2 r xs ys → ∀ {i : Nat} {x : α} {y : β}, xs[i]? = some x → ys[i]? = some y → r x y
  | _, _, .nil, i, _, _, h, _ => by simp at h
  | _, _, .cons h t, 0, _, _, e, f => by
    simp at e f
    subst e f
    exact h
  | _, _, .cons h t, i + 1, _, _, e, f => by
    simp at e f
    exact get t e f
theorem at_ : ∀ {xs : List α} {ys : List β}, All2 r xs ys → ∀ {i : Nat} {y : β}, ys[i]? = some y → ∃ x, xs[i]? = some x ∧ r x y
  | _, _, .nil, i, _, h => by simp at h
  | x :: _, _, .cons h t, 0, _, f => by
    simp at f
    subst f
    exact ⟨x, rfl, h⟩
  | _, _, .cons h t, i + 1, _, f => by
    simp at f
    obtain ⟨x, e, k⟩ := at_ t f
    exact ⟨x, by simpa using e, k⟩
theorem append : ∀ {xs : List α} {ys : List β} {xs' : List α} {ys' : List β}, All2 r xs ys → All2 r xs' ys' → All2 r (xs ++ xs') (ys ++ ys')
  | _, _, _, _, .nil, h => h
  | _, _, _, _, .cons h t, h' => .cons h (append t h')
theorem snoc {xs : List α} {ys : List β} {x : α} {y : β} (h : All2 r xs ys) (e : r x y) : All2 r (xs ++ [x]) (ys ++ [y]) := append h (.cons e .nil)
end All2
/-! ### the plain computations -/
inductive Fl (σ ρ : Type) where
  | nx (s : σ) | br (s : σ) | rt (r : ρ)
theorem bind_some {α β : Type} {m : Option α} {f : α → Option β} {r : β} (h : m.bind f = some r) : ∃ x, m = some x ∧ f x = some r := by
  cases m with
  | none => cases h
  | some x => exact ⟨x, rfl, h⟩
/-- a check of a size: what the model asks -/
def ask (c : Prop) [Decidable c] : Option Unit := if c then some () else none
theorem ask_some {c : Prop} [Decidable c] {β : Type} {f : Unit → Option β} {r : β} (h : (ask c).bind f = some r) : c ∧ f () = some r := by
  unfold ask at h
  by_cases k : c
  · rw [if_pos k] at h; exact ⟨k, h⟩
  · rw [if_neg k] at h; cases h
def forN {α σ : Type} (f : α → σ → Option σ) : List α → σ → Option σ
  | [], s => some s
  | x :: xs, s => (f x s).bind fun s' => forN f xs s'
def forR {α σ ρ : Type} (f : α → σ → Option (Fl σ ρ)) : List α → σ → Option (Fl σ ρ)
  | [], s => some (.nx s)
  | x :: xs, s => (f x s).bind fun t => match t with
    | .nx s' => forR f xs s'
    | .br s' => some (.nx s')
    | .rt r => some (.rt r)
def whileN {σ : Type} (c : σ → Option Bool) (f : σ → Option σ) : Nat → σ → Option σ
  | 0, _ => none
  | n + 1, s => (c s).bind fun b => if b = true then (f s).bind fun s' => whileN c f n s' else some s
def whileR {σ ρ : Type} (c : σ → Option Bool) (f : σ → Option (Fl σ ρ)) : Nat → σ → Option (Fl σ ρ)
  | 0, _ => none
  | n + 1, s => (c s).bind fun b => if b = true then (f s).bind fun t => (match t with
    | .nx s' => whileR c f n s'
    | .br s' => some (.nx s')
    | .rt r => some (.rt r)) else some (.nx s)
def mapO {α β : Type} (f : α → Option β) : List α → Option (List β)
  | [] => some []
  | x :: xs => (f x).bind fun y => (mapO f xs).bind fun ys => some (y :: ys)
/-- a comprehension with a test -/
def filO {α β : Type} (t : α → Option Bool) (f : α → Option β) : List α → Option (List β)
  | [] => some []
  | x :: xs => (t x).bind fun b => if b = true then (f x).bind fun y => (filO t f xs).bind fun ys => some (y :: ys) else filO t f xs
/-- range(a, b) -/
def rng (a b : Int) : List Int := (List.range (b - a).toNat).map fun (i : Nat) => a + i
theorem rng_len (a b : Int) : (rng a b).length = (b - a).toNat := by simp [rng]
theorem rng_get {a b : Int} {i : Nat} {x : Int} (h : (rng a b)[i]? = some x) : i < (b - a).toNat ∧ x = a + i := by
  unfold rng at h
  rw [List.getElem?_map] at h
  by_cases k : i < (b - a).toNat
  · rw [List.getElem?_range k] at h
    simp at h
    exact ⟨k, h.symm⟩
  · rw [List.getElem?_eq_none (by simp; omega)] at h
    cases h
/-! ### readings -/
section
variable {σ σ' : L2.St} {H : Hp} {Q : VK} {te ta tb : TE} {tr : TA} {v x y z : V} {D : Ends} {Nx Ct Bk : L2.St → Hp → Prop} {Rt : VK} {t u : TS} {i : Nat} {tt : TT} {b : Bool} {r : R2} {K : PySem.W.Frag}
theorem go (h : Val te σ H v) (q : Q v H) : te σ H Q := h Q q
theorem goT {Q : Bool → Hp → Prop} (h : Ans tt σ H b) (q : Q b H) : tt σ H Q := h Q q
theorem q_seq (h : t ⟨u ⟨Nx, Rt, Bk, Ct⟩, Rt, Bk, Ct⟩ σ H) : tSeq t u ⟨Nx, Rt, Bk, Ct⟩ σ H := h
theorem q_set (h : te σ H fun x H1 => Nx (σ.set i (some x)) H1) : tAsg te (gName i) ⟨Nx, Rt, Bk, Ct⟩ σ H := h
theorem q_nx {N : L2.St → Hp → Prop} (e : σ = σ') (h : N σ' H) : N σ H := by rw [e]; exact h
theorem q_ret (h : te σ H Rt) : tRet te ⟨Nx, Rt, Bk, Ct⟩ σ H := h
theorem q_drop (h : te σ H fun _ H1 => Nx σ H1) : tDrop te ⟨Nx, Rt, Bk, Ct⟩ σ H := h
theorem q_if {c : TT} (h : c σ H fun b H1 => if b = true then t D σ H1 else u D σ H1) : tIfS c t u D σ H := h
theorem if_t {p q : Prop} {b : Bool} (e : b = true) (h : p) : if b = true then p else q := by rw [if_pos e]; exact h
theorem if_f {p q : Prop} {b : Bool} (e : b = false) (h : q) : if b = true then p else q := by rw [if_neg (by rw [e]; decide)]; exact h
theorem q_call {sp : Sp} {dvs : List V} {E : XK} (h : tr σ H fun vs H1 => sp (vs ++ dvs) H1 Q E) : tCall sp dvs E tr σ H Q := h
theorem q_cons {Q : List V → Hp → Prop} (h : te σ H fun x H1 => tr σ H1 fun xs H2 => Q (x :: xs) H2) : tCons te tr σ H Q := h
theorem q_nil {Q : List V → Hp → Prop} (h : Q [] H) : tNil σ H Q := h
theorem q_op (h : ta σ H fun x H1 => tb σ H1 fun y H2 => r x y H2 Q) : tOp r ta tb σ H Q := h
theorem q_cb {rc : List V → Hp → VK → Prop} (h : tr σ H fun vs H1 => rc vs H1 Q) : tCB rc tr σ H Q := h
theorem q_next (h : Nx σ H) : tNext ⟨Nx, Rt, Bk, Ct⟩ σ H := h
theorem q_test (h : te σ H fun x H' => ∃ k, x = .bl k ∧ Q' k H') : tTest te σ H Q' := h
/-! values -/
theorem v_var (h : σ[i]? = some (some v)) : Val (tVar i) σ H v := fun _ q => ⟨v, h, q⟩
theorem v_c : Val (tC v) σ H v := fun _ q => q
theorem v_op (ha : Val ta σ H x) (hb : Val tb σ H y) (hr : ∀ Q : VK, Q z H → r x y H Q) : Val (tOp r ta tb) σ H z := fun Q q => ha _ (hb _ (hr _ q))
theorem v_I0 {g : Int → Int → V} {i j : Int} : ∀ Q : VK, Q (g i j) H → rI0 g (.int i) (.int j) H Q := fun _ q => ⟨i, j, rfl, rfl, q⟩
theorem v_I {C : Int → Int → Prop} {g : Int → Int → V} {i j : Int} (h : C i j) : ∀ Q : VK, Q (g i j) H → rI C g (.int i) (.int j) H Q := fun _ q => ⟨i, j, rfl, rfl, h, q⟩
theorem v_un {ru : V → Hp → VK → Prop} (ha : Val ta σ H x) (hr : ∀ Q : VK, Q z H → ru x H Q) : Val (tUn ru ta) σ H z := fun Q q => ha _ (hr _ q)
theorem v_neg {i : Int} : ∀ Q : VK, Q (.int (-i)) H → rU (fun i => .int (-i)) (.int i) H Q := fun _ q => ⟨i, rfl, q⟩
theorem v_eqI {i j : Int} : ∀ Q : VK, Q (.bl (decide (i = j))) H → rEq (.int i) (.int j) H Q := fun Q q => ⟨rfl, by
  have e : decide (V.int i = V.int j) = decide (i = j) := by
    by_cases h : i = j
    · rw [h]; simp
    · rw [decide_eq_false h, decide_eq_false (fun z => h (V.int.inj z))]
  rw [e]; exact q⟩
theorem v_neI {i j : Int} : ∀ Q : VK, Q (.bl (decide (i ≠ j))) H → rNe (.int i) (.int j) H Q := fun Q q => ⟨rfl, by
  have e : (!decide (V.int i = V.int j)) = decide (i ≠ j) := by
    by_cases h : i = j
    · rw [h]; simp
    · rw [decide_eq_false (fun z => h (V.int.inj z)), decide_eq_true h]; rfl
  rw [e]; exact q⟩
theorem v_tb (ha : Val ta σ H (.bl b)) : Ans (tTest ta) σ H b := fun _ q => ha _ ⟨b, rfl, q⟩
theorem v_tB (ha : Val ta σ H (.bl b)) : Ans (tB ta) σ H b := fun _ q => ha _ ⟨b, rfl, q⟩
theorem v_not (ha : Ans tt σ H b) : Ans (tNot tt) σ H (!b) := fun _ q => ha _ q
theorem v_and {t u : TT} {a c : Bool} {k : Option Bool} (ha : Ans t σ H a) (e : (if a = true then k else some false) = some c) (hb : a = true → k = some c → Ans u σ H c) : Ans (tAnd t u) σ H c := fun Q q => ha _ (by
  cases a with
  | true => exact if_t rfl (hb rfl e Q q)
  | false =>
    have e1 : false = c := Option.some.inj e
    subst e1
    exact if_f rfl q)
theorem v_or {t u : TT} {a c : Bool} {k : Option Bool} (ha : Ans t σ H a) (e : (if a = true then some true else k) = some c) (hb : a = false → k = some c → Ans u σ H c) : Ans (tOr t u) σ H c := fun Q q => ha _ (by
  cases a with
  | true =>
    have e1 : true = c := Option.some.inj e
    subst e1
    exact if_t rfl q
  | false => exact if_f rfl (hb rfl e Q q))
end
/-! ### loops -/
section
variable {K : PySem.W.Frag} {α S ρ : Type} {g : TG} {tb : TS} {Nx Ct Bk : L2.St → Hp → Prop} {Rt : VK} {σ : L2.St} {H : Hp} {J : It} {xs : List α}
theorem drop_at {xs : List α} {i : Nat} (h : i < xs.length) : xs.drop i = xs[i] :: xs.drop (i + 1) := List.drop_eq_getElem_cons h
theorem for_N {f : α → S → Option S} {s0 s1 : S} (Inv : S → L2.St → Hp → Prop) (e : forN f xs s0 = some s1) (h0 : Inv s0 σ H)
    (hst : ∀ s σ H, Inv s σ H → J.stop xs.length H) (hgo : ∀ i x s σ H, xs[i]? = some x → Inv s σ H → J.go i H)
    (hs : ∀ i x s s' σ H, xs[i]? = some x → Inv s σ H → f x s = some s' → ∀ v H', J.yld i H v H' → ∀ N : L2.St → Hp → Prop, (∀ σ' H', Inv s' σ' H' → N σ' H') → g v σ H' fun σ2 H2 => tb ⟨N, Rt, Nx, N⟩ σ2 H2)
    (hd : ∀ σ H, Inv s1 σ H → Nx σ H) :
    ∃ W : Nat → Nat → L2.St → Hp → Prop, (∃ m, W 0 m σ H) ∧ ∀ i m σ H, W i m σ H →
      (J.stop i H ∧ Nx σ H) ∨ (J.go i H ∧ ∃ N : L2.St → Hp → Prop, (∀ σ' H', N σ' H' → ∃ m', m' < m ∧ W (i + 1) m' σ' H') ∧ ∀ x H', J.yld i H x H' → g x σ H' fun σ2 H2 => tb ⟨N, Rt, Nx, N⟩ σ2 H2) := by
  refine ⟨fun i m σ H => m = xs.length - i ∧ i ≤ xs.length ∧ ∃ s, Inv s σ H ∧ forN f (xs.drop i) s = some s1, ⟨xs.length, by simp, Nat.zero_le _, s0, h0, e⟩, ?_⟩
  rintro i m σ H ⟨rfl, hi, s, hI, hf⟩
  by_cases hlt : i < xs.length
  · have hx : xs[i]? = some xs[i] := by simp [hlt]
    rw [drop_at hlt] at hf
    obtain ⟨s', e1, e2⟩ := bind_some hf
    refine .inr ⟨hgo i _ s σ H hx hI, fun σ' H' => ∃ s', Inv s' σ' H' ∧ forN f (xs.drop (i + 1)) s' = some s1, fun σ' H' ⟨s', a, b⟩ => ⟨xs.length - (i + 1), by omega, rfl, hlt, s', a, b⟩, fun v H' hy => ?_⟩
    exact hs i _ s s' σ H hx hI e1 v H' hy _ fun σ' H' k => ⟨s', k, e2⟩
  · have hl : i = xs.length := by omega
    subst hl
    have e1 : s = s1 := by
      rw [List.drop_length] at hf
      exact Option.some.inj hf
    subst e1
    exact .inl ⟨hst s σ H hI, hd σ H hI⟩
theorem for_R {f : α → S → Option (Fl S ρ)} {s0 : S} {r : Fl S ρ} (Inv : S → L2.St → Hp → Prop) (e : forR f xs s0 = some r) (h0 : Inv s0 σ H)
    (hst : ∀ s σ H, Inv s σ H → J.stop xs.length H) (hgo : ∀ i x s σ H, xs[i]? = some x → Inv s σ H → J.go i H)
    (hs : ∀ i x s t σ H, xs[i]? = some x → Inv s σ H → f x s = some t → ∀ v H', J.yld i H v H' → ∀ N Bk' : L2.St → Hp → Prop,
      (match t with
        | .nx s' => ∀ σ' H', Inv s' σ' H' → N σ' H'
        | .br s' => ∀ σ' H', Inv s' σ' H' → Bk' σ' H'
        | .rt q => r = .rt q) → g v σ H' fun σ2 H2 => tb ⟨N, Rt, Bk', N⟩ σ2 H2)
    (hd : ∀ s σ H, r = .nx s → Inv s σ H → Nx σ H) :
    ∃ W : Nat → Nat → L2.St → Hp → Prop, (∃ m, W 0 m σ H) ∧ ∀ i m σ H, W i m σ H →
      (J.stop i H ∧ Nx σ H) ∨ (J.go i H ∧ ∃ N : L2.St → Hp → Prop, (∀ σ' H', N σ' H' → ∃ m', m' < m ∧ W (i + 1) m' σ' H') ∧ ∀ x H', J.yld i H x H' → g x σ H' fun σ2 H2 => tb ⟨N, Rt, Nx, N⟩ σ2 H2) := by
  refine ⟨fun i m σ H => m = xs.length - i ∧ i ≤ xs.length ∧ ∃ s, Inv s σ H ∧ forR f (xs.drop i) s = some r, ⟨xs.length, by simp, Nat.zero_le _, s0, h0, e⟩, ?_⟩
  rintro i m σ H ⟨rfl, hi, s, hI, hf⟩
  by_cases hlt : i < xs.length
  · have hx : xs[i]? = some xs[i] := by simp [hlt]
    rw [drop_at hlt] at hf
    obtain ⟨t, e1, e2⟩ := bind_some hf
    refine .inr ⟨hgo i _ s σ H hx hI, fun σ' H' => ∃ s', Inv s' σ' H' ∧ forR f (xs.drop (i + 1)) s' = some r, fun σ' H' ⟨s', a, b⟩ => ⟨xs.length - (i + 1), by omega, rfl, hlt, s', a, b⟩, fun v H' hy => ?_⟩
    refine hs i _ s t σ H hx hI e1 v H' hy _ Nx ?_
    cases t with
    | nx s' => exact fun σ' H' k => ⟨s', k, e2⟩
    | br s' => exact fun σ' H' k => hd s' σ' H' (Option.some.inj e2).symm k
    | rt q => exact (Option.some.inj e2).symm
  · have hl : i = xs.length := by omega
    subst hl
    have e1 : Fl.nx s = r := by
      rw [List.drop_length] at hf
      exact Option.some.inj hf
    exact .inl ⟨hst s σ H hI, hd s σ H e1.symm hI⟩
/-- the three sources: a list, a range, a text -/
theorem lst_st {a : Addr} {vs : List V} {Inv : S → L2.St → Hp → Prop} (hl : ∀ s σ H, Inv s σ H → SqL K H a vs) (n : vs.length = xs.length) : ∀ s σ H, Inv s σ H → (Itl K a).stop xs.length H :=
  fun s σ H h => ⟨vs, hl s σ H h, Nat.le_of_eq n⟩
theorem lst_go {a : Addr} {vs : List V} {Inv : S → L2.St → Hp → Prop} (hl : ∀ s σ H, Inv s σ H → SqL K H a vs) (n : vs.length = xs.length) : ∀ i x s σ H, xs[i]? = some x → Inv s σ H → (Itl K a).go i H :=
  fun i x s σ H e h => by
    have hi : i < vs.length := by
      rw [n]
      exact (List.getElem?_eq_some_iff.mp e).1
    exact ⟨vs, vs[i], hl s σ H h, by simp [hi]⟩
theorem lst_yld {a : Addr} {vs : List V} {v : V} {H' : Hp} {i : Nat} (h : (Itl K a).yld i H v H') (hl : SqL K H a vs) : H = H' ∧ vs[i]? = some v := ⟨h.1.symm, h.2 vs hl⟩
theorem tup_st {a : Addr} {vs : List V} {Inv : S → L2.St → Hp → Prop} (hl : ∀ s σ H, Inv s σ H → SqT K H a vs) (n : vs.length = xs.length) : ∀ s σ H, Inv s σ H → (Itt K a).stop xs.length H :=
  fun s σ H h => ⟨vs, hl s σ H h, Nat.le_of_eq n⟩
theorem tup_go {a : Addr} {vs : List V} {Inv : S → L2.St → Hp → Prop} (hl : ∀ s σ H, Inv s σ H → SqT K H a vs) (n : vs.length = xs.length) : ∀ i x s σ H, xs[i]? = some x → Inv s σ H → (Itt K a).go i H :=
  fun i x s σ H e h => by
    have hi : i < vs.length := by
      rw [n]
      exact (List.getElem?_eq_some_iff.mp e).1
    exact ⟨vs, vs[i], hl s σ H h, by simp [hi]⟩
theorem tup_yld {a : Addr} {vs : List V} {v : V} {H' : Hp} {i : Nat} (h : (Itt K a).yld i H v H') (hl : SqT K H a vs) : H = H' ∧ vs[i]? = some v := ⟨h.1.symm, h.2 vs hl⟩
theorem rng_st {lo hi : Int} {Inv : S → L2.St → Hp → Prop} : ∀ s σ H, Inv s σ H → (Itr lo (hi - lo).toNat).stop (rng lo hi).length H := fun _ _ _ _ => by
  rw [rng_len]; exact Nat.le_refl _
theorem rng_go {lo hi : Int} {Inv : S → L2.St → Hp → Prop} : ∀ i x s σ H, (rng lo hi)[i]? = some x → Inv s σ H → (Itr lo (hi - lo).toNat).go i H := fun i x _ _ _ e _ => (rng_get e).1
theorem rng_yld {lo hi x : Int} {n : Nat} {v : V} {H' : Hp} {i : Nat} (h : (Itr lo n).yld i H v H') (e : (rng lo hi)[i]? = some x) : H = H' ∧ v = .int x := ⟨h.1.symm, by rw [h.2, (rng_get e).2]⟩
theorem str_st {l : List Nat} {Inv : S → L2.St → Hp → Prop} : ∀ s σ H, Inv s σ H → (Its ⟨l.toArray⟩).stop l.length H := fun _ _ _ _ => Nat.le_refl _
theorem str_go {l : List Nat} {Inv : S → L2.St → Hp → Prop} : ∀ i x s σ H, l[i]? = some x → Inv s σ H → (Its ⟨l.toArray⟩).go i H := fun i x _ _ _ e _ => (List.getElem?_eq_some_iff.mp e).1
theorem str_yld {l : List Nat} {v : V} {H' : Hp} {i x : Nat} (h : (Its ⟨l.toArray⟩).yld i H v H') (e : l[i]? = some x) : H = H' ∧ v = .str ⟨[x].toArray⟩ := by
  obtain ⟨h1, c, h2, h3⟩ := h
  have h4 : l[i]? = some c := by simpa using h2
  rw [e] at h4
  cases h4
  exact ⟨h1.symm, h3⟩
theorem while_N {c : S → Option Bool} {f : S → Option S} {n : Nat} {s0 s1 : S} {tc : TT} (Inv : S → L2.St → Hp → Prop) (e : whileN c f n s0 = some s1) (h0 : Inv s0 σ H)
    (hc : ∀ s b σ H, Inv s σ H → c s = some b → ∀ Q : Bool → Hp → Prop, (∀ H', Inv s σ H' → Q b H') → tc σ H Q)
    (hs : ∀ s s' σ H, Inv s σ H → c s = some true → f s = some s' → ∀ N : L2.St → Hp → Prop, (∀ σ' H', Inv s' σ' H' → N σ' H') → tb ⟨N, Rt, Nx, N⟩ σ H)
    (hd : ∀ σ H, Inv s1 σ H → Nx σ H) : tWhile tc tb ⟨Nx, Rt, Bk, Ct⟩ σ H := by
  refine ⟨fun m σ H => ∃ s, Inv s σ H ∧ whileN c f m s = some s1, ⟨n, s0, h0, e⟩, ?_⟩
  rintro m σ H ⟨s, hI, hf⟩
  cases m with
  | zero => cases hf
  | succ m =>
    obtain ⟨b, e1, e2⟩ := bind_some hf
    refine hc s b σ H hI e1 _ fun H hI => ?_
    cases b with
    | true =>
      obtain ⟨s', e3, e4⟩ := bind_some e2
      exact if_t rfl ⟨fun σ' H' => ∃ s', Inv s' σ' H' ∧ whileN c f m s' = some s1, fun σ' H' k => ⟨m, Nat.lt_succ_self m, k⟩, hs s s' σ H hI e1 e3 _ fun σ' H' k => ⟨s', k, e4⟩⟩
    | false =>
      have e3 : s = s1 := Option.some.inj e2
      subst e3
      exact if_f rfl (hd σ H hI)
end
end Wk
/-! my own: values, operators, statements for the generator's scripts -/
namespace Wk
open PySem PySem.Spec PyProof.Rows L2
abbrev tS (l : List Nat) : V := .str ⟨l.toArray⟩
abbrev L24 : Nat := 16777216
/-! ### what a value stands for -/
def rI : Hp → V → Int → Prop := fun _ v x => v = .int x
def rB : Hp → V → Bool → Prop := fun _ v x => v = .bl x
def rS : Hp → V → List Nat → Prop := fun _ v x => v = tS x
def rN : Hp → V → Unit → Prop := fun _ v _ => v = .non
def rL {α : Type} (r : Hp → V → α → Prop) : Hp → V → List α → Prop := fun B v xs => ∃ a vs, v = .ref a ∧ B a = some (.lst vs) ∧ All2 (r B) vs xs
def rH {α : Type} (r : Hp → V → α → Prop) : Hp → V → List α → Prop := fun B v xs => ∃ a vs, v = .ref a ∧ B a = some (.tup vs) ∧ All2 (r B) vs xs
def rT2 {α β : Type} (r : Hp → V → α → Prop) (q : Hp → V → β → Prop) : Hp → V → α × β → Prop := fun B v x => ∃ a v1 v2, v = .ref a ∧ B a = some (.tup [v1, v2]) ∧ r B v1 x.1 ∧ q B v2 x.2
def rT3 {α β γ : Type} (r : Hp → V → α → Prop) (q : Hp → V → β → Prop) (t : Hp → V → γ → Prop) : Hp → V → α × β × γ → Prop := fun B v x => ∃ a v1 v2 v3, v = .ref a ∧ B a = some (.tup [v1, v2, v3]) ∧ r B v1 x.1 ∧ q B v2 x.2.1 ∧ t B v3 x.2.2
def rQ {α : Type} (r : Hp → V → α → Prop) : Hp → V → Option α → Prop := fun B v x => match x with
  | none => v = .non
  | some y => v ≠ .non ∧ r B v y
class Mono {α : Type} (r : Hp → V → α → Prop) : Prop where
  mono : ∀ {B B' : Hp} {v : V} {x : α}, Ex B B' → r B v x → r B' v x
theorem mono {α : Type} {r : Hp → V → α → Prop} [Mono r] {B B' : Hp} {v : V} {x : α} (e : Ex B B') (h : r B v x) : r B' v x := Mono.mono e h
instance : Mono rI := ⟨fun _ h => h⟩
instance : Mono rB := ⟨fun _ h => h⟩
instance : Mono rS := ⟨fun _ h => h⟩
instance : Mono rN := ⟨fun _ h => h⟩
instance {α : Type} {r : Hp → V → α → Prop} [Mono r] : Mono (rL r) := ⟨fun e ⟨a, vs, h1, h2, h3⟩ => ⟨a, vs, h1, e _ _ h2, h3.imp fun _ _ h => mono e h⟩⟩
instance {α : Type} {r : Hp → V → α → Prop} [Mono r] : Mono (rH r) := ⟨fun e ⟨a, vs, h1, h2, h3⟩ => ⟨a, vs, h1, e _ _ h2, h3.imp fun _ _ h => mono e h⟩⟩
instance {α β : Type} {r : Hp → V → α → Prop} {q : Hp → V → β → Prop} [Mono r] [Mono q] : Mono (rT2 r q) := ⟨fun e ⟨a, v1, v2, h1, h2, h3, h4⟩ => ⟨a, v1, v2, h1, e _ _ h2, mono e h3, mono e h4⟩⟩
instance {α β γ : Type} {r : Hp → V → α → Prop} {q : Hp → V → β → Prop} {t : Hp → V → γ → Prop} [Mono r] [Mono q] [Mono t] : Mono (rT3 r q t) := ⟨fun e ⟨a, v1, v2, v3, h1, h2, h3, h4, h5⟩ => ⟨a, v1, v2, v3, h1, e _ _ h2, mono e h3, mono e h4, mono e h5⟩⟩
instance {α : Type} {r : Hp → V → α → Prop} [Mono r] : Mono (rQ r) := ⟨fun {B B' v x} e h => by
  cases x with
  | none => exact h
  | some y => exact ⟨h.1, mono e h.2⟩⟩
theorem all2_map {α β : Type} {r : α → β → Prop} {f : β → α} (h : ∀ b, r (f b) b) : ∀ l : List β, All2 r (l.map f) l
  | [] => .nil
  | b :: l => .cons (h b) (all2_map h l)
theorem all2_eq {α β : Type} {r : α → β → Prop} {f : β → α} (h : ∀ a b, r a b → a = f b) : ∀ {l : List α} {k : List β}, All2 r l k → l = k.map f
  | _, _, .nil => rfl
  | _, _, .cons e t => by rw [List.map_cons, h _ _ e, all2_eq h t]
theorem all2_I {B : Hp} {vs : List V} {xs : List Int} (h : All2 (rI B) vs xs) : vs = xs.map V.int := all2_eq (fun _ _ e => e) h
theorem all2_S {B : Hp} {vs : List V} {xs : List (List Nat)} (h : All2 (rS B) vs xs) : vs = xs.map tS := all2_eq (fun _ _ e => e) h
theorem all2_B {B : Hp} {vs : List V} {xs : List Bool} (h : All2 (rB B) vs xs) : vs = xs.map V.bl := all2_eq (fun _ _ e => e) h
theorem all2I {B : Hp} (xs : List Int) : All2 (rI B) (xs.map V.int) xs := all2_map (r := rI B) (f := V.int) (fun _ => rfl) xs
theorem all2S {B : Hp} (xs : List (List Nat)) : All2 (rS B) (xs.map tS) xs := all2_map (r := rS B) (f := tS) (fun _ => rfl) xs
theorem all2B {B : Hp} (xs : List Bool) : All2 (rB B) (xs.map V.bl) xs := all2_map (r := rB B) (f := V.bl) (fun _ => rfl) xs
theorem all2_at {α β : Type} {r : α → β → Prop} {vs : List α} {xs : List β} (h : All2 r vs xs) {i : Int} {x : β} (e : atI xs i = some x) : ∃ w, r w x ∧ atI vs i = some w := by
  unfold atI at e ⊢
  rw [h.length]
  cases j : ixN xs.length i with
  | none => rw [j] at e; cases e
  | some k =>
    rw [j] at e
    obtain ⟨w, h1, h2⟩ := h.at_ (show xs[k]? = some x from e)
    exact ⟨w, h2, h1⟩
theorem atI_map {α β : Type} {f : α → β} {xs : List α} {i : Int} {x : α} (e : atI xs i = some x) : atI (xs.map f) i = some (f x) := by
  unfold atI at e ⊢
  rw [List.length_map]
  cases j : ixN xs.length i with
  | none => rw [j] at e; cases e
  | some k =>
    rw [j] at e
    have e1 : xs[k]? = some x := e
    show (xs.map f)[k]? = some (f x)
    rw [List.getElem?_map, e1]; rfl
theorem map_at {α β : Type} {f : α → β} {xs : List α} {i : Nat} {v : β} {x : α} (h : (xs.map f)[i]? = some v) (e : xs[i]? = some x) : v = f x := by
  rw [List.getElem?_map, e] at h
  exact (Option.some.inj h).symm
theorem map_snoc {α β : Type} {f : α → β} {xs : List α} {x : α} : xs.map f ++ [f x] = (xs ++ [x]).map f := by simp
theorem upd_snoc {α : Type} {f : α → V} {H : Hp} {D : Addr} {xs : List α} {x : α} : upd H D (.lst (xs.map f ++ [f x])) D = some (.lst ((xs ++ [x]).map f)) := by
  rw [upd_same, map_snoc]
theorem lt_len {α β γ : Type} {xs : List α} {l : List β} {vs : List γ} {i : Nat} {x : α} (hx : xs[i]? = some x) (hl : l.length = i) (q : xs.length ≤ L24) (e : vs.length = l.length) : vs.length < sizeLine := by
  have h1 := (List.getElem?_eq_some_iff.mp hx).1
  have h2 : xs.length ≤ 16777216 := q
  show vs.length < 16777216
  omega
/-! ### operations as plain functions -/
def SMul (i j : Int) : Prop := i.natAbs.log2 + j.natAbs.log2 < 1000000
instance (i j : Int) : Decidable (SMul i j) := by unfold SMul; infer_instance
theorem smul_ok {i j : Int} (h : SMul i j) : CMulW i j := h
def SDiv (_i j : Int) : Prop := 0 < j ∧ j.natAbs.log2 < 9000
instance (i j : Int) : Decidable (SDiv i j) := by unfold SDiv; infer_instance
theorem sdiv_ok {i j : Int} (h : SDiv i j) : CDivW i j := h
instance (i j : Int) : Decidable (CPow i j) := by unfold CPow; infer_instance
def Rng1 (j : Int) : Prop := -(2 ^ 62) ≤ j ∧ j < 2 ^ 62
instance (j : Int) : Decidable (Rng1 j) := by unfold Rng1; infer_instance
def Rng2 (i j : Int) : Prop := -(2 ^ 62) ≤ i ∧ i < 2 ^ 62 ∧ -(2 ^ 62) ≤ j ∧ j < 2 ^ 62
instance (i j : Int) : Decidable (Rng2 i j) := by unfold Rng2; infer_instance
def absI (i : Int) : Int := if i < 0 then -i else i
def maxI (i j : Int) : Int := if j > i then j else i
def minI (i j : Int) : Int := if j < i then j else i
def ordO (l : List Nat) : Option Nat := match l with
  | [c] => some c
  | _ => none
def cutT {α : Type} (l : List α) (lo hi : Option Int) : List α := (l.drop (HT.sIx l.length 0 lo)).take (HT.sIx l.length l.length hi - HT.sIx l.length 0 lo)
def prefB (p l : List Nat) : Bool := Txt.startswith ⟨l.toArray⟩ ⟨p.toArray⟩
def findT (l p : List Nat) (i : Int) : Int := Txt.find3 ⟨l.toArray⟩ ⟨p.toArray⟩ i
def joinT (s : List Nat) (ls : List (List Nat)) : List Nat := (Txt.join ⟨s.toArray⟩ (ls.map (fun l => (⟨l.toArray⟩ : Str)))).cps.toList
def SJoin (s : List Nat) (ls : List (List Nat)) : Prop := (ls.map (·.length)).sum + ls.length * s.length ≤ 16777216
instance (s : List Nat) (ls : List (List Nat)) : Decidable (SJoin s ls) := by unfold SJoin; infer_instance
def idxO {α : Type} [DecidableEq α] (l : List α) (x : α) : Option Nat := l.findIdx? (fun y => decide (y = x))
def popO {α : Type} (l : List α) (i : Int) : Option (α × List α) := if i = 0 then (match l with
  | [] => none
  | x :: r => some (x, r)) else none
def setO {α : Type} (l : List α) (i : Int) (x : α) : Option (List α) := (ixN l.length i).map fun j => l.set j x
theorem lt_lenF {α β γ : Type} {xs : List α} {l : List β} {vs : List γ} {i : Nat} {x : α} (hx : xs[i]? = some x) (hl : l.length ≤ i) (q : xs.length ≤ L24) (e : vs.length = l.length) : vs.length < sizeLine := by
  have h1 := (List.getElem?_eq_some_iff.mp hx).1
  have h2 : xs.length ≤ 16777216 := q
  show vs.length < 16777216
  omega
/-! ### heap steps in scripts -/
section
variable {M : List Addr} {B H B0 H0 : Hp} {p : Addr} {o : HO}
/-- a new object at any free place -/
def Alloc (o : HO) (Q : VK) (H : Hp) : Prop := ∀ p, H p = none → Q (.ref p) (upd H p o)
theorem al_own {Q : VK} (c : Ex B H) (k : ∀ p, H p = none → ∀ H', Stp [] B H B H' → H' p = some o → B p = none → Q (.ref p) H') : Alloc o Q H :=
  fun p np => k p np _ ((Stp.refl c).newO np) upd_same (B_none c np)
theorem al_giv {Q : VK} (c : Ex B H) (k : ∀ p, H p = none → ∀ B' H', Stp [] B H B' H' → B' p = some o → Q (.ref p) H') : Alloc o Q H :=
  fun p np => k p np _ _ ((Stp.refl c).newB np) upd_same
theorem give (s : Stp M B0 H0 B H) (hp : H p = some o) (z : H0 p = none) : ∃ B', Stp M B0 H0 B' H ∧ Ex B B' ∧ B' p = some o ∧ ∀ q, q ≠ p → B q = none → B' q = none :=
  ⟨upd B p o, s.give hp z, ex_give s.c hp, upd_same, fun _ h e => upd_none h e⟩
theorem ap_go {Q : VK} {vs : List V} {v : V} (s : Stp M B0 H0 B H) (z : H0 p = none ∨ p ∈ M) (nb : B p = none) (hp : H p = some (.lst vs)) (hl : vs.length < L24)
    (k : ∀ H', Stp M B0 H0 B H' → H' p = some (.lst (vs ++ [v])) → (∀ q u, q ≠ p → H q = some u → H' q = some u) → Q .non H') : rAppend (.ref p) [v] H Q :=
  ⟨p, vs, v, rfl, rfl, hp, hl, k _ (s.mut z nb) upd_same fun _ _ h e => upd_ne' h e⟩
theorem ap_goF {Q : VK} {α : Type} {f : α → V} {xs : List α} {x : α} (s : Stp M B0 H0 B H) (z : H0 p = none ∨ p ∈ M) (nb : B p = none) (hp : H p = some (.lst (xs.map f))) (hl : xs.length < L24)
    (k : ∀ H', Stp M B0 H0 B H' → H' p = some (.lst ((xs ++ [x]).map f)) → (∀ q u, q ≠ p → H q = some u → H' q = some u) → Q .non H') : rAppend (.ref p) [f x] H Q :=
  ap_go s z nb hp (by rw [List.length_map]; exact hl) fun H' a b c => k H' a (by rw [b, map_snoc]) c
theorem pop_go {Q : VK} {α : Type} {f : α → V} {l : List α} {i : Int} {z : α × List α} (s : Stp M B0 H0 B H) (zz : H0 p = none ∨ p ∈ M) (nb : B p = none) (h : H p = some (.lst (l.map f))) (e : popO l i = some z)
    (k : ∀ H', Stp M B0 H0 B H' → H' p = some (.lst (z.2.map f)) → (∀ q u, q ≠ p → H q = some u → H' q = some u) → Q (f z.1) H') : rPopAt (.ref p) [.int i] H Q := by
  have q := k _ (s.mut zz nb) (upd_same (o := .lst (z.2.map f))) fun _ _ h e => upd_ne' h e
  unfold popO at e
  by_cases hi : i = 0
  · rw [if_pos hi] at e
    subst hi
    cases l with
    | nil => cases e
    | cons x r =>
      have e1 : (x, r) = z := Option.some.inj e
      subst e1
      refine ⟨p, f x :: r.map f, 0, 0, f x, rfl, rfl, h, by decide, by decide, ?_, rfl, q⟩
      unfold seqIndex?
      simp
  · rw [if_neg hi] at e; cases e
theorem set_go {R : Hp → Prop} {α : Type} {f : α → V} {l m : List α} {i : Int} {x : α} (s : Stp M B0 H0 B H) (zz : H0 p = none ∨ p ∈ M) (nb : B p = none) (h : H p = some (.lst (l.map f))) (e : setO l i x = some m)
    (k : ∀ H', Stp M B0 H0 B H' → H' p = some (.lst (m.map f)) → (∀ q u, q ≠ p → H q = some u → H' q = some u) → R H') : rSetL (.ref p) (.int i) (f x) H R := by
  have q := k _ (s.mut zz nb) (upd_same (o := .lst (m.map f))) fun _ _ h e => upd_ne' h e
  unfold setO at e
  cases j : ixN l.length i with
  | none => rw [j] at e; cases e
  | some k =>
    rw [j] at e
    have e1 : l.set k x = m := Option.some.inj e
    refine ⟨p, l.map f, i, k, rfl, rfl, h, by rw [List.length_map]; exact j, ?_⟩
    rw [← List.map_set, e1]; exact q
theorem ex_lent (c : Ex B H) (hp : H p = some o) : Ex (upd B p o) H := fun q u e => by
  by_cases h : q = p
  · subst h
    rw [upd_same] at e
    rw [hp]; exact e
  · rw [upd_ne h] at e; exact c q u e
theorem Stp.keepB {Bc B' H' : Hp} (s : Stp M Bc H B' H') (c : Ex B H) (hm : ∀ q ∈ M, B q = none) : Stp M B H B H' :=
  ⟨Ex.refl B, fun q o e => s.h q o (fun z => by rw [hm q z] at e; cases e) (c q o e), s.h, fun _ _ e => .inl e, s.g⟩
theorem Stp.outm {B' H' : Hp} (s : Stp M B H B' H') (hm : p ∈ M) (nb : B p = none) (hp : H p = some o) : B' p = none := s.out nb hp
theorem nin1 {p q : Addr} (h : p ≠ q) : p ∉ [q] := by simp; exact h
theorem nin_all {p : Addr} (nb : B p = none) : ∀ q ∈ [p], B q = none := by simp; exact nb
/-- a callee that changes an object of the caller's own, not among the caller's outer ones -/
theorem Stp.loc {B1 H1 B2 H2 : Hp} (s : Stp M B0 H0 B1 H1) (t : Stp [p] B1 H1 B2 H2) (z : H0 p = none) : Stp M B0 H0 B2 H2 :=
  ⟨s.b.trans t.b, t.c, fun q o hq e => t.h q o (by simp; intro h; subst h; rw [z] at e; cases e) (s.h q o hq e), fun q o e => (t.n q o e).elim (fun z => s.n q o z) (fun z => .inr (s.g q z)), fun q e => s.g q (t.g q e)⟩
end
theorem if_inv_t {α : Type} {b : Bool} {x y : Option α} {r : α} (h : b = true) (e : (if b = true then x else y) = some r) : x = some r := by rw [if_pos h] at e; exact e
theorem if_inv_f {α : Type} {b : Bool} {x y : Option α} {r : α} (h : b = false) (e : (if b = true then x else y) = some r) : y = some r := by rw [if_neg (by rw [h]; decide)] at e; exact e
def Fl.fin {σ ρ β : Type} (t : Fl σ ρ) (k : σ → Option β) (j : ρ → Option β) : Option β := match t with
  | .nx s => k s
  | .br _ => none
  | .rt q => j q
theorem fin_nx {σ ρ β : Type} {s : σ} {k : σ → Option β} {j : ρ → Option β} {x : β} (h : (Fl.nx s : Fl σ ρ).fin k j = some x) : k s = some x := h
theorem fin_rt {σ ρ β : Type} {q : ρ} {k : σ → Option β} {j : ρ → Option β} {x : β} (h : (Fl.rt q : Fl σ ρ).fin k j = some x) : j q = some x := h
/-! ### readings -/
section
variable {σ σ' : L2.St} {H : Hp} {Q : VK} {te ta tb tc : TE} {tr : TA} {v x y z : V} {D : Ends} {Nx Ct Bk : L2.St → Hp → Prop} {Rt : VK} {t u : TS} {i : Nat} {tt tt' : TT} {b c : Bool} {r : R2} {K : PySem.W.Frag}
theorem q_st (e : σ = σ') (h : t D σ' H) : t D σ H := by rw [e]; exact h
theorem q_gname {Q : L2.St → Hp → Prop} (h : Q (σ.set i (some v)) H) : gName i v σ H Q := h
theorem q_cont (h : Ct σ H) : tCont ⟨Nx, Rt, Bk, Ct⟩ σ H := h
theorem q_brk (h : Bk σ H) : tBreak ⟨Nx, Rt, Bk, Ct⟩ σ H := h
theorem q_retN (h : Rt .non H) : tRetN ⟨Nx, Rt, Bk, Ct⟩ σ H := h
theorem q_notV (h : ta σ H fun x H1 => ∃ c, x = .bl c ∧ Q (.bl (!c)) H1) : tNotV ta σ H Q := h
theorem q_andV (h : ta σ H fun x H1 => ∃ c, x = .bl c ∧ if c = true then tb σ H1 Q else Q (.bl false) H1) : tAndV ta tb σ H Q := h
theorem q_orV (h : ta σ H fun x H1 => ∃ c, x = .bl c ∧ if c = true then Q (.bl true) H1 else tb σ H1 Q) : tOrV ta tb σ H Q := h
theorem q_and {Q : Bool → Hp → Prop} (h : tt σ H fun c H1 => if c = true then tt' σ H1 Q else Q false H1) : tAnd tt tt' σ H Q := h
theorem q_or {Q : Bool → Hp → Prop} (h : tt σ H fun c H1 => if c = true then Q true H1 else tt' σ H1 Q) : tOr tt tt' σ H Q := h
theorem q_not {Q : Bool → Hp → Prop} (h : tt σ H fun c H1 => Q (!c) H1) : tNot tt σ H Q := h
theorem q_tB {Q : Bool → Hp → Prop} (h : ta σ H fun x H1 => ∃ c, x = .bl c ∧ Q c H1) : tB ta σ H Q := h
theorem q_lst (h : tr σ H fun xs H1 => xs.length ≤ sizeLine ∧ Alloc (.lst xs) Q H1) : tLst tr σ H Q := h
theorem q_tup (h : tr σ H fun xs H1 => xs.length ≤ sizeLine ∧ Alloc (.tup xs) Q H1) : tTup tr σ H Q := h
/-- a built-in's reading, its wish not looked into -/
def RC (rc : List V → Hp → VK → Prop) (vs : List V) (H : Hp) (Q : VK) : Prop := rc vs H Q
theorem q_cbR {rc : List V → Hp → VK → Prop} (h : tr σ H fun vs H1 => RC rc vs H1 Q) : tCB rc tr σ H Q := h
theorem rc_list {a : Addr} {ys : List V} (h : SqL K H a ys ∨ SqT K H a ys) (q : Alloc (.lst ys) Q H) : RC (fun xs H Q => ∃ p ys, xs = [.ref p] ∧ (SqL K H p ys ∨ SqT K H p ys) ∧ ∀ l, H l = none → Q (.ref l) (upd H l (.lst ys))) [.ref a] H Q := ⟨a, ys, rfl, h, q⟩
theorem rc_tup {a : Addr} {ys : List V} (h : SqL K H a ys) (q : Alloc (.tup ys) Q H) : RC (fun xs H Q => ∃ p ys, xs = [.ref p] ∧ ((SqL K H p ys ∧ ∀ l, H l = none → Q (.ref l) (upd H l (.tup ys))) ∨ (SqT K H p ys ∧ Q (.ref p) H))) [.ref a] H Q := ⟨a, ys, rfl, .inl ⟨h, q⟩⟩
theorem q_sl {rs : V → Option Int → Option Int → Hp → VK → Prop} {tl th : TO} (h : ta σ H fun x H1 => tl σ H1 fun l H2 => th σ H2 fun u H3 => rs x l u H3 Q) : tSl rs ta tl th σ H Q := h
theorem q_bm {T : String} {rm : V → List V → Hp → VK → Prop} (h : ta σ H fun x H1 => tyV K T x H1 ∧ tr σ H1 fun xs H2 => rm x xs H2 Q) : tBM K T rm ta tr σ H Q := h
theorem q_m1 {rm : V → List V → Hp → VK → Prop} (h : ta σ H fun x H1 => (∃ a, x = .str a) ∧ tb σ H1 fun y H2 => rm x [y] H2 Q) : tM1 rm ta tb σ H Q := h
/-- an operator's reading, its wish not looked into -/
def R2C (r : R2) (x y : V) (H : Hp) (Q : VK) : Prop := r x y H Q
theorem q_opR (h : ta σ H fun x H1 => tb σ H1 fun y H2 => R2C r x y H2 Q) : tOp r ta tb σ H Q := h
theorem r2_of (h : ∀ Q : VK, Q z H → r x y H Q) (q : Q z H) : R2C r x y H Q := h Q q
theorem rc_of {rc : List V → Hp → VK → Prop} {vs : List V} (h : ∀ Q : VK, Q z H → rc vs H Q) (q : Q z H) : RC rc vs H Q := h Q q
def RM (rm : V → List V → Hp → VK → Prop) (x : V) (vs : List V) (H : Hp) (Q : VK) : Prop := rm x vs H Q
theorem q_m1R {rm : V → List V → Hp → VK → Prop} (h : ta σ H fun x H1 => (∃ a, x = .str a) ∧ tb σ H1 fun y H2 => RM rm x [y] H2 Q) : tM1 rm ta tb σ H Q := h
theorem rm_of {rm : V → List V → Hp → VK → Prop} {vs : List V} (h : ∀ Q : VK, Q z H → rm x vs H Q) (q : Q z H) : RM rm x vs H Q := h Q q
theorem q_asgsub {ts : TSet} (h : te σ H fun v H0 => ta σ H0 fun o H1 => tb σ H1 fun i H2 => ts o i v H2 fun H3 => Nx σ H3) : tAsg te (gSub ta tb ts) ⟨Nx, Rt, Bk, Ct⟩ σ H := h
theorem q_set2 {j : Nat} (h : te σ H fun x H1 => Nx ((σ.set i (some x)).set j (some x)) H1) : tAsg2 te (gName i) (gName j) ⟨Nx, Rt, Bk, Ct⟩ σ H := h
theorem q_for {wi : TI} {g : TG} {tb : TS} (h : wi σ H fun J H1 => ∃ W : Nat → Nat → L2.St → Hp → Prop, (∃ m, W 0 m σ H1) ∧ ∀ i m σ H, W i m σ H →
  (J.stop i H ∧ Nx σ H) ∨ (J.go i H ∧ ∃ N : L2.St → Hp → Prop, (∀ σ' H', N σ' H' → ∃ m', m' < m ∧ W (i + 1) m' σ' H') ∧ ∀ x H', J.yld i H x H' → g x σ H' fun σ2 H2 => tb ⟨N, Rt, Nx, N⟩ σ2 H2)) : tFor wi g tb ⟨Nx, Rt, Bk, Ct⟩ σ H := h
theorem q_rng1 {R : It → Hp → Prop} (h : tr σ H fun vs H1 => ∃ j : Int, vs = [.int j] ∧ -(2 ^ 62) ≤ j ∧ j < 2 ^ 62 ∧ R (Itr 0 j.toNat) H1) : iRng1 tr σ H R := h
theorem q_rng2 {R : It → Hp → Prop} (h : tr σ H fun vs H1 => ∃ i j : Int, vs = [.int i, .int j] ∧ (-(2 ^ 62) ≤ i ∧ i < 2 ^ 62 ∧ -(2 ^ 62) ≤ j ∧ j < 2 ^ 62) ∧ R (Itr i (j - i).toNat) H1) : iRng2 tr σ H R := h
theorem q_itl {R : It → Hp → Prop} (h : ta σ H fun x H1 => ∃ a, x = .ref a ∧ (∃ xs, SqL K H1 a xs) ∧ R (Itl K a) H1) : iList K ta σ H R := h
theorem q_itt {R : It → Hp → Prop} (h : ta σ H fun x H1 => ∃ a, x = .ref a ∧ (∃ xs, SqT K H1 a xs) ∧ R (Itt K a) H1) : iTup K ta σ H R := h
theorem q_its {R : It → Hp → Prop} (h : ta σ H fun v H1 => ∃ x, v = .str x ∧ R (Its x) H1) : iStr ta σ H R := h
theorem q_yes {Q : Bool → Hp → Prop} (h : Q true H) : tYes σ H Q := h
theorem q_lc {wi : TI} {g : TG} {vs : List Nat} (h : wi σ H fun J H1 => ∀ D, H1 D = none → ∃ W : Nat → Nat → Hp → Prop, (∃ m, W 0 m (upd H1 D (.lst []))) ∧ ∀ i m H, W i m H →
  (J.stop i H ∧ Q (.ref D) H) ∨ (J.go i H ∧ ∃ Nx : Hp → Prop, (∀ H', Nx H' → ∃ m', m' < m ∧ W (i + 1) m' H') ∧ ∀ x H', J.yld i H x H' → g x (wipe σ vs) H' fun σ2 H2 => wipe σ2 vs = wipe σ vs ∧ tt σ2 H2 fun b H3 =>
    if b = true then te σ2 H3 fun y H4 => ∃ acc, H4 D = some (.lst acc) ∧ acc.length < sizeLine ∧ Nx (upd H4 D (.lst (acc ++ [y]))) else Nx H3)) : tLc wi g tt te vs σ H Q := h
def MidP (P : L2.St → Hp → Prop) : L2.St → Hp → Prop := P
theorem q_cut {Mid : L2.St → Hp → Prop} (h1 : t ⟨Mid, Rt, Bk, Ct⟩ σ H) (h2 : ∀ σ' H', Mid σ' H' → u ⟨Nx, Rt, Bk, Ct⟩ σ' H') : Evl.tCut t u ⟨Nx, Rt, Bk, Ct⟩ σ H := ⟨Mid, h1, h2⟩
theorem q_aug {ti : TIp} (e : σ[i]? = some (some x)) (h : te σ H fun y H1 => ti x y H1 fun z H2 => Nx (σ.set i (some z)) H2) : tAug i te ti ⟨Nx, Rt, Bk, Ct⟩ σ H := ⟨x, e, h⟩
/-! values -/
theorem v_notV (ha : Val ta σ H (.bl b)) : Val (tNotV ta) σ H (.bl (!b)) := fun _ q => ha _ ⟨b, rfl, q⟩
theorem v_if {α : Type} (f : α → V) {m n : α} (h : Ans tt σ H b) (ha : Val ta σ H (f m)) (hb : Val tb σ H (f n)) : Val (tIf tt ta tb) σ H (f (if b = true then m else n)) := fun Q q => h _ (by
  cases b with
  | true => exact if_t rfl (ha _ q)
  | false => exact if_f rfl (hb _ q))
theorem v_if' (f : Int → V) {m n : Int} (h : Ans tt σ H b) (ha : Val ta σ H (f m)) (hb : Val tb σ H (f n)) : Val (tIf tt ta tb) σ H (f (if b = true then m else n)) := v_if f h ha hb
theorem v_ifO {α : Type} (f : α → V) {m n : Option α} {r : α} (h : Ans tt σ H b) (e : (if b = true then m else n) = some r) (ha : m = some r → Val ta σ H (f r)) (hb : n = some r → Val tb σ H (f r)) : Val (tIf tt ta tb) σ H (f r) := fun Q q => h _ (by
  cases b with
  | true => exact if_t rfl (ha e _ q)
  | false => exact if_f rfl (hb e _ q))
theorem v_andT (ha : Ans tt σ H b) (hb : Ans tt' σ H c) : Ans (tAnd tt tt') σ H (b && c) := ans_and2 ha hb
theorem v_orT (ha : Ans tt σ H b) (hb : Ans tt' σ H c) : Ans (tOr tt tt') σ H (b || c) := by
  cases b with
  | true => exact ans_or1 ha
  | false => exact ans_or ha hb
theorem v_andVT (ha : Val ta σ H (.bl b)) (hb : Val tb σ H (.bl c)) : Val (tAndV ta tb) σ H (.bl (b && c)) := fun Q q => ha _ ⟨b, rfl, by
  cases b with
  | true => exact if_t rfl (hb _ q)
  | false => exact if_f rfl q⟩
theorem v_orVT (ha : Val ta σ H (.bl b)) (hb : Val tb σ H (.bl c)) : Val (tOrV ta tb) σ H (.bl (b || c)) := fun Q q => ha _ ⟨b, rfl, by
  cases b with
  | true => exact if_t rfl q
  | false => exact if_f rfl (hb _ q)⟩
theorem v_andV {k : Option Bool} (ha : Val ta σ H (.bl b)) (e : (if b = true then k else some false) = some c) (hb : b = true → k = some c → Val tb σ H (.bl c)) : Val (tAndV ta tb) σ H (.bl c) := fun Q q => ha _ ⟨b, rfl, by
  cases b with
  | true => exact if_t rfl (hb rfl e _ q)
  | false =>
    have e1 : false = c := Option.some.inj e
    subst e1
    exact if_f rfl q⟩
theorem v_orV {k : Option Bool} (ha : Val ta σ H (.bl b)) (e : (if b = true then some true else k) = some c) (hb : b = false → k = some c → Val tb σ H (.bl c)) : Val (tOrV ta tb) σ H (.bl c) := fun Q q => ha _ ⟨b, rfl, by
  cases b with
  | true =>
    have e1 : true = c := Option.some.inj e
    subst e1
    exact if_t rfl q
  | false => exact if_f rfl (hb rfl e _ q)⟩
theorem v_addS {a b : List Nat} (h : a.length + b.length ≤ L24) : ∀ Q : VK, Q (tS (a ++ b)) H → (∃ i j, tS a = .str i ∧ tS b = .str j ∧ i.length + j.length ≤ sizeLine ∧ Q (.str (i ++ j)) H) := fun Q q =>
  ⟨_, _, rfl, rfl, h, by
    have e : ((⟨a.toArray⟩ : Str) ++ (⟨b.toArray⟩ : Str)) = ⟨(a ++ b).toArray⟩ := by
      show (⟨a.toArray ++ b.toArray⟩ : Str) = _
      rw [List.append_toArray]
    rw [e]; exact q⟩
theorem v_isBl {a b : Bool} : ∀ Q : VK, Q (.bl (decide (a = b))) H → rIsB (.bl a) (.bl b) H Q := fun _ q => ⟨a, b, rfl, rfl, q⟩
theorem v_notBl {a b : Bool} : ∀ Q : VK, Q (.bl (!decide (a = b))) H → rNotB (.bl a) (.bl b) H Q := fun _ q => ⟨a, b, rfl, rfl, q⟩
theorem v_isN0 : ∀ Q : VK, Q (.bl true) H → (V.non = .non ∧ Q (.bl (decide (V.non = .non))) H) := fun _ q => ⟨rfl, q⟩
theorem v_notN0 : ∀ Q : VK, Q (.bl false) H → (V.non = .non ∧ Q (.bl (!decide (V.non = .non))) H) := fun _ q => ⟨rfl, q⟩
theorem v_isN1 {a : Addr} : ∀ Q : VK, Q (.bl false) H → (V.non = .non ∧ Q (.bl (decide (V.ref a = .non))) H) := fun _ q => ⟨rfl, q⟩
theorem v_notN1 {a : Addr} : ∀ Q : VK, Q (.bl true) H → (V.non = .non ∧ Q (.bl (!decide (V.ref a = .non))) H) := fun _ q => ⟨rfl, q⟩
theorem v_isN {α : Type} {r : Hp → V → α → Prop} {B : Hp} {m : Option α} (h : rQ r B v m) : ∀ Q : VK, Q (.bl m.isNone) H → (V.non = .non ∧ Q (.bl (decide (v = .non))) H) := fun Q q => ⟨rfl, by
  cases m with
  | none =>
    have e : v = .non := h
    rw [e]; exact q
  | some y => rw [decide_eq_false h.1]; exact q⟩
theorem v_notN {α : Type} {r : Hp → V → α → Prop} {B : Hp} {m : Option α} (h : rQ r B v m) : ∀ Q : VK, Q (.bl m.isSome) H → (V.non = .non ∧ Q (.bl (!decide (v = .non))) H) := fun Q q => ⟨rfl, by
  cases m with
  | none =>
    have e : v = .non := h
    rw [e]; exact q
  | some y => rw [decide_eq_false h.1]; exact q⟩
theorem str_inj {a b : List Nat} : (tS a = tS b) ↔ a = b := by
  constructor
  · intro h
    injection h with h
    injection h with h
    exact List.toArray_inj h
  · intro h; rw [h]
theorem v_eqS {a b : List Nat} : ∀ Q : VK, Q (.bl (decide (a = b))) H → rEq (tS a) (tS b) H Q := fun Q q => ⟨rfl, by
  have e : decide (tS a = tS b) = decide (a = b) := decide_eq_decide.mpr str_inj
  rw [e]; exact q⟩
theorem v_neS {a b : List Nat} : ∀ Q : VK, Q (.bl (decide (a ≠ b))) H → rNe (tS a) (tS b) H Q := fun Q q => ⟨rfl, by
  have e : (!decide (tS a = tS b)) = decide (a ≠ b) := by
    by_cases h : a = b
    · rw [decide_eq_true (str_inj.mpr h), decide_eq_false (fun z => z h)]; rfl
    · rw [decide_eq_false (fun z => h (str_inj.mp z)), decide_eq_true h]; rfl
  rw [e]; exact q⟩
theorem v_eqB {a b : Bool} : ∀ Q : VK, Q (.bl (decide (a = b))) H → rEq (.bl a) (.bl b) H Q := fun Q q => ⟨rfl, by
  have e : decide (V.bl a = V.bl b) = decide (a = b) := decide_eq_decide.mpr ⟨fun h => V.bl.inj h, fun h => by rw [h]⟩
  rw [e]; exact q⟩
theorem v_neB {a b : Bool} : ∀ Q : VK, Q (.bl (decide (a ≠ b))) H → rNe (.bl a) (.bl b) H Q := fun Q q => ⟨rfl, by
  have e : (!decide (V.bl a = V.bl b)) = decide (a ≠ b) := by
    have e1 : decide (V.bl a = V.bl b) = decide (a = b) := decide_eq_decide.mpr ⟨fun h => V.bl.inj h, fun h => by rw [h]⟩
    rw [e1]; simp
  rw [e]; exact q⟩
theorem v_S0 {g : Str → Str → V} {a b : List Nat} : ∀ Q : VK, Q (g ⟨a.toArray⟩ ⟨b.toArray⟩) H → (∃ i j, tS a = .str i ∧ tS b = .str j ∧ Q (g i j) H) := fun _ q => ⟨_, _, rfl, rfl, q⟩
theorem v_ixL {a : Addr} {vs : List V} {i : Int} {w : V} (h : SqL K H a vs) (e : atI vs i = some w) : ∀ Q : VK, Q w H → rIxL K (.ref a) (.int i) H Q := fun _ q => ⟨a, vs, i, w, rfl, rfl, h, e, q⟩
theorem v_ixT {a : Addr} {vs : List V} {i : Int} {w : V} (h : SqT K H a vs) (e : atI vs i = some w) : ∀ Q : VK, Q w H → rIxT K (.ref a) (.int i) H Q := fun _ q => ⟨a, vs, i, w, rfl, rfl, h, e, q⟩
theorem v_ixS {l : List Nat} {i : Int} {c : Nat} (h : l.length ≤ L24) (e : atI l i = some c) : ∀ Q : VK, Q (tS [c]) H → rIxS (tS l) (.int i) H Q := fun _ q => ⟨_, i, c, rfl, rfl, h, e, q⟩
theorem v_po0 : ∀ Q : Option Int → Hp → Prop, Q none H → tNoPart σ H Q := fun _ q => q
theorem v_po1 {i : Int} (ha : Val ta σ H (.int i)) : ∀ Q : Option Int → Hp → Prop, Q (some i) H → tPart ta σ H Q := fun _ q => ha _ ⟨i, rfl, q⟩
theorem v_cutS {l : List Nat} {lo hi : Option Int} {tl th : TO} (ha : Val ta σ H (tS l)) (h1 : ∀ Q : Option Int → Hp → Prop, Q lo H → tl σ H Q) (h2 : ∀ Q : Option Int → Hp → Prop, Q hi H → th σ H Q) (h : l.length ≤ L24) : Val (tSl rSlS ta tl th) σ H (tS (cutT l lo hi)) :=
  fun Q q => ha _ (h1 _ (h2 _ ⟨_, rfl, h, q⟩))
theorem v_cb1 {rc : List V → Hp → VK → Prop} (ha : Val ta σ H x) (hr : ∀ Q : VK, Q z H → rc [x] H Q) : Val (tCB rc (tCons ta tNil)) σ H z := fun _ q => ha _ (hr _ q)
theorem v_cb2 {rc : List V → Hp → VK → Prop} (ha : Val ta σ H x) (hb : Val tb σ H y) (hr : ∀ Q : VK, Q z H → rc [x, y] H Q) : Val (tCB rc (tCons ta (tCons tb tNil))) σ H z := fun _ q => ha _ (hb _ (hr _ q))
theorem v_bm1 {T : String} {rm : V → List V → Hp → VK → Prop} (ha : Val ta σ H x) (ty : tyV K T x H) (hb : Val tb σ H y) (hr : ∀ Q : VK, Q z H → rm x [y] H Q) : Val (tBM K T rm ta (tCons tb tNil)) σ H z := fun _ q => ha _ ⟨ty, hb _ (hr _ q)⟩
theorem v_bm2 {T : String} {rm : V → List V → Hp → VK → Prop} {w : V} (ha : Val ta σ H x) (ty : tyV K T x H) (hb : Val tb σ H y) (hc : Val tc σ H w) (hr : ∀ Q : VK, Q z H → rm x [y, w] H Q) : Val (tBM K T rm ta (tCons tb (tCons tc tNil))) σ H z := fun _ q => ha _ ⟨ty, hb _ (hc _ (hr _ q))⟩
theorem v_sm1 {z : Str} {w : V} {rm : V → List V → Hp → VK → Prop} (ha : Val ta σ H (.str z)) (hb : Val tb σ H y) (hr : ∀ Q : VK, Q w H → rm (.str z) [y] H Q) : Val (tBM K "str" rm ta (tCons tb tNil)) σ H w := v_bm1 ha rfl hb hr
theorem v_sm2 {z : Str} {w u : V} {rm : V → List V → Hp → VK → Prop} (ha : Val ta σ H (.str z)) (hb : Val tb σ H y) (hc : Val tc σ H u) (hr : ∀ Q : VK, Q w H → rm (.str z) [y, u] H Q) : Val (tBM K "str" rm ta (tCons tb (tCons tc tNil))) σ H w := v_bm2 ha rfl hb hc hr
theorem v_lenL {a : Addr} {ys : List V} {n : Nat} (h : SqL K H a ys ∨ SqT K H a ys) (e : ys.length = n) : ∀ Q : VK, Q (.int (n : Int)) H → (∃ p zs, [V.ref a] = [.ref p] ∧ (SqL K H p zs ∨ SqT K H p zs) ∧ Q (.int zs.length) H) := fun Q q => ⟨a, ys, rfl, h, by rw [e]; exact q⟩
theorem v_lenS {l : List Nat} (h : l.length ≤ L24) : ∀ Q : VK, Q (.int (l.length : Int)) H → (∃ z, [tS l] = [.str z] ∧ z.length ≤ sizeLine ∧ Q (.int z.length) H) := fun Q q => ⟨_, rfl, h, q⟩
theorem v_abs {i : Int} : ∀ Q : VK, Q (.int (absI i)) H → (∃ j, [V.int i] = [.int j] ∧ Q (.int (if j < 0 then -j else j)) H) := fun _ q => ⟨i, rfl, q⟩
theorem v_max2 {i j : Int} : ∀ Q : VK, Q (.int (maxI i j)) H → (∃ k l, [V.int i, V.int j] = [.int k, .int l] ∧ Q (.int (if l > k then l else k)) H) := fun _ q => ⟨i, j, rfl, q⟩
theorem v_min2 {i j : Int} : ∀ Q : VK, Q (.int (minI i j)) H → (∃ k l, [V.int i, V.int j] = [.int k, .int l] ∧ Q (.int (if l < k then l else k)) H) := fun _ q => ⟨i, j, rfl, q⟩
theorem v_intI {i : Int} : ∀ Q : VK, Q (.int i) H → ((∃ j, [V.int i] = [.int j] ∧ Q (.int j) H) ∨ ∃ k, [V.int i] = [.bl k] ∧ Q (.int (if k then 1 else 0)) H) := fun _ q => .inl ⟨i, rfl, q⟩
theorem v_intB {b : Bool} : ∀ Q : VK, Q (.int (if b = true then 1 else 0)) H → ((∃ j, [V.bl b] = [.int j] ∧ Q (.int j) H) ∨ ∃ k, [V.bl b] = [.bl k] ∧ Q (.int (if k then 1 else 0)) H) := fun _ q => .inr ⟨b, rfl, q⟩
theorem v_ord {l : List Nat} {c : Nat} (e : ordO l = some c) : ∀ Q : VK, Q (.int (c : Int)) H → (∃ x, [tS l] = [.str x] ∧ x.length = 1 ∧ Q (.int (x.cps.getD 0 0 : Nat)) H) := fun Q q => by
  unfold ordO at e
  split at e
  · cases e
    exact ⟨_, rfl, rfl, q⟩
  · cases e
theorem v_startswith {l p : List Nat} : ∀ Q : VK, Q (.bl (prefB p l)) H → (∃ a b, tS l = .str a ∧ [tS p] = [.str b] ∧ Q (.bl (Txt.startswith a b)) H) := fun _ q => ⟨_, _, rfl, rfl, q⟩
theorem v_find3 {l p : List Nat} {i : Int} : ∀ Q : VK, Q (.int (findT l p i)) H → (∃ (a b : Str) (j : Int), tS l = .str a ∧ [tS p, .int i] = [.str b, .int j] ∧ Q (.int (Txt.find3 a b j)) H) := fun _ q => ⟨_, _, _, rfl, rfl, q⟩
theorem v_isi {c : V} {t u : Value} (hc : ClsV c u) (ty : TyX K H x t) (e : PySem.W.kitOne K t u = some b) : ∀ Q : VK, Q (.bl b) H → rIsi K [x, c] H Q := fun _ q => ⟨x, c, t, u, b, rfl, hc, ty, e, q⟩
theorem kit_list_list : PySem.W.kitOne K (.type "list") (.type "list") = some true := kit_ty (by decide +kernel)
theorem kit_list_tuple : PySem.W.kitOne K (.type "list") (.type "tuple") = some false := kit_ty (by decide +kernel)
theorem kit_tuple_tuple : PySem.W.kitOne K (.type "tuple") (.type "tuple") = some true := kit_ty (by decide +kernel)
theorem kit_tuple_list : PySem.W.kitOne K (.type "tuple") (.type "list") = some false := kit_ty (by decide +kernel)
theorem kit_int_int : PySem.W.kitOne K (.type "int") (.type "int") = some true := kit_ty (by decide +kernel)
theorem kit_int_bool : PySem.W.kitOne K (.type "int") (.type "bool") = some false := kit_ty (by decide +kernel)
theorem kit_bool_bool : PySem.W.kitOne K (.type "bool") (.type "bool") = some true := kit_ty (by decide +kernel)
theorem kit_bool_int : PySem.W.kitOne K (.type "bool") (.type "int") = some true := kit_ty (by decide +kernel)
theorem kit_NoneType_tuple : PySem.W.kitOne K (.type "NoneType") (.type "tuple") = some false := kit_ty (by decide +kernel)
theorem kit_NoneType_list : PySem.W.kitOne K (.type "NoneType") (.type "list") = some false := kit_ty (by decide +kernel)
theorem kit_NoneType_int : PySem.W.kitOne K (.type "NoneType") (.type "int") = some false := kit_ty (by decide +kernel)
theorem kit_NoneType_bool : PySem.W.kitOne K (.type "NoneType") (.type "bool") = some false := kit_ty (by decide +kernel)
theorem kit_NoneType_str : PySem.W.kitOne K (.type "NoneType") (.type "str") = some false := kit_ty (by decide +kernel)
theorem kit_str_int : PySem.W.kitOne K (.type "str") (.type "int") = some false := kit_ty (by decide +kernel)
theorem kit_str_bool : PySem.W.kitOne K (.type "str") (.type "bool") = some false := kit_ty (by decide +kernel)
theorem kit_str_list : PySem.W.kitOne K (.type "str") (.type "list") = some false := kit_ty (by decide +kernel)
theorem kit_str_tuple : PySem.W.kitOne K (.type "str") (.type "tuple") = some false := kit_ty (by decide +kernel)
theorem kit_int_str : PySem.W.kitOne K (.type "int") (.type "str") = some false := kit_ty (by decide +kernel)
theorem kit_int_list : PySem.W.kitOne K (.type "int") (.type "list") = some false := kit_ty (by decide +kernel)
theorem kit_int_tuple : PySem.W.kitOne K (.type "int") (.type "tuple") = some false := kit_ty (by decide +kernel)
theorem kit_bool_str : PySem.W.kitOne K (.type "bool") (.type "str") = some false := kit_ty (by decide +kernel)
theorem kit_list_str : PySem.W.kitOne K (.type "list") (.type "str") = some false := kit_ty (by decide +kernel)
theorem kit_list_int : PySem.W.kitOne K (.type "list") (.type "int") = some false := kit_ty (by decide +kernel)
theorem kit_list_bool : PySem.W.kitOne K (.type "list") (.type "bool") = some false := kit_ty (by decide +kernel)
theorem kit_tuple_str : PySem.W.kitOne K (.type "tuple") (.type "str") = some false := kit_ty (by decide +kernel)
theorem kit_tuple_int : PySem.W.kitOne K (.type "tuple") (.type "int") = some false := kit_ty (by decide +kernel)
theorem kit_tuple_bool : PySem.W.kitOne K (.type "tuple") (.type "bool") = some false := kit_ty (by decide +kernel)
theorem kit_str_str : PySem.W.kitOne K (.type "str") (.type "str") = some true := kit_ty (by decide +kernel)
theorem v_join {s : List Nat} {a : Addr} {ls : List (List Nat)} (h : SqL K H a (ls.map tS) ∨ SqT K H a (ls.map tS)) (hs : SJoin s ls) : ∀ Q : VK, Q (tS (joinT s ls)) H →
    (∃ a' p, ∃ ys : List Str, tS s = .str a' ∧ [V.ref a] = [.ref p] ∧ (SqL K H p (ys.map V.str) ∨ SqT K H p (ys.map V.str)) ∧ (ys.map (·.length)).sum + ys.length * a'.length ≤ 16777216 ∧ Q (.str (Txt.join a' ys)) H) := fun Q q => by
  refine ⟨_, _, ls.map (fun l => ⟨l.toArray⟩), rfl, rfl, ?_, ?_, ?_⟩
  · rw [List.map_map]; exact h
  · have e : (ls.map (fun l => (⟨l.toArray⟩ : Str))).map (·.length) = ls.map (·.length) := by
      rw [List.map_map]; rfl
    rw [e, List.length_map]; exact hs
  · have e : Txt.join ⟨s.toArray⟩ (ls.map (fun l => (⟨l.toArray⟩ : Str))) = ⟨(joinT s ls).toArray⟩ := by
      unfold joinT
      simp
    rw [e]; exact q
theorem sl_go {a : Addr} {vs : List V} {lo hi : Option Int} (h : SqL K H a vs) (q : Alloc (.lst (cutV vs lo hi)) Q H) : rSlL K (.ref a) lo hi H Q := ⟨a, vs, rfl, h, q⟩
theorem cutV_map {α : Type} {f : α → V} {l : List α} {lo hi : Option Int} : cutV (l.map f) lo hi = (cutT l lo hi).map f := by
  unfold cutV cutT
  rw [List.length_map, List.map_take, List.map_drop]
theorem tyL {a : Addr} {vs : List V} (h : SqL K H a vs) : tyV K "list" (.ref a) H := .inl ⟨rfl, _, h⟩
end
/-! ### the loops' other sources; comprehensions -/
section
variable {K : PySem.W.Frag} {α β S : Type} {g : TG} {tt : TT} {te : TE} {vs : List Nat} {σ : L2.St} {H H1 : Hp} {J : It} {xs : List α} {ys : List β} {D : Addr} {Qd : Hp → Prop}
theorem rng0_st {hi : Int} {Inv : S → L2.St → Hp → Prop} : ∀ s σ H, Inv s σ H → (Itr 0 hi.toNat).stop (rng 0 hi).length H := fun _ _ _ _ => by
  rw [rng_len, Int.sub_zero]; exact Nat.le_refl _
theorem rng0_go {hi : Int} {Inv : S → L2.St → Hp → Prop} : ∀ i x s σ H, (rng 0 hi)[i]? = some x → Inv s σ H → (Itr 0 hi.toNat).go i H := fun i x _ _ _ e _ => by
  have h := (rng_get e).1
  rw [Int.sub_zero] at h; exact h
theorem rng0_yld {hi x : Int} {n : Nat} {v : V} {H' : Hp} {i : Nat} (h : (Itr 0 n).yld i H v H') (e : (rng 0 hi)[i]? = some x) : H = H' ∧ v = .int x := ⟨h.1.symm, by rw [h.2, (rng_get e).2]⟩
theorem lcl_st {a : Addr} {vs : List V} {Inv : List β → Hp → Prop} (hl : ∀ l H, Inv l H → SqL K H a vs) (n : vs.length = xs.length) : ∀ l H, Inv l H → (Itl K a).stop xs.length H := fun l H h => ⟨vs, hl l H h, Nat.le_of_eq n⟩
theorem lcl_go {a : Addr} {vs : List V} {Inv : List β → Hp → Prop} (hl : ∀ l H, Inv l H → SqL K H a vs) (n : vs.length = xs.length) : ∀ i x l H, xs[i]? = some x → Inv l H → (Itl K a).go i H := fun i x l H e h => by
  have hi : i < vs.length := by rw [n]; exact (List.getElem?_eq_some_iff.mp e).1
  exact ⟨vs, vs[i], hl l H h, by simp [hi]⟩
theorem lct_st {a : Addr} {vs : List V} {Inv : List β → Hp → Prop} (hl : ∀ l H, Inv l H → SqT K H a vs) (n : vs.length = xs.length) : ∀ l H, Inv l H → (Itt K a).stop xs.length H := fun l H h => ⟨vs, hl l H h, Nat.le_of_eq n⟩
theorem lct_go {a : Addr} {vs : List V} {Inv : List β → Hp → Prop} (hl : ∀ l H, Inv l H → SqT K H a vs) (n : vs.length = xs.length) : ∀ i x l H, xs[i]? = some x → Inv l H → (Itt K a).go i H := fun i x l H e h => by
  have hi : i < vs.length := by rw [n]; exact (List.getElem?_eq_some_iff.mp e).1
  exact ⟨vs, vs[i], hl l H h, by simp [hi]⟩
theorem lcrng_st {lo hi : Int} {Inv : List β → Hp → Prop} : ∀ l H, Inv l H → (Itr lo (hi - lo).toNat).stop (rng lo hi).length H := fun _ _ _ => by
  rw [rng_len]; exact Nat.le_refl _
theorem lcrng_go {lo hi : Int} {Inv : List β → Hp → Prop} : ∀ i x l H, (rng lo hi)[i]? = some x → Inv l H → (Itr lo (hi - lo).toNat).go i H := fun i x _ _ e _ => (rng_get e).1
theorem lcrng0_st {hi : Int} {Inv : List β → Hp → Prop} : ∀ l H, Inv l H → (Itr 0 hi.toNat).stop (rng 0 hi).length H := fun _ _ _ => by
  rw [rng_len, Int.sub_zero]; exact Nat.le_refl _
theorem lcrng0_go {hi : Int} {Inv : List β → Hp → Prop} : ∀ i x l H, (rng 0 hi)[i]? = some x → Inv l H → (Itr 0 hi.toNat).go i H := fun i x _ _ e _ => by
  have h := (rng_get e).1
  rw [Int.sub_zero] at h; exact h
theorem lcstr_st {l : List Nat} {Inv : List β → Hp → Prop} : ∀ k H, Inv k H → (Its ⟨l.toArray⟩).stop l.length H := fun _ _ _ => Nat.le_refl _
theorem lcstr_go {l : List Nat} {Inv : List β → Hp → Prop} : ∀ i x k H, l[i]? = some x → Inv k H → (Its ⟨l.toArray⟩).go i H := fun i x _ _ e _ => (List.getElem?_eq_some_iff.mp e).1
/-- [f x for x in xs] -/
theorem lc_M {f : α → Option β} (Inv : List β → Hp → Prop) (e : mapO f xs = some ys) (small : xs.length ≤ L24) (h0 : Inv [] (upd H1 D (.lst [])))
    (hst : ∀ l H, Inv l H → J.stop xs.length H) (hgo : ∀ i x l H, xs[i]? = some x → Inv l H → J.go i H)
    (hs : ∀ i x y l H, xs[i]? = some x → Inv l H → l.length = i → f x = some y → ∀ v H', J.yld i H v H' → ∀ Nx : Hp → Prop, (∀ H', Inv (l ++ [y]) H' → Nx H') → g v (wipe σ vs) H' fun σ2 H2 => wipe σ2 vs = wipe σ vs ∧ tt σ2 H2 fun b H3 =>
      if b = true then te σ2 H3 fun y H4 => ∃ acc, H4 D = some (.lst acc) ∧ acc.length < sizeLine ∧ Nx (upd H4 D (.lst (acc ++ [y]))) else Nx H3)
    (hd : ∀ H, Inv ys H → Qd H) :
    ∃ W : Nat → Nat → Hp → Prop, (∃ m, W 0 m (upd H1 D (.lst []))) ∧ ∀ i m H, W i m H →
      (J.stop i H ∧ Qd H) ∨ (J.go i H ∧ ∃ Nx : Hp → Prop, (∀ H', Nx H' → ∃ m', m' < m ∧ W (i + 1) m' H') ∧ ∀ x H', J.yld i H x H' → g x (wipe σ vs) H' fun σ2 H2 => wipe σ2 vs = wipe σ vs ∧ tt σ2 H2 fun b H3 =>
        if b = true then te σ2 H3 fun y H4 => ∃ acc, H4 D = some (.lst acc) ∧ acc.length < sizeLine ∧ Nx (upd H4 D (.lst (acc ++ [y]))) else Nx H3) := by
  refine ⟨fun i m H => m = xs.length - i ∧ i ≤ xs.length ∧ ∃ l k, l.length = i ∧ Inv l H ∧ mapO f (xs.drop i) = some k ∧ ys = l ++ k, ⟨xs.length, by simp, Nat.zero_le _, [], ys, rfl, h0, e, rfl⟩, ?_⟩
  rintro i m H ⟨rfl, hi, l, k, hl, hI, hk, hy⟩
  by_cases hlt : i < xs.length
  · have hx : xs[i]? = some xs[i] := by simp [hlt]
    rw [drop_at hlt] at hk
    obtain ⟨y, e1, e2⟩ := bind_some hk
    obtain ⟨k', e3, e4⟩ := bind_some e2
    have e5 : y :: k' = k := Option.some.inj e4
    subst e5
    refine .inr ⟨hgo i _ l H hx hI, fun H' => ∃ l k, l.length = i + 1 ∧ Inv l H' ∧ mapO f (xs.drop (i + 1)) = some k ∧ ys = l ++ k, fun H' z => ⟨xs.length - (i + 1), by omega, rfl, hlt, z⟩, fun v H' hyv => ?_⟩
    exact hs i _ y l H hx hI hl e1 v H' hyv _ fun H' z => ⟨l ++ [y], k', by simp [hl], z, e3, by rw [hy]; simp⟩
  · have hl2 : i = xs.length := by omega
    subst hl2
    rw [List.drop_length] at hk
    have e1 : [] = k := Option.some.inj hk
    subst e1
    rw [List.append_nil] at hy
    subst hy
    exact .inl ⟨hst _ H hI, hd H hI⟩
/-- [f x for x in xs if t x] -/
theorem lc_F {t : α → Option Bool} {f : α → Option β} (Inv : List β → Hp → Prop) (e : filO t f xs = some ys) (small : xs.length ≤ L24) (h0 : Inv [] (upd H1 D (.lst [])))
    (hst : ∀ l H, Inv l H → J.stop xs.length H) (hgo : ∀ i x l H, xs[i]? = some x → Inv l H → J.go i H)
    (hs : ∀ i x b l H, xs[i]? = some x → Inv l H → l.length ≤ i → t x = some b → ∀ v H', J.yld i H v H' → ∀ Nx : Hp → Prop,
      ((b = true → ∃ y, f x = some y ∧ ∀ H', Inv (l ++ [y]) H' → Nx H') ∧ (b = false → ∀ H', Inv l H' → Nx H')) → g v (wipe σ vs) H' fun σ2 H2 => wipe σ2 vs = wipe σ vs ∧ tt σ2 H2 fun b H3 =>
      if b = true then te σ2 H3 fun y H4 => ∃ acc, H4 D = some (.lst acc) ∧ acc.length < sizeLine ∧ Nx (upd H4 D (.lst (acc ++ [y]))) else Nx H3)
    (hd : ∀ H, Inv ys H → Qd H) :
    ∃ W : Nat → Nat → Hp → Prop, (∃ m, W 0 m (upd H1 D (.lst []))) ∧ ∀ i m H, W i m H →
      (J.stop i H ∧ Qd H) ∨ (J.go i H ∧ ∃ Nx : Hp → Prop, (∀ H', Nx H' → ∃ m', m' < m ∧ W (i + 1) m' H') ∧ ∀ x H', J.yld i H x H' → g x (wipe σ vs) H' fun σ2 H2 => wipe σ2 vs = wipe σ vs ∧ tt σ2 H2 fun b H3 =>
        if b = true then te σ2 H3 fun y H4 => ∃ acc, H4 D = some (.lst acc) ∧ acc.length < sizeLine ∧ Nx (upd H4 D (.lst (acc ++ [y]))) else Nx H3) := by
  refine ⟨fun i m H => m = xs.length - i ∧ i ≤ xs.length ∧ ∃ l k, l.length ≤ i ∧ Inv l H ∧ filO t f (xs.drop i) = some k ∧ ys = l ++ k, ⟨xs.length, by simp, Nat.zero_le _, [], ys, Nat.le_refl _, h0, e, rfl⟩, ?_⟩
  rintro i m H ⟨rfl, hi, l, k, hl, hI, hk, hy⟩
  by_cases hlt : i < xs.length
  · have hx : xs[i]? = some xs[i] := by simp [hlt]
    rw [drop_at hlt] at hk
    obtain ⟨b, e1, e2⟩ := bind_some hk
    refine .inr ⟨hgo i _ l H hx hI, fun H' => ∃ l k, l.length ≤ i + 1 ∧ Inv l H' ∧ filO t f (xs.drop (i + 1)) = some k ∧ ys = l ++ k, fun H' z => ⟨xs.length - (i + 1), by omega, rfl, hlt, z⟩, fun v H' hyv => ?_⟩
    refine hs i _ b l H hx hI hl e1 v H' hyv _ ⟨fun hb => ?_, fun hb => ?_⟩
    · obtain ⟨y, e3, e4⟩ := bind_some (if_inv_t hb e2)
      obtain ⟨k', e5, e6⟩ := bind_some e4
      have e7 : y :: k' = k := Option.some.inj e6
      subst e7
      exact ⟨y, e3, fun H' z => ⟨l ++ [y], k', by simp; omega, z, e5, by rw [hy]; simp⟩⟩
    · exact fun H' z => ⟨l, k, by omega, z, if_inv_f hb e2, hy⟩
  · have hl2 : i = xs.length := by omega
    subst hl2
    rw [List.drop_length] at hk
    have e1 : [] = k := Option.some.inj hk
    subst e1
    rw [List.append_nil] at hy
    subst hy
    exact .inl ⟨hst _ H hI, hd H hI⟩
end
/-! ### the text's facts -/
def Txt (fa : List He.Fa) (fn : List He.DefD) (K : PySem.W.Frag) (mg : Str → Option Value) : Prop := (∃ h : Heap, K.In h ∧ h.Ns mainGlobals mg) ∧ He.SaysD fa fn K
section
variable {fa : List He.Fa} {fn : List He.DefD} {K : PySem.W.Frag} {mg : Str → Option Value}
theorem Txt.glo (E : Txt fa fn K mg) (i : Nat) {x : Str} (h : fa[i]? = some (.glo x) := by rfl) : mg x = some (.ref (He.ga K x)) := by
  obtain ⟨⟨hh, X, G⟩, c⟩ := E
  exact He.glo_ok X G (c.fact i h)
theorem Txt.free (E : Txt fa fn K mg) (i : Nat) {x : Str} (h : fa[i]? = some (.free x) := by rfl) : mg x = none := by
  obtain ⟨⟨hh, X, G⟩, c⟩ := E
  exact He.free_ok X G (c.fact i h)
abbrev FunP (K : PySem.W.Frag) (x : Str) (st : Stmt) (f : Addr) (fd : FuncData) : Prop := FunD K x x (defArgs st) (defBody st) (defScope st) [] [] f fd
/-- a def of the text, called by its name -/
def Ok (P : Program) (w : World) (K : PySem.W.Frag) (mg : Str → Option Value) (base : Heap) (CX : CXT) (k : Nat) (x : Str) (ps : List Str) (sp : Sp) : Prop :=
  ∃ fd, FnOk P w K mg base CX k (He.ga K x) fd ps sp ∧ Binds K fd ps [] ∧ PySem.W.keepIn K (.ref (He.ga K x)) = true ∧ mg x = some (.ref (He.ga K x))
end
end Wk
/-! my own: == and in over lists and tuples of ints -/
namespace Wk
open PySem PySem.Spec PyProof.Rows L2
/-- how a value of a type is data -/
class Enc {α : Type} [DecidableEq α] (r : Hp → V → α → Prop) where
  enc : α → PyData
  d : Nat
  dp : ∀ {K : PySem.W.Frag} {B H : Hp} {v : V} {x : α}, Ex B H → r B v x → Dp K H v (enc x)
  lay : ∀ x, PyData.canLay0 (enc x) = true
  dep : ∀ x, PyData.depth (enc x) ≤ d
  eqv : ∀ x y, PyData.eqv (enc x) (enc y) = decide (x = y)
instance : Enc rI where
  enc i := .int i
  d := 0
  dp := fun _ h => by rw [h]; exact .int _
  lay := fun _ => by simp [PyData.canLay0]
  dep := fun _ => by simp [PyData.depth]
  eqv := fun x y => by
    simp only [PyData.eqv]
    rw [Bool.beq_eq_decide_eq]
section
variable {α β γ : Type} [DecidableEq α] [DecidableEq β] [DecidableEq γ] {r : Hp → V → α → Prop} {q : Hp → V → β → Prop} {t : Hp → V → γ → Prop}
theorem enc_all [E : Enc r] {K : PySem.W.Frag} {B H : Hp} (e : Ex B H) : ∀ {vs : List V} {xs : List α}, All2 (r B) vs xs → DpAll K H vs (xs.map (Enc.enc r))
  | _, _, .nil => .nil
  | _, _, .cons h t => .cons (Enc.dp e h) (enc_all e t)
theorem lay_all [E : Enc r] : ∀ xs : List α, PyData.canLayAll0 (xs.map (Enc.enc r)) = true
  | [] => by simp [PyData.canLayAll0]
  | x :: xs => by simp [PyData.canLayAll0, Enc.lay (r := r) x, lay_all xs]
theorem dep_all [E : Enc r] : ∀ xs : List α, PyData.depthAll (xs.map (Enc.enc r)) ≤ Enc.d r
  | [] => by simp [PyData.depthAll]
  | x :: xs => by
    have h1 := Enc.dep (r := r) x
    have h2 : PyData.depthAll (xs.map (Enc.enc r)) ≤ Enc.d r := dep_all xs
    simp only [List.map_cons, PyData.depthAll]
    omega
theorem eqv_all [E : Enc r] : ∀ xs ys : List α, PyData.eqvAll (xs.map (Enc.enc r)) (ys.map (Enc.enc r)) = decide (xs = ys)
  | [], [] => by simp [PyData.eqvAll]
  | [], y :: ys => by simp [PyData.eqvAll]
  | x :: xs, [] => by simp [PyData.eqvAll]
  | x :: xs, y :: ys => by
    simp only [List.map_cons, PyData.eqvAll, Enc.eqv, eqv_all xs ys]
    by_cases h : x = y
    · by_cases k : xs = ys
      · simp [h, k]
      · simp [h, k]
    · simp [h]
instance [E : Enc r] : Enc (rL r) where
  enc xs := .list (xs.map (Enc.enc r))
  d := Enc.d r + 1
  dp := fun e ⟨a, vs, h1, h2, h3⟩ => by rw [h1]; exact .lst (.inl (.inl (e _ _ h2))) (enc_all e h3)
  lay := fun xs => by simp only [PyData.canLay0]; exact lay_all xs
  dep := fun xs => by
    have := dep_all (r := r) xs
    simp only [PyData.depth]; omega
  eqv := fun xs ys => by simp only [PyData.eqv]; exact eqv_all xs ys
instance [E : Enc r] : Enc (rH r) where
  enc xs := .tuple (xs.map (Enc.enc r))
  d := Enc.d r + 1
  dp := fun e ⟨a, vs, h1, h2, h3⟩ => by rw [h1]; exact .tup (.inl (.inl (e _ _ h2))) (enc_all e h3)
  lay := fun xs => by simp only [PyData.canLay0]; exact lay_all xs
  dep := fun xs => by
    have := dep_all (r := r) xs
    simp only [PyData.depth]; omega
  eqv := fun xs ys => by simp only [PyData.eqv]; exact eqv_all xs ys
instance [E : Enc r] [F : Enc q] : Enc (rT2 r q) where
  enc x := .tuple [Enc.enc r x.1, Enc.enc q x.2]
  d := max (Enc.d r) (Enc.d q) + 1
  dp := fun e ⟨a, v1, v2, h1, h2, h3, h4⟩ => by rw [h1]; exact .tup (.inl (.inl (e _ _ h2))) (.cons (Enc.dp e h3) (.cons (Enc.dp e h4) .nil))
  lay := fun x => by simp [PyData.canLay0, PyData.canLayAll0, Enc.lay]
  dep := fun x => by
    have h1 := Enc.dep (r := r) x.1
    have h2 := Enc.dep (r := q) x.2
    simp only [PyData.depth, PyData.depthAll]; omega
  eqv := fun x y => by
    simp only [PyData.eqv, PyData.eqvAll, Enc.eqv, Bool.and_true]
    obtain ⟨x1, x2⟩ := x
    obtain ⟨y1, y2⟩ := y
    by_cases h : x1 = y1 <;> by_cases k : x2 = y2 <;> simp [h, k]
instance [E : Enc r] [F : Enc q] [G : Enc t] : Enc (rT3 r q t) where
  enc x := .tuple [Enc.enc r x.1, Enc.enc q x.2.1, Enc.enc t x.2.2]
  d := max (Enc.d r) (max (Enc.d q) (Enc.d t)) + 1
  dp := fun e ⟨a, v1, v2, v3, h1, h2, h3, h4, h5⟩ => by rw [h1]; exact .tup (.inl (.inl (e _ _ h2))) (.cons (Enc.dp e h3) (.cons (Enc.dp e h4) (.cons (Enc.dp e h5) .nil)))
  lay := fun x => by simp [PyData.canLay0, PyData.canLayAll0, Enc.lay]
  dep := fun x => by
    have h1 := Enc.dep (r := r) x.1
    have h2 := Enc.dep (r := q) x.2.1
    have h3 := Enc.dep (r := t) x.2.2
    simp only [PyData.depth, PyData.depthAll]; omega
  eqv := fun x y => by
    simp only [PyData.eqv, PyData.eqvAll, Enc.eqv, Bool.and_true]
    obtain ⟨x1, x2, x3⟩ := x
    obtain ⟨y1, y2, y3⟩ := y
    by_cases h : x1 = y1 <;> by_cases k : x2 = y2 <;> by_cases l : x3 = y3 <;> simp [h, k, l]
theorem enc_shaped [E : Enc r] (hd : Enc.d r ≤ 64) (x : α) : SeqAt.shaped (Enc.enc r x) = true := by
  unfold SeqAt.shaped
  rw [Enc.lay, decide_eq_true (Nat.le_trans (Enc.dep x) hd)]
  rfl
variable {K : PySem.W.Frag} {B B' H : Hp} {v w : V} {x y : α} {Q : VK}
theorem v_eqD [E : Enc r] (hd : Enc.d r ≤ 64) (h1 : r B v x) (e1 : Ex B H) (h2 : r B' w y) (e2 : Ex B' H) : ∀ Q : VK, Q (.bl (decide (x = y))) H → rEqD K v w H Q := fun Q q =>
  ⟨_, _, Enc.dp e1 h1, Enc.dp e2 h2, enc_shaped hd x, enc_shaped hd y, by rw [Enc.eqv]; exact q⟩
theorem v_neD [E : Enc r] (hd : Enc.d r ≤ 64) (h1 : r B v x) (e1 : Ex B H) (h2 : r B' w y) (e2 : Ex B' H) : ∀ Q : VK, Q (.bl (decide (x ≠ y))) H → rNeD K v w H Q := fun Q q =>
  ⟨_, _, Enc.dp e1 h1, Enc.dp e2 h2, enc_shaped hd x, enc_shaped hd y, by
    have e : (!decide (x = y)) = decide (x ≠ y) := by by_cases h : x = y <;> simp [h]
    rw [Enc.eqv, e]; exact q⟩
/-- an owned list has such a place too -/
theorem own_rL {a : Addr} {vs : List V} {xs : List α} (h : H a = some (.lst vs)) (hA : All2 (r H) vs xs) : rL r H (.ref a) xs := ⟨a, vs, rfl, h, hA⟩
theorem enc_any [E : Enc r] (x : α) : ∀ xs : List α, ((xs.map (Enc.enc r)).any fun z => PyData.eqv z (Enc.enc r x)) = xs.contains x
  | [] => rfl
  | y :: ys => by
    rw [List.map_cons, List.any_cons, enc_any x ys, Enc.eqv, List.contains_cons]
    congr 1
    by_cases h : y = x
    · subst h; simp
    · have h2 : ¬ x = y := fun z => h z.symm
      simp [h, h2]
/-- x in xs, by the equality of data -/
def inB (x : α) (xs : List α) : Bool := xs.any fun y => decide (y = x)
theorem inB_iff {x : α} {xs : List α} : inB x xs = true ↔ x ∈ xs := by
  unfold inB
  rw [List.any_eq_true]
  exact ⟨fun ⟨y, h, e⟩ => of_decide_eq_true e ▸ h, fun h => ⟨x, h, decide_eq_true rfl⟩⟩
theorem enc_anyB [E : Enc r] (x : α) : ∀ xs : List α, ((xs.map (Enc.enc r)).any fun z => PyData.eqv z (Enc.enc r x)) = inB x xs
  | [] => rfl
  | y :: ys => by
    have h := enc_anyB x ys
    unfold inB at h ⊢
    rw [List.map_cons, List.any_cons, h, Enc.eqv, List.any_cons]
theorem v_inD [E : Enc r] {xs : List α} (hd : Enc.d r + 1 ≤ 64) (h1 : r B v x) (e1 : Ex B H) (h2 : rL r B' w xs) (e2 : Ex B' H) : ∀ Q : VK, Q (.bl (inB x xs)) H → rInD K v w H Q := fun Q q =>
  ⟨_, xs.map (Enc.enc r), Enc.dp e1 h1, Enc.dp (r := rL r) e2 h2, enc_shaped (by omega) x, enc_shaped (r := rL r) hd xs, by rw [enc_anyB]; exact q⟩
theorem v_ninD [E : Enc r] {xs : List α} (hd : Enc.d r + 1 ≤ 64) (h1 : r B v x) (e1 : Ex B H) (h2 : rL r B' w xs) (e2 : Ex B' H) : ∀ Q : VK, Q (.bl (!inB x xs)) H → rNotInD K v w H Q := fun Q q =>
  ⟨_, xs.map (Enc.enc r), Enc.dp e1 h1, Enc.dp (r := rL r) e2 h2, enc_shaped (by omega) x, enc_shaped (r := rL r) hd xs, by rw [enc_anyB]; exact q⟩
end
theorem _root_.L2.Room.u65 {k : Nat} {A : Around} (r : Room k A) : A.units + 65 < cLine := by have := r.un; omega
theorem v_eqLI {K : PySem.W.Frag} {H : Hp} {a b : Addr} {xs ys : List Int} (h1 : H a = some (.lst (xs.map V.int))) (h2 : H b = some (.lst (ys.map V.int))) : ∀ Q : VK, Q (.bl (decide (xs = ys))) H → rEqD K (.ref a) (.ref b) H Q :=
  v_eqD (r := rL rI) (by decide) ⟨a, _, rfl, h1, all2I xs⟩ (Ex.refl H) ⟨b, _, rfl, h2, all2I ys⟩ (Ex.refl H)
theorem v_neLI {K : PySem.W.Frag} {H : Hp} {a b : Addr} {xs ys : List Int} (h1 : H a = some (.lst (xs.map V.int))) (h2 : H b = some (.lst (ys.map V.int))) : ∀ Q : VK, Q (.bl (decide (xs ≠ ys))) H → rNeD K (.ref a) (.ref b) H Q :=
  v_neD (r := rL rI) (by decide) ⟨a, _, rfl, h1, all2I xs⟩ (Ex.refl H) ⟨b, _, rfl, h2, all2I ys⟩ (Ex.refl H)
/-! membership of flat things -/
theorem inV_I (x : Int) : ∀ xs : List Int, inV (.int x) (xs.map V.int) = xs.contains x
  | [] => rfl
  | y :: ys => by
    have h := inV_I x ys
    unfold inV at h ⊢
    rw [List.map_cons, List.any_cons, h, List.contains_cons]
    congr 1
    simp [eqV, eq_comm, Bool.beq_eq_decide_eq]
theorem inV_S (x : List Nat) : ∀ xs : List (List Nat), inV (tS x) (xs.map tS) = xs.contains x
  | [] => rfl
  | y :: ys => by
    have h := inV_S x ys
    unfold inV at h ⊢
    rw [List.map_cons, List.any_cons, h, List.contains_cons]
    congr 1
    by_cases e : y = x
    · subst e; simp [eqV]
    · have e2 : ¬ x = y := fun z => e z.symm
      have e3 : (⟨y.toArray⟩ : Str) ≠ ⟨x.toArray⟩ := fun z => e (List.toArray_inj (by injection z))
      simp only [eqV]
      rw [beq_eq_false_iff_ne.mpr e3, beq_eq_false_iff_ne.mpr e2]
section
variable {K : PySem.W.Frag} {H : Hp}
theorem flat_I (xs : List Int) : (xs.map V.int).all flatV = true := by rw [List.all_map]; simp [flatV, Function.comp_def]
theorem flat_S (xs : List (List Nat)) : (xs.map tS).all flatV = true := by rw [List.all_map]; simp [flatV, Function.comp_def]
theorem v_inI {a : Addr} {x : Int} {xs : List Int} (h : SqL K H a (xs.map V.int) ∨ SqT K H a (xs.map V.int)) : ∀ Q : VK, Q (.bl (xs.contains x)) H → rIn K false (.int x) (.ref a) H Q := fun Q q => ⟨a, _, rfl, h, rfl, flat_I xs, by rw [if_neg (by decide), inV_I]; exact q⟩
theorem v_ninI {a : Addr} {x : Int} {xs : List Int} (h : SqL K H a (xs.map V.int) ∨ SqT K H a (xs.map V.int)) : ∀ Q : VK, Q (.bl (!xs.contains x)) H → rIn K true (.int x) (.ref a) H Q := fun Q q => ⟨a, _, rfl, h, rfl, flat_I xs, by rw [if_pos rfl, inV_I]; exact q⟩
theorem v_inS {a : Addr} {x : List Nat} {xs : List (List Nat)} (h : SqL K H a (xs.map tS) ∨ SqT K H a (xs.map tS)) : ∀ Q : VK, Q (.bl (xs.contains x)) H → rIn K false (tS x) (.ref a) H Q := fun Q q => ⟨a, _, rfl, h, rfl, flat_S xs, by rw [if_neg (by decide), inV_S]; exact q⟩
theorem v_ninS {a : Addr} {x : List Nat} {xs : List (List Nat)} (h : SqL K H a (xs.map tS) ∨ SqT K H a (xs.map tS)) : ∀ Q : VK, Q (.bl (!xs.contains x)) H → rIn K true (tS x) (.ref a) H Q := fun Q q => ⟨a, _, rfl, h, rfl, flat_S xs, by rw [if_pos rfl, inV_S]; exact q⟩
theorem find_map {α β : Type} {f : α → β} {p : β → Bool} : ∀ l : List α, (l.map f).findIdx? p = l.findIdx? (fun x => p (f x)) := fun l => by rw [List.findIdx?_map]; rfl
theorem v_indexS {a : Addr} {x : List Nat} {xs : List (List Nat)} {j : Nat} (h : SqL K H a (xs.map tS)) (e : idxO xs x = some j) : ∀ Q : VK, Q (.int (j : Int)) H → rIndex K (.ref a) [tS x] H Q := fun Q q => by
  unfold idxO at e
  rw [List.findIdx?_eq_some_iff_getElem] at e
  obtain ⟨hj, h1, h2⟩ := e
  refine ⟨a, xs.map tS, tS x, j, tS xs[j], rfl, rfl, h, rfl, flat_S xs, by simp [hj], ?_, ?_, q⟩
  · have h3 : xs[j] = x := by simpa using h1
    rw [h3]; simp [eqV]
  · intro m z hm hz
    have hm2 : m < xs.length := Nat.lt_trans hm hj
    rw [List.getElem?_map, List.getElem?_eq_getElem hm2] at hz
    have hz2 : tS xs[m] = z := Option.some.inj hz
    subst hz2
    have h3 := h2 m hm
    have h4 : ¬ xs[m] = x := by simpa using h3
    have e3 : (⟨xs[m].toArray⟩ : Str) ≠ ⟨x.toArray⟩ := fun z => h4 (List.toArray_inj (by injection z))
    simp [eqV, e3]
end
end Wk
/-! my own: text * int, text[::-1], sorted of tuples of ints -/
namespace Wk
open PySem PySem.Spec PyProof.Rows L2
/-! ### text * int -/
def repS (l : List Nat) (n : Int) : List Nat := (List.replicate n.toNat l).flatten
def SRep (l : List Nat) (n : Int) : Prop := -(2 ^ 63) ≤ n ∧ n < 2 ^ 63 ∧ l.length * n.toNat ≤ 16777216
instance (l : List Nat) (n : Int) : Decidable (SRep l n) := by unfold SRep; infer_instance
def rRepS : R2 := fun x y H Q => ∃ (l : List Nat) (n : Int), x = tS l ∧ y = .int n ∧ SRep l n ∧ Q (tS (repS l n)) H
theorem fold_rep (l : List Nat) : ∀ (k : Nat) (a : Array Nat), (List.replicate k l.toArray).foldl (· ++ ·) a = a ++ ((List.replicate k l).flatten).toArray
  | 0, a => by simp
  | k + 1, a => by
    rw [List.replicate_succ, List.foldl_cons, fold_rep l k, List.replicate_succ, List.flatten_cons]
    simp
theorem rep_len (l : List Nat) (k : Nat) : ((List.replicate k l).flatten).length = k * l.length := by
  rw [List.length_flatten, List.map_replicate, List.sum_replicate_nat]
theorem op_repS {X : Cx} : OpR X (binaryOp .Mult) rRepS := by
  intro pins s σ H x y v u Q I rx ry h
  obtain ⟨l, n, rfl, rfl, ⟨h1, h2, h3⟩, q⟩ := h
  obtain ⟨t, rfl⟩ := rx
  obtain ⟨t', rfl⟩ := ry
  have hlen : (⟨l.toArray⟩ : Str).length = l.length := rfl
  refine PySem.P.mul_str (by rw [decide_eq_false (by omega), decide_eq_false (by omega)]; rfl) (fun hn hz => ?_) (fun hn hz => ?_) ?_
  · rw [hlen]
    have hn1 : 1 ≤ n := by omega
    have h4 : (l.length : Int) * n ≤ 16777216 := by
      have e : ((l.length * n.toNat : Nat) : Int) = (l.length : Int) * n := by
        rw [Int.natCast_mul, Int.toNat_of_nonneg (by omega)]
      rw [← e]; omega
    have h5 : (l.length : Int) * n ≤ 2 ^ 63 - 1 := by omega
    have h6 : (l.length : Int) ≤ (2 ^ 63 - 1) / n := by
      rw [Int.le_ediv_iff_mul_le (by omega)]; exact h5
    omega
  · rw [hlen]
    unfold PySem.Builtin.Str.tooLong
    have : ¬ l.length * n.toNat > sizeLine := by
      show ¬ l.length * n.toNat > 16777216
      omega
    simp [this]
  · by_cases hn : n < 1
    · rw [if_pos hn]
      have e : repS l n = [] := by
        unfold repS
        have : n.toNat = 0 := by omega
        rw [this]; rfl
      rw [e] at q
      exact ⟨by decide, .str _, H, I.tok _, ⟨_, rfl⟩, q⟩
    · rw [if_neg hn]
      by_cases hz : (n == 1 || (⟨l.toArray⟩ : Str).length == 0) = true
      · rw [if_pos hz]
        have e : repS l n = l := by
          unfold repS
          rcases Bool.or_eq_true_iff.mp hz with h4 | h4
          · have : n = 1 := by simpa using h4
            subst this
            simp [List.replicate_succ]
          · have : l = [] := by
              have : l.length = 0 := by simpa [hlen] using h4
              exact List.eq_nil_of_length_eq_zero this
            subst this
            simp
        rw [e] at q
        exact ⟨.str _, H, I, ⟨t, rfl⟩, q⟩
      · rw [if_neg hz]
        have e : (List.replicate n.toNat (⟨l.toArray⟩ : Str).cps).foldl (· ++ ·) #[] = (repS l n).toArray := by
          show (List.replicate n.toNat l.toArray).foldl (· ++ ·) #[] = _
          rw [fold_rep]; simp [repS]
        refine ⟨?_, .str _, H, I.tok _, ⟨_, rfl⟩, ?_⟩
        · rw [e]
          show (repS l n).toArray.size ≤ 16777216
          rw [List.size_toArray]
          unfold repS
          rw [rep_len, Nat.mul_comm]; exact h3
        · rw [e]; exact q
theorem v_repS {H : Hp} {l : List Nat} {n : Int} (h : SRep l n) : ∀ Q : VK, Q (tS (repS l n)) H → rRepS (tS l) (.int n) H Q := fun _ q => ⟨l, n, rfl, rfl, h, q⟩
/-! ### text[::-1] -/
theorem rev_list (l : List Nat) : (Builtin.Str.strSliceIndices none none (-1) l.length).filterMap (l.toArray[·]?) = l.reverse := by
  rw [picked_rev, filterMap_get]
  · refine List.ext_getElem (by simp) fun i h1 h2 => ?_
    simp at h1
    rw [List.getElem_map, List.getElem_map, List.getElem_range, List.getElem_reverse]
    have h3 : l.length - 1 - i < l.length := by omega
    simp [Array.getD, h3]
  · intro i hi
    obtain ⟨k, hk, rfl⟩ := List.mem_map.mp hi
    have hk' : k < l.length := List.mem_range.mp hk
    show l.length - 1 - k < l.toArray.size
    rw [List.size_toArray]; omega
def tRevS (te : TE) : TE := fun σ H Q => te σ H fun x H1 => ∃ l : List Nat, x = tS l ∧ l.length ≤ 16777216 ∧ Q (tS l.reverse) H1
theorem pe_revS {X : Cx} {e : Expr} {te : TE} {k : Nat} {p1 p2 p3 pos : Pos} (he : PE X e te) : PE X (.Subscript e (.Slice none none (some (.UnaryOp .USub (.Constant (.int 1) k p1) p2)) p3) pos) (tRevS te) := by
  refine ⟨fun pins s σ H Q I h => ?_⟩
  refine Subscript_ (thn (he.run pins s σ H _ I h) fun v s1 ⟨x, H1, I1, r1, q1⟩ => ?_)
  obtain ⟨l, ex, hl, q⟩ := q1
  subst ex
  obtain ⟨t, rfl⟩ := r1
  have hst : PO X (some (.UnaryOp .USub (.Constant (.int 1) k p1) p2)) (tPart (tUn (L2.rU fun i => .int (-i)) (tC (.int 1)))) := po_some (pe_un un_neg pe_int)
  refine wpAny_Slice (thn (po_none.run pins s1 σ H1 (fun o H2 => o = none ∧ H2 = H1) I1 ⟨rfl, rfl⟩) fun vl s2 ⟨lo, H2, I2, pl, el, e2⟩ => ?_)
  subst el e2
  refine thn (po_none.run pins s2 σ H2 (fun o H3 => o = none ∧ H3 = H2) I2 ⟨rfl, rfl⟩) fun vu s3 ⟨u, H3, I3, pu, eu, e3⟩ => ?_
  subst eu e3
  refine thn (hst.run pins s3 σ H3 (fun o H4 => o = some (-1) ∧ H4 = H3) I3 ⟨1, rfl, -1, rfl, rfl, rfl⟩) fun vs s4 ⟨o, H4, I4, ps, eo, e4⟩ => ?_
  subst eo e4
  have I5 : Inv X pins σ H4 { s4 with heap := s4.heap.push { cls := .type "slice", data := .fields #[vl, vu, vs] } } := I4.kept (t' := s4.toks) fun b ob q => Heap.get?_push_of_some _ q
  obtain ⟨ll, rfl, el⟩ := IsPart.raw pl
  obtain ⟨lu, rfl, eu⟩ := IsPart.raw pu
  obtain ⟨lst, rfl, es⟩ := IsPart.raw ps
  show wpAny (model X.prog X.w) X.A (subscriptTail e (.Slice none none (some (.UnaryOp .USub (.Constant (.int 1) k p1) p2)) p3) (.str ⟨l.toArray⟩ t) (.ref s4.heap.objs.size)) (EP X pins σ Q) X.xe { s4 with heap := s4.heap.push { cls := .type "slice", data := .fields #[partValue ll, partValue lu, partValue lst] } }
  refine tail_any (ops := [.str ⟨l.toArray⟩ t, .ref s4.heap.objs.size]) (typeIs_str _ _ _) (PySem.F.slot_str_getitem.lookup) ?_ (by with_unfolding_all rfl)
  refine wpAny_getItem_str_slice (l := ll) (u := lu) (st := lst) ⟨_, Heap.get?_push_size _ rfl, rfl, rfl⟩ (by rw [es]; rfl) ?_
  have e5 : sliceMade ⟨l.toArray⟩ t ll lu lst = Made.str ⟨l.reverse.toArray⟩ := by
    unfold sliceMade slicePicked
    rw [el, eu, es]
    have h1 : ((some (-1 : Int)).getD 1 == 1) = false := rfl
    rw [h1, Bool.false_and, if_neg (by decide)]
    have h2 : (Builtin.Str.strSliceIndices none none ((some (-1 : Int)).getD 1) (⟨l.toArray⟩ : Str).length).filterMap ((⟨l.toArray⟩ : Str).cps[·]?) = l.reverse := rev_list l
    rw [h2]
  rw [e5]
  refine ⟨?_, .str _, H4, I5.tok _, ⟨_, rfl⟩, q⟩
  show l.reverse.toArray.size ≤ 16777216
  rw [List.size_toArray, List.length_reverse]; exact hl
theorem v_revS {σ : L2.St} {H : Hp} {te : TE} {l : List Nat} (ha : Val te σ H (tS l)) (h : l.length ≤ L24) : Val (tRevS te) σ H (tS l.reverse) := fun Q q => ha _ ⟨l, rfl, h, q⟩
/-! ### sorted of tuples of ints -/
def lexL : List Int → List Int → Bool
  | x :: xs, y :: ys => if x = y then lexL xs ys else decide (x < y)
  | _, _ => false
theorem lexL_asym : ∀ (x y : List Int), lexL x y = true → lexL y x = false
  | [], _, h => by cases h
  | _ :: _, [], h => by cases h
  | x :: xs, y :: ys, h => by
    unfold lexL at h ⊢
    by_cases e : x = y
    · rw [if_pos e] at h; rw [if_pos e.symm]; exact lexL_asym xs ys h
    · rw [if_neg e] at h; rw [if_neg (fun z => e z.symm)]
      have := of_decide_eq_true h
      exact decide_eq_false (by omega)
theorem lexL_tr : ∀ (n : Nat) (x y z : List Int), x.length = n → y.length = n → z.length = n → lexL y x = false → lexL z y = false → lexL z x = false
  | 0, x, y, z, hx, _, hz, _, _ => by
    have := List.eq_nil_of_length_eq_zero hz
    subst this; rfl
  | n + 1, x :: xs, y :: ys, z :: zs, hx, hy, hz, h1, h2 => by
    simp at hx hy hz
    unfold lexL at h1 h2 ⊢
    by_cases e1 : y = x
    · rw [if_pos e1] at h1
      subst e1
      by_cases e2 : z = y
      · rw [if_pos e2] at h2 ⊢; exact lexL_tr n xs ys zs hx hy hz h1 h2
      · rw [if_neg e2] at h2 ⊢; exact h2
    · rw [if_neg e1] at h1
      have a := of_decide_eq_false h1
      by_cases e2 : z = y
      · subst e2
        rw [if_neg e1]; exact h1
      · rw [if_neg e2] at h2
        have b := of_decide_eq_false h2
        rw [if_neg (by omega)]
        exact decide_eq_false (by omega)
theorem lexL_eq : ∀ (n : Nat) (x y : List Int), x.length = n → y.length = n → lexL x y = false → lexL y x = false → x = y
  | 0, x, y, hx, hy, _, _ => by rw [List.eq_nil_of_length_eq_zero hx, List.eq_nil_of_length_eq_zero hy]
  | n + 1, x :: xs, y :: ys, hx, hy, h1, h2 => by
    simp at hx hy
    unfold lexL at h1 h2
    by_cases e : x = y
    · rw [if_pos e] at h1; rw [if_pos e.symm] at h2
      rw [e, lexL_eq n xs ys hx hy h1 h2]
    · rw [if_neg e] at h1; rw [if_neg (fun z => e z.symm)] at h2
      have := of_decide_eq_false h1
      have := of_decide_eq_false h2
      omega
/-- a weak order of all lists: by length first -/
def lexW (x y : List Int) : Bool := if x.length = y.length then lexL x y else decide (x.length < y.length)
theorem swo_lexW {α : Type} (k : α → List Int) : SrtO.Swo fun v u => lexW (k v) (k u) := by
  refine ⟨fun x y h => ?_, fun x y z h1 h2 => ?_⟩
  · unfold lexW at h ⊢
    by_cases e : (k x).length = (k y).length
    · rw [if_pos e] at h; rw [if_pos e.symm]; exact lexL_asym _ _ h
    · rw [if_neg e] at h; rw [if_neg (fun z => e z.symm)]
      have := of_decide_eq_true h
      exact decide_eq_false (by omega)
  · unfold lexW at h1 h2 ⊢
    by_cases e1 : (k y).length = (k x).length
    · rw [if_pos e1] at h1
      by_cases e2 : (k z).length = (k y).length
      · rw [if_pos e2] at h2; rw [if_pos (by omega)]
        exact lexL_tr _ _ _ _ rfl e1 (by omega) h1 h2
      · rw [if_neg e2] at h2; rw [if_neg (by omega)]
        have := of_decide_eq_false h2
        exact decide_eq_false (by omega)
    · rw [if_neg e1] at h1
      have a := of_decide_eq_false h1
      by_cases e2 : (k z).length = (k y).length
      · rw [if_neg (by omega)]; exact decide_eq_false (by omega)
      · rw [if_neg e2] at h2
        have b := of_decide_eq_false h2
        rw [if_neg (by omega)]; exact decide_eq_false (by omega)
/-- the items of a tuple of ints -/
inductive Ints : List Int → List Value → Prop
  | nil : Ints [] []
  | cons {n : Int} {t : Tok} {ns : List Int} {vs : List Value} : Ints ns vs → Ints (n :: ns) (.int n t :: vs)
theorem Ints.length : ∀ {ns : List Int} {vs : List Value}, Ints ns vs → ns.length = vs.length
  | _, _, .nil => rfl
  | _, _, .cons h => by rw [List.length_cons, List.length_cons, h.length]
def IsTupI (h : Heap) (v : Value) (ns : List Int) : Prop := ∃ a o its n, v = .ref a ∧ h.get? a = some o ∧ o.cls = .type "tuple" ∧ o.data = .seq its n ∧ Ints ns its.toList
theorem IsTupI.keeps {h h' : Heap} {v : Value} {ns : List Int} (p : IsTupI h v ns) (k : ∀ b o, h.get? b = some o → o.cls = .type "tuple" → h'.get? b = some o) : IsTupI h' v ns := by
  obtain ⟨a, o, its, n, e, ho, hc, hd, hi⟩ := p
  exact ⟨a, o, its, n, e, k _ _ ho hc, hc, hd, hi⟩
section
variable {prog : Program} {w : World} {A : Around} {s : Shared}
theorem kat_ints : ∀ (ns ms : List Int) (vs us : List Value) (i : Nat), Ints ns vs → Ints ms us → ns.length = ms.length →
    PySem.W.KatLex prog w A true (decide (vs.length < us.length)) (fun r s' => s' = s ∧ r = lexL ns ms) (vs.zip us) i s := by
  suffices h : ∀ (ns ms : List Int) (vs us : List Value) (i : Nat) (b : Bool), b = false → Ints ns vs → Ints ms us → ns.length = ms.length → PySem.W.KatLex prog w A true b (fun r s' => s' = s ∧ r = lexL ns ms) (vs.zip us) i s by
    intro ns ms vs us i h1 h2 e
    exact h ns ms vs us i _ (decide_eq_false (by rw [← h1.length, ← h2.length]; omega)) h1 h2 e
  intro ns
  induction ns with
  | nil =>
    intro ms vs us i b hb h1 h2 e
    cases h1
    cases h2 with
    | nil => exact PySem.W.kat_nil ⟨rfl, hb⟩
    | cons _ => cases e
  | cons n ns ih =>
    intro ms vs us i b hb h1 h2 e
    cases h1 with
    | cons h1 =>
      cases h2 with
      | nil => cases e
      | cons h2 =>
        rename_i vs0 t0 m t1 ms us
        refine PySem.W.kat_cons (SeqAt.EqAt.int_int _ _ _ _ prog w _ _ ?_)
        refine PySem.W.kat_go (fun e1 => ?_) (fun e1 => ?_)
        · have ex : n = m := by simpa using e1
          subst ex
          have e2 : lexL (n :: ns) (n :: ms) = lexL ns ms := by
            show (if n = n then _ else _) = _
            rw [if_pos rfl]
          rw [e2]
          exact PySem.W.kat_yes (ih _ _ _ (i + 1) b hb h1 h2 (by simpa using e))
        · have ex : ¬ n = m := by simpa using e1
          have e2 : lexL (n :: ns) (m :: ms) = decide (n < m) := by
            show (if n = m then _ else _) = _
            rw [if_neg ex]
          refine PySem.W.kat_no ?_
          cases hi : (true && i == 0) with
          | true => exact PyProof.Rows.oneLt_int ⟨rfl, e2.symm⟩
          | false => exact PySem.W.kat_one _ _ (PyProof.Rows.lt_int ⟨rfl, e2.symm⟩)
theorem tup_cmp {vs : List Value} {k : Value → List Int} {d : Nat} (hp : ∀ v ∈ vs, IsTupI s.heap v (k v)) (hd : ∀ v ∈ vs, (k v).length = d) : SrtO.Cmp prog w A s (tuples' true) (fun p => p.1 ∈ vs) (SrtO.lt2 fun v u => lexW (k v) (k u)) := by
  intro p q hm hm'
  have h1 := hp _ hm
  have h2 := hp _ hm'
  have l1 := hd _ hm
  have l2 := hd _ hm'
  show wpAny (model prog w) A (keyLt' (tuples' true) p.1 q.1) (fun r s' => s' = s ∧ r = lexW (k p.1) (k q.1)) (fun _ _ => False) s
  unfold lexW
  rw [if_pos (by omega)]
  generalize k p.1 = x at h1 l1 ⊢
  generalize k q.1 = x' at h2 l2 ⊢
  obtain ⟨a, o, its, n, e, ho, hc, hda, hi⟩ := h1
  obtain ⟨a', o', its', n', e', ho', hc', hda', hi'⟩ := h2
  rw [e, e']
  refine PySem.W.kat_lt ho hda ho' hda' ?_
  have := kat_ints (prog := prog) (w := w) (A := A) (s := s) x x' its.toList its'.toList 0 hi hi' (by omega)
  simpa using this
theorem firsts_tup {h : Heap} : ∀ {vs : List Value}, (∀ v ∈ vs, ∃ n ns, IsTupI h v (n :: ns)) → ∃ fs : List Value, PySem.W.KatTups h vs fs ∧ fs.length = vs.length ∧ ∀ f ∈ fs, ∃ x t, f = Value.int x t
  | [], _ => ⟨[], PySem.W.KatTups.nil, rfl, fun _ hm => by simp at hm⟩
  | v :: vs, hp => by
    obtain ⟨fs, h1, h2, h3⟩ := firsts_tup (vs := vs) fun v' hm => hp v' (List.mem_cons_of_mem _ hm)
    obtain ⟨x, y, a, o, its, n, e, ho, hc, hd, hi⟩ := hp v (List.mem_cons_self ..)
    subst e
    obtain ⟨it⟩ := its
    cases hi with
    | cons hi =>
      rename_i t _
      refine ⟨.int x t :: fs, PySem.W.KatTups.cons ho hc hd rfl h1, by rw [List.length_cons, List.length_cons, h2], fun f hm => ?_⟩
      rcases List.mem_cons.mp hm with rfl | hm
      · exact ⟨x, t, rfl⟩
      · exact h3 f hm
theorem tups_sortable {a : Addr} {vs : List Value} {k : Value → List Int} {d : Nat} (h0 : 0 < vs.length) (hp : ∀ v ∈ vs, IsTupI s.heap v (k v)) (hd : ∀ v ∈ vs, (k v).length = d + 1) (ha : ∀ o, s.heap.get? a = some o → o.cls ≠ .type "tuple") : SrtO.SortableO prog w A s a vs fun v u => lexW (k v) (k u) := by
  intro h' keep
  have hp' : ∀ v ∈ vs, IsTupI h' v (k v) := fun v hm => (hp v hm).keeps fun b o e c => keep b o (fun z => by subst z; exact ha o e c) e
  obtain ⟨fs, h1, h2, h3⟩ := firsts_tup fun v hm => by
    have q := hp' v hm
    have l := hd v hm
    generalize k v = x at q l
    cases x with
    | nil => cases l
    | cons n ns => exact ⟨n, ns, q⟩
  refine ⟨tuples' true, fun Q E hq => ?_, tup_cmp hp' hd⟩
  refine PySem.W.kat_kind (T := .type "int") h1 (by omega) (fun f hm => ?_) (by rfl) ?_
  · obtain ⟨x, t, rfl⟩ := h3 f hm
    exact PySem.W.Looks.now
  · have e : (Value.type "int" != Value.type "tuple") = true := by first | decide +kernel | rfl | decide
    rw [e]
    exact hq
theorem sorted_tups {l : Addr} {vs : List Value} {k : Value → List Int} {d : Nat} {Q : Value → Shared → Prop} {E : Value → Shared → Prop} (hl : s.heap.IsList l vs.toArray) (hz : vs.length ≤ sizeLine) (hp : ∀ v ∈ vs, IsTupI s.heap v (k v)) (hd : ∀ v ∈ vs, (k v).length = d + 1)
    (h : ∀ (h' : Heap) (d : Addr) (out : List Value), SrtO.Srtd (fun v u => lexW (k v) (k u)) out → SrtO.Stb (fun v u => lexW (k v) (k u)) out vs → (∀ b o, s.heap.get? b = some o → h'.get? b = some o) → s.heap.objs.size ≤ d → (∃ n, h'.get? d = some (seqObj "list" out.toArray n)) → Q (.ref d) { s with heap := h' }) :
    wpAny (model prog w) A (call (.builtin "sorted") [.ref l]) Q E s := by
  refine SrtO.sorted_ord (swo_lexW k) hl hz (fun h2 h₁ a ha kk => ?_) fun out hs hb => ?_
  · refine tups_sortable (s := { s with heap := h₁ }) (d := d) (by omega) (fun v hm => (hp v hm).keeps fun b o e _ => (kk b o e).2) hd fun o e => ?_
    have e' : some o = some (seqObj "list" vs.toArray 0) := e.symm.trans ha
    cases e'
    intro c
    exact absurd (Value.type.inj c) (by decide)
  · exact h _ _ out hs hb (fun b o e => sortedAll_old e) (Nat.le_succ _) (sortedAll_at s.heap vs out.toArray)
end
/-! ### as a rule -/
/-- the ints of a tuple in H -/
def tupOf (H : Hp) (v : V) : List Int := match v with
  | .ref t => (match H t with
    | some (.tup xs) => xs.filterMap fun x => match x with
      | .int i => some i
      | _ => none
    | _ => [])
  | _ => []
def rSortT (K : PySem.W.Frag) (d : Nat) : List V → Hp → VK → Prop := fun vs H Q => ∃ (a : Addr) (xs : List V), vs = [V.ref a] ∧ SqL K H a xs ∧ (∀ x ∈ xs, ∃ (t : Addr) (ns : List Int), x = V.ref t ∧ H t = some (.tup (ns.map V.int)) ∧ ns.length = d + 1) ∧
  ∀ ys, SrtO.Srtd (fun v u => lexW (tupOf H v) (tupOf H u)) ys → ys.Perm xs → Alloc (.lst ys) Q H
theorem tupOf_ref {H : Hp} {t : Addr} {ns : List Int} (h : H t = some (.tup (ns.map V.int))) : tupOf H (.ref t) = ns := by
  unfold tupOf
  simp only [h]
  rw [List.filterMap_map]
  induction ns with
  | nil => rfl
  | cons n ns ih => simp [Function.comp_def]
theorem ints_of {ns : List Int} : ∀ {vs : List Value}, Vals (ns.map V.int) vs → Ints ns vs := by
  induction ns with
  | nil => intro vs h; cases h; exact .nil
  | cons n ns ih =>
    intro vs h
    cases h with
    | cons h1 h2 =>
      obtain ⟨t, rfl⟩ := h1
      exact .cons (ih h2)
theorem cr_sortT {X : Cx} (d : Nat) : CallR X (.builtin "sorted") (rSortT X.K d) := by
  intro pins s σ H vs us Q I r h
  obtain ⟨a, xs, rfl, hs, hx, q⟩ := h
  obtain ⟨its, rv, hl, hz⟩ := I.list hs
  obtain ⟨u, rfl, ru⟩ := vals1 r
  obtain rfl : u = Value.ref a := ru
  obtain ⟨e1, e2⟩ := refs_back rv fun x m => by
    obtain ⟨t, ns, e, _⟩ := hx x m
    exact ⟨t, e⟩
  refine sorted_tups (k := fun u => tupOf H (backV u)) (d := d) hl.isList (by rw [← rv.length]; exact hz) (fun v hv => ?_) (fun v hv => ?_) fun h' dd out h1 h2 kp hd hn => ?_
  · obtain ⟨t, rfl⟩ := e2 v hv
    have hm : V.ref t ∈ xs := by rw [e1]; exact List.mem_map.mpr ⟨_, hv, rfl⟩
    obtain ⟨t', ns, e, ht, _⟩ := hx _ hm
    cases e
    obtain ⟨_, its2, r2, o, ho, hc, n, hd⟩ := I.hok _ _ ht
    have e3 : tupOf H (backV (Value.ref t)) = ns := tupOf_ref ht
    rw [e3]
    exact ⟨t, o, its2.toArray, n, rfl, ho, hc, hd, by simpa using ints_of r2⟩
  · obtain ⟨t, rfl⟩ := e2 v hv
    have hm : V.ref t ∈ xs := by rw [e1]; exact List.mem_map.mpr ⟨_, hv, rfl⟩
    obtain ⟨t', ns, e, ht, hl2⟩ := hx _ hm
    cases e
    have e3 : tupOf H (backV (Value.ref t)) = ns := tupOf_ref ht
    rw [e3]; exact hl2
  · have h3 : ∀ u ∈ out, ∃ a, u = Value.ref a := fun u hu => e2 u (h2.perm.mem_iff.mp hu)
    obtain ⟨n, hn⟩ := hn
    have hb : (out.map backV).Perm xs := by
      rw [e1]
      exact h2.perm.map backV
    refine ⟨.ref dd, upd H dd (.lst (out.map backV)), I.laid (t' := s.toks) kp hd ⟨?_, out, n, vals_back h3, hn⟩, rfl, q _ (SrtO.srtd_map h1) hb dd (I.hok.fresh hd)⟩
    rw [hb.length_eq]
    exact hz
/-! typed: sorted(xs) of tuples that stand for x with code x -/
def sortT {α : Type} (code : α → List Int) (xs : List α) : List α := xs.mergeSort fun a b => !lexW (code b) (code a)
theorem sortT_perm {α : Type} (code : α → List Int) (xs : List α) : (sortT code xs).Perm xs := List.mergeSort_perm _ _
theorem lexW_tr (x y z : List Int) (h1 : lexW y x = false) (h2 : lexW z y = false) : lexW z x = false := (swo_lexW (α := List Int) id).tr x y z h1 h2
theorem sortT_srt {α : Type} (code : α → List Int) (xs : List α) : (sortT code xs).Pairwise fun a b => lexW (code b) (code a) = false := by
  have h := List.pairwise_mergeSort (le := fun a b => !lexW (code b) (code a)) (fun a b c h1 h2 => by
    simp only [Bool.not_eq_true'] at h1 h2 ⊢
    exact lexW_tr _ _ _ h1 h2) (fun a b => by
    cases h : lexW (code b) (code a) with
    | false => simp
    | true =>
      have z : lexW (code a) (code b) = false := (swo_lexW (α := List Int) id).asym _ _ h
      simp [z]) xs
  refine h.imp fun {a b} h => by simpa using h
theorem srt_uniq {α : Type} {code : α → List Int} {n : Nat} (inj : ∀ a b, code a = code b → a = b) (len : ∀ a, (code a).length = n) : ∀ {l m : List α}, l.Perm m → (l.Pairwise fun a b => lexW (code b) (code a) = false) → (m.Pairwise fun a b => lexW (code b) (code a) = false) → l = m
  | [], m, p, _, _ => (List.Perm.nil_eq p)
  | x :: l, [], p, _, _ => absurd p.length_eq (by simp)
  | x :: l, y :: m, p, h1, h2 => by
    have e : x = y := by
      by_cases e : x = y
      · exact e
      · have hx : x ∈ m := by
          rcases List.mem_cons.mp (p.mem_iff.mp (List.mem_cons_self (a := x) (l := l))) with z | z
          · exact absurd z e
          · exact z
        have hy : y ∈ l := by
          rcases List.mem_cons.mp (p.mem_iff.mpr (List.mem_cons_self (a := y) (l := m))) with z | z
          · exact absurd z.symm e
          · exact z
        have a := (List.pairwise_cons.mp h1).1 y hy
        have b := (List.pairwise_cons.mp h2).1 x hx
        unfold lexW at a b
        rw [if_pos (by rw [len, len])] at a b
        exact inj _ _ (lexL_eq n _ _ (len _) (len _) b a)
    subst e
    rw [srt_uniq inj len (List.perm_cons x |>.mp p) (List.pairwise_cons.mp h1).2 (List.pairwise_cons.mp h2).2]
def codeP (p : Int × Int) : List Int := [p.1, p.2]
def codeT (p : Int × Int × Int) : List Int := [p.1, p.2.1, p.2.2]
/-- a permutation of the values is one of what they stand for -/
theorem all2_perm {α : Type} {r : V → α → Prop} : ∀ {vs ys : List V}, vs.Perm ys → ∀ {xs : List α}, All2 r vs xs → ∃ zs, All2 r ys zs ∧ xs.Perm zs := by
  intro vs ys p
  induction p with
  | nil => intro xs h; cases h; exact ⟨[], .nil, .nil⟩
  | cons x _ ih =>
    intro xs h
    cases h with
    | cons h1 h2 =>
      obtain ⟨zs, h3, h4⟩ := ih h2
      exact ⟨_, .cons h1 h3, h4.cons _⟩
  | swap x y l =>
    intro xs h
    cases h with
    | cons h1 h2 =>
      cases h2 with
      | cons h2 h3 => exact ⟨_, .cons h2 (.cons h1 h3), .swap _ _ _⟩
  | trans _ _ ih1 ih2 =>
    intro xs h
    obtain ⟨zs, h3, h4⟩ := ih1 h
    obtain ⟨ws, h5, h6⟩ := ih2 h3
    exact ⟨ws, h5, h4.trans h6⟩
theorem all2_pw {α : Type} {r : V → α → Prop} {p : V → V → Prop} {q : α → α → Prop} (f : ∀ v w x y, r v x → r w y → p v w → q x y) : ∀ {vs : List V} {xs : List α}, All2 r vs xs → vs.Pairwise p → xs.Pairwise q
  | _, _, .nil, _ => .nil
  | _, _, .cons (a := a) (b := b) (as := as) (bs := bs) h t, hp => by
    rw [List.pairwise_cons] at hp ⊢
    refine ⟨fun y hy => ?_, all2_pw f t hp.2⟩
    obtain ⟨i, hi, e⟩ := List.mem_iff_getElem.mp hy
    obtain ⟨w, h1, h2⟩ := t.at_ (show bs[i]? = some y by rw [List.getElem?_eq_getElem hi, e])
    exact f _ _ _ _ h h2 (hp.1 w (List.mem_of_getElem? h1))
theorem sort_go {K : PySem.W.Frag} {d : Nat} {α : Type} {code : α → List Int} {r : Hp → V → α → Prop} {B H : Hp} {a : Addr} {vs : List V} {xs : List α} {Q : VK} (inj : ∀ a b, code a = code b → a = b) (len : ∀ a, (code a).length = d + 1)
    (un : ∀ v x, r B v x → ∃ t, v = .ref t ∧ B t = some (.tup ((code x).map V.int))) (c : Ex B H) (h : SqL K H a vs) (hA : All2 (r B) vs xs)
    (q : ∀ ys, All2 (r B) ys (sortT code xs) → Alloc (.lst ys) Q H) : RC (rSortT K d) [.ref a] H Q := by
  refine ⟨a, vs, rfl, h, fun x hx => ?_, fun ys hs hp => ?_⟩
  · obtain ⟨i, hi, e⟩ := List.mem_iff_getElem.mp hx
    have hi2 : i < xs.length := by rw [← hA.length]; exact hi
    have hr := hA.get (show vs[i]? = some x by rw [List.getElem?_eq_getElem hi, e]) (List.getElem?_eq_getElem hi2)
    obtain ⟨t, h1, h2⟩ := un _ _ hr
    exact ⟨t, _, h1, c _ _ h2, len _⟩
  · obtain ⟨zs, h1, h2⟩ := all2_perm hp.symm hA
    have h3 : zs.Pairwise fun a b => lexW (code b) (code a) = false := by
      refine all2_pw (p := fun v u => lexW (tupOf H u) (tupOf H v) = false) (fun v w x y hv hw hlt => ?_) h1 hs
      obtain ⟨t, e1, e2⟩ := un _ _ hv
      obtain ⟨t', e3, e4⟩ := un _ _ hw
      rw [e1, e3, tupOf_ref (c _ _ e2), tupOf_ref (c _ _ e4)] at hlt
      exact hlt
    have h4 : zs = sortT code xs := srt_uniq inj len (h2.symm.trans (sortT_perm code xs).symm) h3 (sortT_srt code xs)
    rw [h4] at h1
    exact q ys h1
theorem codeP_inj (a b : Int × Int) (h : codeP a = codeP b) : a = b := by
  obtain ⟨a1, a2⟩ := a
  obtain ⟨b1, b2⟩ := b
  simp [codeP] at h
  rw [h.1, h.2]
theorem codeT_inj (a b : Int × Int × Int) (h : codeT a = codeT b) : a = b := by
  obtain ⟨a1, a2, a3⟩ := a
  obtain ⟨b1, b2, b3⟩ := b
  simp [codeT] at h
  rw [h.1, h.2.1, h.2.2]
theorem sort_P {K : PySem.W.Frag} {B H : Hp} {a : Addr} {vs : List V} {xs : List (Int × Int)} {Q : VK} (c : Ex B H) (h : SqL K H a vs) (hA : All2 (rT2 rI rI B) vs xs) (q : ∀ ys, All2 (rT2 rI rI B) ys (sortT codeP xs) → Alloc (.lst ys) Q H) : RC (rSortT K 1) [.ref a] H Q :=
  sort_go (code := codeP) codeP_inj (fun _ => rfl) (fun v x ⟨t, v1, v2, h1, h2, h3, h4⟩ => ⟨t, h1, by rw [h2, show v1 = .int x.1 from h3, show v2 = .int x.2 from h4]; rfl⟩) c h hA q
theorem sort_T {K : PySem.W.Frag} {B H : Hp} {a : Addr} {vs : List V} {xs : List (Int × Int × Int)} {Q : VK} (c : Ex B H) (h : SqL K H a vs) (hA : All2 (rT3 rI rI rI B) vs xs) (q : ∀ ys, All2 (rT3 rI rI rI B) ys (sortT codeT xs) → Alloc (.lst ys) Q H) : RC (rSortT K 2) [.ref a] H Q :=
  sort_go (code := codeT) codeT_inj (fun _ => rfl) (fun v x ⟨t, v1, v2, v3, h1, h2, h3, h4, h5⟩ => ⟨t, h1, by rw [h2, show v1 = .int x.1 from h3, show v2 = .int x.2.1 from h4, show v3 = .int x.2.2 from h5]; rfl⟩) c h hA q
end Wk
/-! my own: static methods, own __len__, max with a default, enumerate and zip, dicts of texts -/
namespace Wk
open PySem PySem.Spec PyProof.Rows L2 ClX RZ
/-! ### more facts of the text, as one Bool -/
/-- C.m is a static method; its def is g -/
structure SMet (K : PySem.W.Frag) (C : Addr) (m : Str) (p g : Addr) : Prop where
  at_ : PySem.W.findCls K (.ref C) (.type "type") m = some (.get (.builtin "staticmethod.__get__") (.ref p) .none (.ref C))
  rc : ∃ rest, PySem.W.recIn K p "staticmethod" = some (.ref g :: rest)
def smP (K : PySem.W.Frag) (C : Addr) (m : Str) : Addr := match PySem.W.findCls K (.ref C) (.type "type") m with
  | some (.get _ (.ref p) _ _) => p
  | _ => 0
def smG (K : PySem.W.Frag) (C : Addr) (m : Str) : Addr := match PySem.W.recIn K (smP K C m) "staticmethod" with
  | some (.ref g :: _) => g
  | _ => 0
def smB (K : PySem.W.Frag) (C : Addr) (m : Str) : Bool := match PySem.W.findCls K (.ref C) (.type "type") m with
  | some (.get g (.ref p) o (.ref D)) => decide (g = .builtin "staticmethod.__get__") && (decide (o = .none) && (decide (D = C) && (decide (p = smP K C m) && (match PySem.W.recIn K p "staticmethod" with
    | some (.ref g :: _) => decide (g = smG K C m)
    | _ => false))))
  | _ => false
theorem smB_ok {K : PySem.W.Frag} {C : Addr} {m : Str} (h : smB K C m = true) : SMet K C m (smP K C m) (smG K C m) := by
  unfold smB at h
  split at h
  · rename_i g p o D e
    simp only [Bool.and_eq_true, decide_eq_true_eq] at h
    obtain ⟨h1, h2, h3, h4, h5⟩ := h
    subst h1 h2 h3
    rw [h4] at e h5
    refine ⟨e, ?_⟩
    split at h5
    · rename_i g' rest e2
      have := of_decide_eq_true h5
      subst this
      exact ⟨rest, e2⟩
    · cases h5
  · cases h
def crB (K : PySem.W.Frag) (C : Addr) : Bool := PySem.W.readsIn K C (.type "type") && decide (PySem.W.specialIn K (.ref C) "__getattribute__" = some (some (.builtin "type.__getattribute__")))
theorem crB_ok {K : PySem.W.Frag} {C : Addr} (h : crB K C = true) : CRead K C (.type "type") := by
  unfold crB at h
  rw [Bool.and_eq_true, decide_eq_true_eq] at h
  exact ⟨h.1, h.2⟩
def prP (K : PySem.W.Frag) (C : Addr) (f : Str) : Addr := match PySem.W.findIn K (.ref C) f with
  | some (some (.ref p)) => p
  | _ => 0
def prG (K : PySem.W.Frag) (C : Addr) (f : Str) : Addr := match PySem.W.recIn K (prP K C f) "property" with
  | some (.ref g :: _) => g
  | _ => 0
def prB (K : PySem.W.Frag) (C : Addr) (f : Str) : Bool := decide (PySem.W.findIn K (.ref C) f = some (some (.ref (prP K C f)))) && (decide (PySem.W.specialIn K (.ref (prP K C f)) "__get__" = some (some (.builtin "property.__get__"))) &&
  (decide (PySem.W.takesIn K (.ref (prP K C f)) = some true) && (match PySem.W.recIn K (prP K C f) "property" with
    | some (.ref g :: _) => decide (g = prG K C f)
    | _ => false)))
theorem prB_ok {K : PySem.W.Frag} {C : Addr} {f : Str} (h : prB K C f = true) : PropOf K C f (prP K C f) (prG K C f) := by
  unfold prB at h
  simp only [Bool.and_eq_true, decide_eq_true_eq] at h
  obtain ⟨h1, h2, h3, h4⟩ := h
  refine ⟨h1, h2, h3, ?_⟩
  split at h4
  · rename_i g rest e
    have := of_decide_eq_true h4
    subst this
    exact ⟨rest, e⟩
  · cases h4
/-- a def that a static method or a property holds, as it stands in K -/
def fnAtW (K : PySem.W.Frag) (a : Addr) : He.FnW := match K.lookup a with
  | some ⟨_, _, .func fd, _⟩ => some (fd.name, fd.qualname, fd.params, fd.body, fd.scope, fd.globals, fd.closure, fd.builtins)
  | _ => none
def fnAtB (K : PySem.W.Frag) (a : Addr) (q : Str) : Bool := PySem.W.keepIn K (.ref a) && (match K.lookup a with
  | some ⟨_, _, .func fd, _⟩ => PySem.W.codeIn K fd.code q && (He.dflB K fd.defaults [] && He.kwdB K fd.kwdefaults [])
  | _ => false)
theorem funD_at {K : PySem.W.Frag} {a : Addr} {d : He.DefD} (e : fnAtW K a = d.val) (c : fnAtB K a d.qual = true) : ∃ fd, FunD K d.name d.qual d.params d.body d.scope [] [] a fd := by
  obtain ⟨kp, c2⟩ := He.ba c
  unfold fnAtW at e
  cases q : K.lookup a with
  | none =>
    rw [q] at c2
    cases c2
  | some o =>
    obtain ⟨oc, od, dt, osl⟩ := o
    rw [q] at c2 e
    cases dt with
    | func fd =>
      obtain ⟨n1, n2, n3, n4, n5, n6, n7, n8, n9, n10, n11, n12, n13, n14, n15⟩ := fd
      have e2 : (some (n1, n2, n3, n4, n5, n6, n7, n15) : He.FnW) = some (d.name, d.qual, d.params, .stmts d.body, d.scope, mainGlobals, [], builtinsNs) := e
      simp only [Option.some.injEq, Prod.mk.injEq] at e2
      obtain ⟨h1, h2, h3, h4, h5, h6, h7, h8⟩ := e2
      subst h1 h2 h3 h4 h5 h6 h7 h8
      have c3 : (PySem.W.codeIn K n13 d.qual && (He.dflB K n8 [] && He.kwdB K n9 [])) = true := c2
      obtain ⟨k1, k2⟩ := He.ba c3
      obtain ⟨k3, k4⟩ := He.ba k2
      exact ⟨_, ⟨oc, od, n8, n9, n10, n11, n12, n13, n14, osl, rfl, q, k1, He.dflB_ok k3, He.kwdB_ok k4⟩, kp⟩
    | _ => cases c2
/-! ### the Hook: facts, defs, held defs, one more Bool -/
structure Hd where
  at_ : PySem.W.Frag → Addr
  d : He.DefD
abbrev AlM : Type := He.AlD × Bool × List He.FnW
def asM (g : Addr → Option Obj) : Nat → List Addr
  | 0 => [mainGlobals, cStatics]
  | n + 1 => He.growD g (asM g n)
def obsM (fa : List He.Fa) (fn : List He.DefD) (hd : List Hd) (ex : PySem.W.Frag → Bool) (K : PySem.W.Frag) : AlM := (He.obsD fa fn K, ex K && hd.all fun h => fnAtB K (h.at_ K) h.d.qual, hd.map fun h => fnAtW K (h.at_ K))
def valM (fn : List He.DefD) (hd : List Hd) : AlM := (He.valD fn, true, hd.map fun h => h.d.val)
def obsMG (n : Nat) (fa : List He.Fa) (fn : List He.DefD) (hd : List Hd) (ex : PySem.W.Frag → Bool) (g : Addr → Option Obj) : AlM := obsM fa fn hd ex (He.frG g (asM g n))
structure SaysM (fa : List He.Fa) (fn : List He.DefD) (hd : List Hd) (ex : PySem.W.Frag → Bool) (K : PySem.W.Frag) : Prop where
  d : He.SaysD fa fn K
  x : ex K = true
  h : ∀ (i : Nat) (h : Hd), hd[i]? = some h → ∃ fd, FunD K h.d.name h.d.qual h.d.params h.d.body h.d.scope [] [] (h.at_ K) fd
theorem says_of {fa : List He.Fa} {fn : List He.DefD} {hd : List Hd} {ex : PySem.W.Frag → Bool} {K : PySem.W.Frag} (e : obsM fa fn hd ex K = valM fn hd) : SaysM fa fn hd ex K := by
  have e1 : He.obsD fa fn K = He.valD fn := congrArg (fun z : AlM => z.1) e
  have e2 : (ex K && hd.all fun h => fnAtB K (h.at_ K) h.d.qual) = true := congrArg (fun z : AlM => z.2.1) e
  have e3 : (hd.map fun h => fnAtW K (h.at_ K)) = hd.map fun h => h.d.val := congrArg (fun z : AlM => z.2.2) e
  obtain ⟨a, b⟩ := He.ba e2
  refine ⟨e1, a, fun i h hi => ?_⟩
  have e4 : (hd.map fun h => fnAtW K (h.at_ K))[i]? = (hd.map fun h => h.d.val)[i]? := by rw [e3]
  rw [List.getElem?_map, List.getElem?_map, hi] at e4
  exact funD_at (Option.some.inj e4) (List.all_eq_true.mp b h (List.mem_of_getElem? hi))
def hookM (n : Nat) (fa : List He.Fa) (fn : List He.DefD) (hd : List Hd) (ex : PySem.W.Frag → Bool) : PySem.W.Hook where
  α := AlM
  obs := fun s => obsMG n fa fn hd ex s.heap.get?
  val := fun _ => valM fn hd
  says := fun _ h => ∃ K : PySem.W.Frag, K.In h ∧ SaysM fa fn hd ex K
  of := fun _ _ e => ⟨_, He.frG_in, says_of e⟩
  keeps := fun _ _ _ ⟨K, hK, c⟩ k => ⟨K, PySem.W.Frag.In.keeps hK k, c⟩
theorem obsMG_eq {n : Nat} {fa : List He.Fa} {fn : List He.DefD} {hd : List Hd} {ex : PySem.W.Frag → Bool} {g : Addr → Option Obj} {s : Shared} (h : ∀ a, g a = s.heap.get? a) : obsMG n fa fn hd ex g = (hookM n fa fn hd ex).obs s := by
  have e : g = s.heap.get? := funext h
  rw [e] <;> rfl
def TxtM (fa : List He.Fa) (fn : List He.DefD) (hd : List Hd) (ex : PySem.W.Frag → Bool) (K : PySem.W.Frag) (mg : Str → Option Value) : Prop := (∃ h : Heap, K.In h ∧ h.Ns mainGlobals mg) ∧ SaysM fa fn hd ex K
section
variable {fa : List He.Fa} {fn : List He.DefD} {hd : List Hd} {ex : PySem.W.Frag → Bool} {K : PySem.W.Frag} {mg : Str → Option Value}
theorem TxtM.glo (E : TxtM fa fn hd ex K mg) (i : Nat) {x : Str} (h : fa[i]? = some (.glo x) := by rfl) : mg x = some (.ref (He.ga K x)) := by
  obtain ⟨⟨hh, X, G⟩, c⟩ := E
  exact He.glo_ok X G (c.d.fact i h)
theorem TxtM.free (E : TxtM fa fn hd ex K mg) (i : Nat) {x : Str} (h : fa[i]? = some (.free x) := by rfl) : mg x = none := by
  obtain ⟨⟨hh, X, G⟩, c⟩ := E
  exact He.free_ok X G (c.d.fact i h)
theorem TxtM.fact (E : TxtM fa fn hd ex K mg) (i : Nat) {f : He.Fa} (h : fa[i]? = some f := by rfl) : f.ok K = true := E.2.d.fact i h
theorem TxtM.def_ (E : TxtM fa fn hd ex K mg) (i : Nat) {d : He.DefD} (h : fn[i]? = some d := by rfl) : ∃ fd, FunD K d.name d.qual d.params d.body d.scope (d.dvs K) (d.kws K) (He.fAd K d.at_) fd := E.2.d.def_ i (d := d) h
end
/-! ### C.m(..), m a static method -/
section
variable {X : Cx} {CX : CXT} {k : Nat} {C p g : Addr} {sp : Sp} {dvs : List V} {ds : List Value} {fd : FuncData} {ps : List Str} {E : XK} {o e : Expr} {es : List Expr} {m : Str} {pos apos : Pos} {ta : TE} {t : TA} {pl : Sem Bool}
theorem getmethsm_ok {pins : List (Addr × Obj)} {σ : L2.St} {H : Hp} {s : Shared} {A : Around} {E' : Value → Shared → Prop} {Q : Value × List Value → Shared → Prop} (I : Inv X pins σ H s) (r : CRead X.K C (.type "type")) (c : SMet X.K C m p g)
    (h : ∀ s', Inv X pins σ H s' → Q (.ref g, []) s') : wpAny (model X.prog X.w) A (getMethod (.ref C) m pl) Q E' s := by
  obtain ⟨rest, hp⟩ := c.rc
  refine PySem.W.method_cls I.kIn r.ga (PySem.W.cls_bind I.kIn r.rd c.at_ ?_)
  refine wpAny_call (PySem.W.sm_get (s := { s with toks := s.toks + 1 }) I.kIn hp (PySem.W.handed_on rfl ?_))
  exact h _ (I.tok _)
/-- C.m(e, ..): the class's name is a value tC (.ref C) -/
theorem pe_smeth (he : PE X o (tC (.ref C))) (r : CRead X.K C (.type "type")) (c : SMet X.K C m p g) (F : FnOk X.prog X.w X.K X.mg X.base CX k g fd ps sp) (hr : Room k X.A) (hk : PySem.W.keepIn X.K (.ref g) = true) (hb : Binds X.K fd ps ds) (hd : Vals dvs ds) (hx : Passes CX X E) (ha : PA X (e :: es) t)
    (hst : starEach (e :: es) X.env = (false, eval e X.env) :: starEach es X.env := by rfl) (hpl : (backTo pos (starEach es X.env)).any (·.1) = false := by rfl)
    (ht : eval (.Call (.Attribute o m apos) (e :: es) [] pos) X.env = (do
      let ov ← eval o X.env
      standAt apos.atName
      let (f, first) ← holding [ov] (getMethod ov m pl)
      callWith pos f first (backTo pos (starEach (e :: es) X.env)) (backToKw pos (keywordEach [] X.env))) := by rfl) :
    PE X (.Call (.Attribute o m apos) (e :: es) [] pos) (tCall sp dvs E t) := by
  refine ⟨fun pins s σ H Q I h => ?_⟩
  refine PySem.W.methodCall_KW (pl := pl) (thn (he.run pins s σ H (fun x H1 => x = .ref C ∧ H1 = H) I ⟨rfl, rfl⟩) fun u s1 ⟨x, H1, I1, rx, ex, eH⟩ => ?_) ht
  subst ex eH
  obtain rfl : u = Value.ref C := rx
  refine getmethsm_ok I1 r c fun s2 I2 => ?_
  refine PySem.W.callWith_K (h₀ := X.base) I.ok.mod.kin hk (thn (ha.run pos pins s2 σ H1 _ I2 h) fun us s3 ⟨vs, H3, I3, rv, q⟩ => ⟨I3.kIn, ?_⟩) hst hpl
  exact run_fn F hr hb hd hx I3 rv q
/-- len(o) by an own __len__ -/
def rLenO (C : Addr) (sp : Sp) (E : XK) : List V → Hp → VK → Prop := fun xs H Q => ∃ a dx fs, xs = [.ref a] ∧ H a = some (.ins C dx fs) ∧ sp [.ref a] H (fun v H' => ∃ n : Int, v = .int n ∧ 0 ≤ n ∧ n < 2 ^ 63 ∧ Q (.int n) H') E
theorem call_lenO (hL : PySem.W.findIn X.K (.ref C) "__len__" = some (some (.ref g))) (hf : PySem.W.isFn X.K (.ref g) = true) (F : FnOk X.prog X.w X.K X.mg X.base CX k g fd ["self"] sp) (hr : Room (k + 1) X.A) (hb : Binds X.K fd ["self"] []) (hx : Passes CX X E) :
    CallR X (.builtin "len") (rLenO C sp E) := by
  intro pins s σ H xs us Q I r h
  obtain ⟨a, dx, fs, rfl, ea, q⟩ := h
  obtain ⟨u, rfl, ru⟩ := vals1 r
  obtain rfl : u = Value.ref a := ru
  obtain ⟨mA, O, _, _, _, _⟩ := ins_get I.hok ea
  obtain ⟨od, J, _⟩ := O.look
  refine Calls.call_function_entry kind_len plain_len entry_len (args_len1 _) ?_
  unfold Builtin.«len»
  refine wpAny_bind (m := oneArg "len" _) (wpAny_pure ?_)
  refine wpAny_bind (m := callSpecial? (.ref a) (Str.ofString "__len__")) (PySem.W.special_fn I.kIn J hL (beq_iff_eq.mp hf) ?_)
  refine wpAny_call (codeAny_mono (F.run X.A.in1 X.stack s H ⟨[.ref a], []⟩ [.ref a] [.ref a] _ E hr.in1 I.env0.in1 (by simpa using hb s [.ref a] I.kIn rfl) (.cons rfl .nil) q) fun r s' hq => ?_)
  cases r with
  | error e => exact hx pins σ H s e s' I hq
  | ok fl =>
    cases fl with
    | ret u =>
      obtain ⟨v, H', I3, rv, n, rfl, h0, h1, q3⟩ := I.after hq
      obtain ⟨t, rfl⟩ := rv
      refine wpAny_bind (wpAny_holding (wpAny_pure ?_))
      refine wpAny_bind (wpAny_letGo ?_)
      show wpAny _ _ (if n < 0 then _ else _) _ _ _
      rw [if_neg (by omega)]
      show wpAny _ _ (if n ≥ 2 ^ 63 then _ else _) _ _ _
      rw [if_neg (by omega)]
      exact wpAny_bind (wpAny_mkInt (wpAny_pure ⟨_, rfl, V.int n, H', I3.tok _, ⟨_, rfl⟩, q3⟩))
    | next => exact False.elim hq
    | brk => exact False.elim hq
    | cont => exact False.elim hq
end
/-! ### max(tuple of ints, default=d) -/
def maxDef (ns : List Int) (d : Int) : Int := match ns with
  | [] => d
  | n :: ms => ms.foldl max n
def rMaxTD (K : PySem.W.Frag) : List V → List V → Hp → VK → Prop := fun xs zs H Q => ∃ (a : Addr) (ns : List Int) (d : Int), xs = [.ref a] ∧ SqT K H a (ns.map V.int) ∧ zs = [.int d] ∧ Q (.int (maxDef ns d)) H
theorem alike_ints (ns : List Int) : PySem.W.AlikeAll (ns.map PyData.int) := by
  refine ⟨fun x hx y hy => ?_, fun x hx => ?_⟩
  · obtain ⟨i, _, rfl⟩ := List.mem_map.mp hx
    obtain ⟨j, _, rfl⟩ := List.mem_map.mp hy
    rfl
  · obtain ⟨i, _, rfl⟩ := List.mem_map.mp hx
    exact nofun
theorem reads_ints {h : Heap} : ∀ {ns : List Int} {vs : List Value}, Vals (ns.map V.int) vs → ReadsAll h vs (ns.map PyData.int) []
  | [], _, .nil => .nil
  | n :: ns, _, .cons (b := v) h1 h2 => by
    obtain ⟨t, rfl⟩ := h1
    exact .cons (as := []) (bs := []) (.int _ _) (reads_ints h2)
theorem cr_maxTD {X : Cx} (hc : X.calm = true) (hu : X.A.units + 64 < cLine) : CallRK X (.builtin "max") ["default"] (rMaxTD X.K) := by
  intro pins s σ H xs zs us ws Q I rx rz h
  obtain ⟨a, ns, d, rfl, hs, rfl, q⟩ := h
  obtain ⟨its, rv, ht, hz⟩ := I.tuple hs
  obtain ⟨u, rfl, ru⟩ := vals1 rx
  obtain rfl : u = Value.ref a := ru
  obtain ⟨w, rfl, rw'⟩ := vals1 rz
  obtain ⟨t, rfl⟩ := rw'
  have hd0 : PyData.depthAll (ns.map PyData.int) = 0 := depthAll_ints ns
  refine PySem.W.max_tuple_default (I.ok.hd hc) ht (by simpa using reads_ints rv) (alike_ints ns) (by rw [hd0]; omega) (fun e h' tk kp => ?_) fun y ys i v h' tk bs e hv hr kp => ?_
  · have e1 : ns = [] := by simpa using e
    subst e1
    exact ⟨.int d, H, I.kept kp, ⟨_, rfl⟩, q⟩
  · cases ns with
    | nil => cases e
    | cons n ms =>
      obtain ⟨rfl, rfl⟩ := List.cons.inj (show PyData.int n :: ms.map PyData.int = y :: ys from e)
      rw [PySem.W.maxD_ints] at hr
      cases hr
      exact ⟨.int _, H, I.kept kp, ⟨_, rfl⟩, q⟩
/-! ### dicts by ints, by texts -/
def kI (i : Int) : Key := .inl i
def kS (l : List Nat) : Key := .inr ⟨l.toArray⟩
theorem kI_inj {a b : Int} (h : kI a = kI b) : a = b := Sum.inl.inj h
theorem kS_inj {a b : List Nat} (h : kS a = kS b) : a = b := by
  have := Sum.inr.inj h
  exact List.toArray_inj (by injection this)
def dk {κ β : Type} (c : κ → Key) (f : β → V) (m : List (κ × β)) : List (Key × V) := m.map fun q => (c q.1, f q.2)
def dGet {κ β : Type} [DecidableEq κ] (m : List (κ × β)) (k : κ) : Option β := (m.find? fun q => decide (q.1 = k)).map (·.2)
def dHas {κ β : Type} [DecidableEq κ] (m : List (κ × β)) (k : κ) : Bool := (dGet m k).isSome
def dPut {κ β : Type} [DecidableEq κ] (m : List (κ × β)) (k : κ) (v : β) : List (κ × β) :=
  if (m.any fun q => decide (q.1 = k)) = true then m.map (fun q => if q.1 = k then (q.1, v) else q) else m ++ [(k, v)]
theorem dk_get {κ β : Type} [DecidableEq κ] {c : κ → Key} (inj : ∀ a b, c a = c b → a = b) (f : β → V) (k : κ) : ∀ m : List (κ × β), valV (dk c f m) (c k) = (dGet m k).map f
  | [] => rfl
  | q :: m => by
    have ih := dk_get inj f k m
    unfold valV dGet dk at *
    rw [List.map_cons, List.find?_cons, List.find?_cons]
    by_cases h : q.1 = k
    · rw [decide_eq_true (show c q.1 = c k by rw [h]), decide_eq_true h]; rfl
    · rw [decide_eq_false (fun z => h (inj _ _ z)), decide_eq_false h]; exact ih
theorem dk_any {κ β : Type} [DecidableEq κ] {c : κ → Key} (inj : ∀ a b, c a = c b → a = b) (f : β → V) (k : κ) (m : List (κ × β)) : ((dk c f m).any fun kv => decide (kv.1 = c k)) = m.any fun q => decide (q.1 = k) := by
  unfold dk
  rw [List.any_map]
  congr 1
  funext q
  show decide (c q.1 = c k) = decide (q.1 = k)
  exact decide_eq_decide.mpr ⟨fun z => inj _ _ z, fun z => by rw [z]⟩
theorem dk_put {κ β : Type} [DecidableEq κ] {c : κ → Key} (inj : ∀ a b, c a = c b → a = b) (f : β → V) (k : κ) (v : β) (m : List (κ × β)) : putK (dk c f m) (c k) (f v) = dk c f (dPut m k v) := by
  unfold putK dPut
  rw [dk_any inj]
  by_cases h : (m.any fun q => decide (q.1 = k)) = true
  · rw [if_pos h, if_pos h]
    unfold dk
    rw [List.map_map, List.map_map]
    refine List.map_congr_left fun q _ => ?_
    show (if c q.1 = c k then (c q.1, f v) else (c q.1, f q.2)) = _
    by_cases e : q.1 = k
    · rw [if_pos (by rw [e])]
      show _ = (fun q => (c q.1, f q.2)) (if q.1 = k then (q.1, v) else q)
      rw [if_pos e]
    · rw [if_neg (fun z => e (inj _ _ z))]
      show _ = (fun q => (c q.1, f q.2)) (if q.1 = k then (q.1, v) else q)
      rw [if_neg e]
  · rw [if_neg h, if_neg h]
    simp [dk]
/-- a dict at a -/
def rD {κ β : Type} (c : κ → Key) (f : β → V) : Hp → V → List (κ × β) → Prop := fun B v m => ∃ a, v = .ref a ∧ B a = some (.dK (dk c f m))
instance {κ β : Type} {c : κ → Key} {f : β → V} : Mono (rD c f) := ⟨fun e ⟨a, h1, h2⟩ => ⟨a, h1, e _ _ h2⟩⟩
section
variable {M : List Addr} {B0 H0 B H : Hp} {p a C dx : Addr} {o : HO} {σ : L2.St} {Q : VK} {ta tb tc te : TE} {κ β : Type} [DecidableEq κ] {c : κ → Key} {f : β → V} {m : List (κ × β)} {k : κ} {x : β} {K : PySem.W.Frag}
theorem q_dnew (h : Alloc (.dK []) Q H) : tDNewK σ H Q := h
theorem v_dget (inj : ∀ a b, c a = c b → a = b) (ha : Val ta σ H (.ref a)) (hb : Val tb σ H (kV (c k))) (h : H a = some (.dK (dk c f m))) (e : dGet m k = some x) : Val (tDGet ta tb) σ H (f x) := fun Q q =>
  ha _ (hb _ ⟨a, f x, rfl, by have z := DGet.k (k := c k) h; rw [dk_get inj, e] at z; exact z, q⟩)
theorem v_din (inj : ∀ a b, c a = c b → a = b) (hb : Val tb σ H (kV (c k))) (ha : Val ta σ H (.ref a)) (h : H a = some (.dK (dk c f m))) : Val (tDIn tb ta) σ H (.bl (dHas m k)) := fun Q q =>
  hb _ (ha _ ⟨a, (dGet m k).map f, rfl, by have z := DGet.k (k := c k) h; rw [dk_get inj] at z; exact z, by rw [Option.isSome_map]; exact q⟩)
theorem v_dnotin (inj : ∀ a b, c a = c b → a = b) (hb : Val tb σ H (kV (c k))) (ha : Val ta σ H (.ref a)) (h : H a = some (.dK (dk c f m))) : Val (tDNotIn tb ta) σ H (.bl (!dHas m k)) := fun Q q =>
  hb _ (ha _ ⟨a, (dGet m k).map f, rfl, by have z := DGet.k (k := c k) h; rw [dk_get inj] at z; exact z, by rw [Option.isSome_map]; exact q⟩)
theorem v_lenD (h : H a = some (.dK (dk c f m))) : ∀ Q : VK, Q (.int (m.length : Int)) H → (∃ (p : Addr) (kvs : List (Key × V)), [V.ref a] = [.ref p] ∧ H p = some (.dK kvs) ∧ Q (.int kvs.length) H) := fun Q q => ⟨a, _, rfl, h, by unfold dk; rw [List.length_map]; exact q⟩
theorem q_dput {Nx Bk Ct : L2.St → Hp → Prop} {Rt : VK} (h : tc σ H fun v H1 => ta σ H1 fun x H2 => tb σ H2 fun y H3 => ∃ a H4, x = .ref a ∧ DPut H3 a y v H4 ∧ Nx σ H4) : sDPut ta tb tc ⟨Nx, Rt, Bk, Ct⟩ σ H := h
theorem dput_go {R : Hp → Prop} (inj : ∀ a b, c a = c b → a = b) (s : Stp M B0 H0 B H) (z : H0 p = none ∨ p ∈ M) (nb : B p = none) (h : H p = some (.dK (dk c f m))) (hl : m.length < L24)
    (q : ∀ H', Stp M B0 H0 B H' → H' p = some (.dK (dk c f (dPut m k x))) → (∀ q u, q ≠ p → H q = some u → H' q = some u) → R H') : ∃ a H4, V.ref p = .ref a ∧ DPut H a (kV (c k)) (f x) H4 ∧ R H4 := by
  refine ⟨p, _, rfl, DPut.k h (by unfold dk; rw [List.length_map]; exact hl), ?_⟩
  rw [dk_put inj]
  exact q _ (s.mut z nb) upd_same fun _ _ h e => upd_ne' h e
/-! ### own instances -/
theorem q_fld {fl : Str} (h : ta σ H fun x H1 => ∃ a C dx fs v, x = .ref a ∧ H1 a = some (.ins C dx fs) ∧ Cls K C ∧ NoAttr K C fl ∧ fs.lookup fl = some v ∧ Q v H1) : tFld K ta fl σ H Q := h
theorem v_fld {fs : List (Str × V)} {fl : Str} {v : V} (ha : Val ta σ H (.ref a)) (h : H a = some (.ins C dx fs)) (cl : Cls K C) (na : NoAttr K C fl) (l : fs.lookup fl = some v) : Val (tFld K ta fl) σ H v := fun _ q => ha _ ⟨a, C, dx, fs, v, rfl, h, cl, na, l, q⟩
theorem q_setf {fl : Str} {Nx Bk Ct : L2.St → Hp → Prop} {Rt : VK} (h : tb σ H fun y H1 => ta σ H1 fun x H2 => ∃ a C dx fs, x = .ref a ∧ H2 a = some (.ins C dx fs) ∧ Cls K C ∧ NoAttr K C fl ∧ fs.length < 1000 ∧ Nx σ (upd H2 a (.ins C dx (putF fl y fs)))) : sFld K ta tb fl ⟨Nx, Rt, Bk, Ct⟩ σ H := h
theorem setf_go {fl : Str} {R : Hp → Prop} {fs : List (Str × V)} {y : V} (s : Stp M B0 H0 B H) (z : H0 p = none ∨ p ∈ M) (nb : B p = none) (h : H p = some (.ins C dx fs)) (cl : Cls K C) (na : NoAttr K C fl) (hl : fs.length < 1000)
    (q : ∀ H', Stp M B0 H0 B H' → H' p = some (.ins C dx (putF fl y fs)) → (∀ q u, q ≠ p → H q = some u → H' q = some u) → R H') : ∃ a C' dx' fs', V.ref p = .ref a ∧ H a = some (.ins C' dx' fs') ∧ Cls K C' ∧ NoAttr K C' fl ∧ fs'.length < 1000 ∧ R (upd H a (.ins C' dx' (putF fl y fs'))) :=
  ⟨p, C, dx, fs, rfl, h, cl, na, hl, q _ (s.mut z nb) upd_same fun _ _ h e => upd_ne' h e⟩
theorem q_make {tr : TA} {sp : Sp} {dvs : List V} {E : XK} (h : tr σ H fun vs H1 => ∀ x dx, H1 x = none → H1 dx = none → dx ≠ x → sp (.ref x :: (vs ++ dvs)) (upd (upd H1 dx (.own x)) x (.ins C dx [])) (fun v H2 => v = .non ∧ Q (.ref x) H2) E) : tMake C sp dvs E tr σ H Q := h
theorem mk_new {x dx : Addr} (c : Ex B H) (nx : H x = none) (ndx : H dx = none) (ne : dx ≠ x) : ∃ H1, upd (upd H dx (.own x)) x (.ins C dx []) = H1 ∧ Stp [] B H B H1 ∧ H1 x = some (.ins C dx []) ∧ B x = none := by
  have s1 : Stp [] B H B (upd H dx (.own x)) := (Stp.refl c).newO ndx
  have s2 : Stp [] B H B (upd (upd H dx (.own x)) x (.ins C dx [])) := s1.newO (upd_none (Ne.symm ne) nx)
  exact ⟨_, rfl, s2, upd_same, B_none c nx⟩
theorem q_meth {tr : TA} {me : Str} {sp : Sp} {dvs : List V} {E : XK} (h : ta σ H fun x H1 => ∃ a dx fs, x = .ref a ∧ H1 a = some (.ins C dx fs) ∧ fs.lookup me = none ∧ tr σ H1 fun vs H2 => sp (x :: (vs ++ dvs)) H2 Q E) : tMeth C me sp dvs E ta tr σ H Q := h
theorem q_prop {sp : Sp} {dvs : List V} {E : XK} (h : ta σ H fun x H1 => ∃ a dx fs, x = .ref a ∧ H1 a = some (.ins C dx fs) ∧ sp (.ref a :: dvs) H1 Q E) : tProp C sp dvs E ta σ H Q := h
theorem rc_lenO {sp : Sp} {E : XK} {fs : List (Str × V)} (h : H a = some (.ins C dx fs)) (q : sp [.ref a] H (fun v H' => ∃ n : Int, v = .int n ∧ 0 ≤ n ∧ n < 2 ^ 63 ∧ Q (.int n) H') E) : RC (rLenO C sp E) [.ref a] H Q := ⟨a, dx, fs, rfl, h, q⟩
theorem q_ckw {rk : List V → List V → Hp → VK → Prop} {tr tk : TA} (h : tr σ H fun vs H1 => tk σ H1 fun zs H2 => rk vs zs H2 Q) : tCKw rk tr tk σ H Q := h
end
/-- an instance with one field -/
def rO1 {α : Type} (K : PySem.W.Frag) (cls fl : Str) (r : Hp → V → α → Prop) : Hp → V → α → Prop := fun B v x => ∃ a dx w, v = .ref a ∧ B a = some (.ins (He.ga K cls) dx [(fl, w)]) ∧ r B w x
instance {α : Type} {K : PySem.W.Frag} {cls fl : Str} {r : Hp → V → α → Prop} [Mono r] : Mono (rO1 K cls fl r) := ⟨fun e ⟨a, dx, w, h1, h2, h3⟩ => ⟨a, dx, w, h1, e _ _ h2, mono e h3⟩⟩
/-- a def at an address of the text -/
def OkA (P : Program) (w : World) (K : PySem.W.Frag) (mg : Str → Option Value) (base : Heap) (CX : CXT) (k : Nat) (a : Addr) (ps : List Str) (sp : Sp) : Prop :=
  ∃ fd, FnOk P w K mg base CX k a fd ps sp ∧ Binds K fd ps [] ∧ PySem.W.keepIn K (.ref a) = true
/-! ### narrowing -/
def oElim {α β : Type} (m : Option α) (a : β) (f : α → β) : β := match m with
  | none => a
  | some x => f x
theorem oelim_some {α β : Type} {m : Option α} {a : Option β} {f : α → Option β} {r : β} (h : oElim m a f = some r) : (m = none ∧ a = some r) ∨ ∃ y, m = some y ∧ f y = some r := by
  cases m with
  | none => exact .inl ⟨rfl, h⟩
  | some y => exact .inr ⟨y, rfl, h⟩
theorem rQ_some {α : Type} {r : Hp → V → α → Prop} {B : Hp} {v : V} {m : Option α} {y : α} (h : rQ r B v m) (e : m = some y) : r B v y := by
  subst e; exact h.2
theorem rQ_none {α : Type} {r : Hp → V → α → Prop} {B : Hp} {v : V} {m : Option α} (h : rQ r B v m) (e : m = none) : v = .non := by
  subst e; exact h
/-! ### a list of three unlike things -/
def rLT3 {α β γ : Type} (r : Hp → V → α → Prop) (s : Hp → V → β → Prop) (t : Hp → V → γ → Prop) : Hp → V → α × β × γ → Prop := fun B v x => ∃ a w1 w2 w3, v = .ref a ∧ B a = some (.lst [w1, w2, w3]) ∧ r B w1 x.1 ∧ s B w2 x.2.1 ∧ t B w3 x.2.2
instance {α β γ : Type} {r : Hp → V → α → Prop} {s : Hp → V → β → Prop} {t : Hp → V → γ → Prop} [Mono r] [Mono s] [Mono t] : Mono (rLT3 r s t) := ⟨fun e ⟨a, w1, w2, w3, h1, h2, h3, h4, h5⟩ => ⟨a, w1, w2, w3, h1, e _ _ h2, mono e h3, mono e h4, mono e h5⟩⟩
/-- None, or a list of three lists whose first is fresh -/
def rKN {α β γ : Type} (r : Hp → V → α → Prop) (s : Hp → V → β → Prop) (t : Hp → V → γ → Prop) (H B' H' : Hp) (v : V) (m : Option (List α × β × γ)) : Prop := match m with
  | none => v = .non
  | some x => ∃ a p ws w2 w3, v = .ref a ∧ B' a = some (.lst [.ref p, w2, w3]) ∧ H p = none ∧ B' p = none ∧ H' p = some (.lst ws) ∧ All2 (r B') ws x.1 ∧ s B' w2 x.2.1 ∧ t B' w3 x.2.2
theorem rKN_none {α β γ : Type} {r : Hp → V → α → Prop} {s : Hp → V → β → Prop} {t : Hp → V → γ → Prop} {H B' H' : Hp} {v : V} {m : Option (List α × β × γ)} (h : rKN r s t H B' H' v m) (e : m = none) : v = .non := by
  subst e; exact h
theorem rKN_some {α β γ : Type} {r : Hp → V → α → Prop} {s : Hp → V → β → Prop} {t : Hp → V → γ → Prop} {H B' H' : Hp} {v : V} {m : Option (List α × β × γ)} {x : List α × β × γ} (h : rKN r s t H B' H' v m) (e : m = some x) : ∃ a p ws w2 w3, v = .ref a ∧ B' a = some (.lst [.ref p, w2, w3]) ∧ H p = none ∧ B' p = none ∧ H' p = some (.lst ws) ∧ All2 (r B') ws x.1 ∧ s B' w2 x.2.1 ∧ t B' w3 x.2.2 := by
  subst e; exact h
/-! ### zip -/
theorem q_zipA {K : PySem.W.Frag} {ta : TA} {σ : L2.St} {H : Hp} {R : It → Hp → Prop} (h : ta σ H fun vs H1 => ∃ a b xs ys, vs = [.ref a, .ref b] ∧ ((SqL K H1 a xs ∧ SqL K H1 b ys ∧ R (Itz K a b) H1) ∨ (SqT K H1 a xs ∧ SqT K H1 b ys ∧ R (ItzT K a b) H1))) : iZipA K ta σ H R := h
section
variable {K : PySem.W.Frag} {S α β : Type} {a b : Addr} {vs ws : List V} {xs : List α} {ys : List β} {B H : Hp}
theorem zipT_st {Inv : S → L2.St → Hp → Prop} (hl : ∀ s σ H, Inv s σ H → SqT K H a vs ∧ SqT K H b ws) (n : vs.length = xs.length) (m : ws.length = ys.length) : ∀ s σ H, Inv s σ H → (ItzT K a b).stop (xs.zip ys).length H :=
  fun s σ H h => ⟨vs, ws, (hl s σ H h).1, (hl s σ H h).2, by rw [List.length_zip, n, m]; omega⟩
theorem zipT_go {Inv : S → L2.St → Hp → Prop} (hl : ∀ s σ H, Inv s σ H → SqT K H a vs ∧ SqT K H b ws) (n : vs.length = xs.length) (m : ws.length = ys.length) : ∀ i x s σ H, (xs.zip ys)[i]? = some x → Inv s σ H → (ItzT K a b).go i H :=
  fun i x s σ H e h => by
    have hi := (List.getElem?_eq_some_iff.mp e).1
    rw [List.length_zip] at hi
    have h1 : i < vs.length := by omega
    have h2 : i < ws.length := by omega
    exact ⟨vs, ws, vs[i], ws[i], (hl s σ H h).1, (hl s σ H h).2, by simp [h1], by simp [h2]⟩
theorem zipT_yld {v : V} {H' : Hp} {i : Nat} {x : α × β} (h : (ItzT K a b).yld i H v H') (c : Ex B H) (h1 : SqT K H a vs) (h2 : SqT K H b ws) (e : (xs.zip ys)[i]? = some x) :
    ∃ T x1 x2 B', v = .ref T ∧ Stp [] B H B' H' ∧ B' T = some (.tup [x1, x2]) ∧ vs[i]? = some x1 ∧ ws[i]? = some x2 ∧ xs[i]? = some x.1 ∧ ys[i]? = some x.2 := by
  obtain ⟨T, x1, x2, rfl, nT, rfl, f1, f2⟩ := h
  have hz := List.getElem?_zip_eq_some.mp e
  exact ⟨T, x1, x2, upd B T (.tup [x1, x2]), rfl, (Stp.refl c).newB nT, upd_same, f1 _ h1, f2 _ h2, hz.1, hz.2⟩
end
/-! ### the script (locked) -/
def rX (K : PySem.W.Frag) : Hp → V → List Int → Prop := fun B v ns => ∃ a, v = .ref a ∧ SqL K B a (ns.map V.int)
theorem sq_mono {K : PySem.W.Frag} {B B' : Hp} {a : Addr} {xs : List V} (e : Ex B B') (h : SqL K B a xs) : SqL K B' a xs := by
  rcases h with h | h
  · rcases h with h | ⟨o, h⟩
    · exact .inl (.inl (e _ _ h))
    · exact .inl (.inr ⟨o, e _ _ h⟩)
  · exact .inr h
instance {K : PySem.W.Frag} : Mono (rX K) := ⟨fun e ⟨a, h1, h2⟩ => ⟨a, h1, sq_mono e h2⟩⟩
end Wk
/-! the text of the law, by places (printed by my generator) -/
namespace K79
open PySem PySem.Spec PyProof.Rows L2 Wk RZ ClX
def topS (i : Nat) : Stmt := PySem.Challenge.pw_wordruns_k79_whole_led_words_and_runs.main.body.getD i (.Pass ⟨0, 0, 0, 0⟩)
abbrev s_is_letters : Stmt := topS 8
theorem sc_is_letters : FnScope ["text", "most", "letter"] ["text", "most"] (defScope s_is_letters) := ⟨rfl, rfl, rfl, by decide +kernel, rfl, by decide +kernel, by decide +kernel⟩
def d_is_letters : He.DefD := ⟨("is_letters", none), "is_letters", "is_letters", defArgs s_is_letters, defBody s_is_letters, defScope s_is_letters, [], []⟩
abbrev s_is_word : Stmt := topS 9
theorem sc_is_word : FnScope ["text"] ["text"] (defScope s_is_word) := ⟨rfl, rfl, rfl, by decide +kernel, rfl, by decide +kernel, by decide +kernel⟩
def d_is_word : He.DefD := ⟨("is_word", none), "is_word", "is_word", defArgs s_is_word, defBody s_is_word, defScope s_is_word, [], []⟩
abbrev s_check_word : Stmt := topS 10
theorem sc_check_word : FnScope ["word"] ["word"] (defScope s_check_word) := ⟨rfl, rfl, rfl, by decide +kernel, rfl, by decide +kernel, by decide +kernel⟩
def d_check_word : He.DefD := ⟨("check_word", none), "check_word", "check_word", defArgs s_check_word, defBody s_check_word, defScope s_check_word, [], []⟩
abbrev s_check_many : Stmt := topS 12
theorem sc_check_many : FnScope ["things", "most"] ["things", "most"] (defScope s_check_many) := ⟨rfl, rfl, rfl, by decide +kernel, rfl, by decide +kernel, by decide +kernel⟩
def d_check_many : He.DefD := ⟨("check_many", none), "check_many", "check_many", defArgs s_check_many, defBody s_check_many, defScope s_check_many, [], []⟩
abbrev s_longest_stretches : Stmt := topS 14
theorem sc_longest_stretches : FnScope ["word", "period", "found", "start", "place"] ["word", "period"] (defScope s_longest_stretches) := ⟨rfl, rfl, rfl, by decide +kernel, rfl, by decide +kernel, by decide +kernel⟩
def d_longest_stretches : He.DefD := ⟨("_longest_stretches", none), "_longest_stretches", "_longest_stretches", defArgs s_longest_stretches, defBody s_longest_stretches, defScope s_longest_stretches, [], []⟩
abbrev s_is_power : Stmt := topS 15
theorem sc_is_power : FnScope ["text"] ["text"] (defScope s_is_power) := ⟨rfl, rfl, rfl, by decide +kernel, rfl, by decide +kernel, by decide +kernel⟩
def d_is_power : He.DefD := ⟨("_is_power", none), "_is_power", "_is_power", defArgs s_is_power, defBody s_is_power, defScope s_is_power, [], []⟩
abbrev s_border_table : Stmt := topS 24
theorem sc_border_table : FnScope ["word", "table", "border", "place"] ["word"] (defScope s_border_table) := ⟨rfl, rfl, rfl, by decide +kernel, rfl, by decide +kernel, by decide +kernel⟩
def d_border_table : He.DefD := ⟨("border_table", none), "border_table", "border_table", defArgs s_border_table, defBody s_border_table, defScope s_border_table, [], []⟩
abbrev s_prefix_table : Stmt := topS 25
theorem sc_prefix_table : FnScope ["word", "table", "left", "right", "place", "count"] ["word"] (defScope s_prefix_table) := ⟨rfl, rfl, rfl, by decide +kernel, rfl, by decide +kernel, by decide +kernel⟩
def d_prefix_table : He.DefD := ⟨("prefix_table", none), "prefix_table", "prefix_table", defArgs s_prefix_table, defBody s_prefix_table, defScope s_prefix_table, [], []⟩
abbrev s_mirror_table : Stmt := topS 26
theorem sc_mirror_table : FnScope ["word", "table", "center", "left", "right"] ["word"] (defScope s_mirror_table) := ⟨rfl, rfl, rfl, by decide +kernel, rfl, by decide +kernel, by decide +kernel⟩
def d_mirror_table : He.DefD := ⟨("mirror_table", none), "mirror_table", "mirror_table", defArgs s_mirror_table, defBody s_mirror_table, defScope s_mirror_table, [], []⟩
abbrev s_periods : Stmt := topS 27
theorem sc_periods : FnScope ["word", "count"] ["word"] (defScope s_periods) := ⟨rfl, rfl, rfl, by decide +kernel, rfl, by decide +kernel, by decide +kernel⟩
def d_periods : He.DefD := ⟨("periods", none), "periods", "periods", defArgs s_periods, defBody s_periods, defScope s_periods, [], []⟩
abbrev s_is_covering : Stmt := topS 28
theorem sc_is_covering : FnScope ["table", "count", "reach", "place"] ["table", "count"] (defScope s_is_covering) := ⟨rfl, rfl, rfl, by decide +kernel, rfl, by decide +kernel, by decide +kernel⟩
def d_is_covering : He.DefD := ⟨("is_covering", none), "is_covering", "is_covering", defArgs s_is_covering, defBody s_is_covering, defScope s_is_covering, [], []⟩
abbrev s_covers : Stmt := topS 29
theorem sc_covers : FnScope ["word", "table", "count"] ["word"] (defScope s_covers) := ⟨rfl, rfl, rfl, by decide +kernel, rfl, by decide +kernel, by decide +kernel⟩
def d_covers : He.DefD := ⟨("covers", none), "covers", "covers", defArgs s_covers, defBody s_covers, defScope s_covers, [], []⟩
abbrev s_runs_of : Stmt := topS 16
theorem sc_runs_of : FnScope ["word", "found", "period", "start", "end"] ["word"] (defScope s_runs_of) := ⟨rfl, rfl, rfl, by decide +kernel, rfl, by decide +kernel, by decide +kernel⟩
def d_runs_of : He.DefD := ⟨("runs_of", none), "runs_of", "runs_of", defArgs s_runs_of, defBody s_runs_of, defScope s_runs_of, [], []⟩
abbrev s_runs : Stmt := topS 17
theorem sc_runs : FnScope ["word"] ["word"] (defScope s_runs) := ⟨rfl, rfl, rfl, by decide +kernel, rfl, by decide +kernel, by decide +kernel⟩
def d_runs : He.DefD := ⟨("runs", none), "runs", "runs", defArgs s_runs, defBody s_runs, defScope s_runs, [], []⟩
abbrev s_squares : Stmt := topS 22
theorem sc_squares : FnScope ["word", "found", "period", "alike", "place"] ["word"] (defScope s_squares) := ⟨rfl, rfl, rfl, by decide +kernel, rfl, by decide +kernel, by decide +kernel⟩
def d_squares : He.DefD := ⟨("squares", none), "squares", "squares", defArgs s_squares, defBody s_squares, defScope s_squares, [], []⟩
abbrev s_l_draw : Stmt := topS 32
theorem sc_l_draw : FnScope ["stock", "many", "digit"] ["stock", "many"] (defScope s_l_draw) := ⟨rfl, rfl, rfl, by decide +kernel, rfl, by decide +kernel, by decide +kernel⟩
def d_l_draw : He.DefD := ⟨("_law_draw", none), "_law_draw", "_law_draw", defArgs s_l_draw, defBody s_l_draw, defScope s_l_draw, [], []⟩
abbrev s_l_fresh : Stmt := topS 34
theorem sc_l_fresh : FnScope ["stock", "signs", "taken", "at", "k", "sign"] ["stock", "signs", "taken"] (defScope s_l_fresh) := ⟨rfl, rfl, rfl, by decide +kernel, rfl, by decide +kernel, by decide +kernel⟩
def d_l_fresh : He.DefD := ⟨("_law_fresh", none), "_law_fresh", "_law_fresh", defArgs s_l_fresh, defBody s_l_fresh, defScope s_l_fresh, [], []⟩
abbrev s_l_small : Stmt := topS 35
theorem sc_l_small : FnScope [] [] (defScope s_l_small) := ⟨rfl, rfl, rfl, by decide +kernel, rfl, by decide +kernel, by decide +kernel⟩
def d_l_small : He.DefD := ⟨("_law_small", none), "_law_small", "_law_small", defArgs s_l_small, defBody s_l_small, defScope s_l_small, [], []⟩
abbrev s_l_pickS : Stmt := topS 33
theorem sc_l_pickS : FnScope ["stock", "menu"] ["stock", "menu"] (defScope s_l_pickS) := ⟨rfl, rfl, rfl, by decide +kernel, rfl, by decide +kernel, by decide +kernel⟩
def d_l_pickS : He.DefD := ⟨("_law_pick", none), "_law_pick", "_law_pick", defArgs s_l_pickS, defBody s_l_pickS, defScope s_l_pickS, [], []⟩
abbrev s_l_text : Stmt := topS 36
theorem sc_l_text : FnScope ["stock", "size", "letters", "text", "k"] ["stock", "size", "letters"] (defScope s_l_text) := ⟨rfl, rfl, rfl, by decide +kernel, rfl, by decide +kernel, by decide +kernel⟩
def d_l_text : He.DefD := ⟨("_law_text", none), "_law_text", "_law_text", defArgs s_l_text, defBody s_l_text, defScope s_l_text, [], []⟩
abbrev s_l_word : Stmt := topS 37
theorem sc_l_word : FnScope ["stock", "size", "letters", "root", "word", "mode", "half", "at"] ["stock", "size", "letters"] (defScope s_l_word) := ⟨rfl, rfl, rfl, by decide +kernel, rfl, by decide +kernel, by decide +kernel⟩
def d_l_word : He.DefD := ⟨("_law_word", none), "_law_word", "_law_word", defArgs s_l_word, defBody s_l_word, defScope s_l_word, [], []⟩
abbrev s_l_letters : Stmt := topS 38
theorem sc_l_letters : FnScope ["stock", "count", "letters", "k"] ["stock", "count"] (defScope s_l_letters) := ⟨rfl, rfl, rfl, by decide +kernel, rfl, by decide +kernel, by decide +kernel⟩
def d_l_letters : He.DefD := ⟨("_law_letters", none), "_law_letters", "_law_letters", defArgs s_l_letters, defBody s_l_letters, defScope s_l_letters, [], []⟩
abbrev s_l_least_period : Stmt := topS 39
theorem sc_l_least_period : FnScope ["text", "k"] ["text"] (defScope s_l_least_period) := ⟨rfl, rfl, rfl, by decide +kernel, rfl, by decide +kernel, by decide +kernel⟩
def d_l_least_period : He.DefD := ⟨("_law_least_period", none), "_law_least_period", "_law_least_period", defArgs s_l_least_period, defBody s_l_least_period, defScope s_l_least_period, [], []⟩
abbrev s_l_runs : Stmt := topS 40
theorem sc_l_runs : FnScope ["word", "found", "size", "start", "end", "k", "wider"] ["word"] (defScope s_l_runs) := ⟨rfl, rfl, rfl, by decide +kernel, rfl, by decide +kernel, by decide +kernel⟩
def d_l_runs : He.DefD := ⟨("_law_runs", none), "_law_runs", "_law_runs", defArgs s_l_runs, defBody s_l_runs, defScope s_l_runs, [], []⟩
abbrev s_l_squares : Stmt := topS 41
theorem sc_l_squares : FnScope ["word", "found", "start", "text", "k"] ["word"] (defScope s_l_squares) := ⟨rfl, rfl, rfl, by decide +kernel, rfl, by decide +kernel, by decide +kernel⟩
def d_l_squares : He.DefD := ⟨("_law_squares", none), "_law_squares", "_law_squares", defArgs s_l_squares, defBody s_l_squares, defScope s_l_squares, [], []⟩
abbrev s_l_borders : Stmt := topS 42
theorem sc_l_borders : FnScope ["word", "table", "end", "best", "k"] ["word"] (defScope s_l_borders) := ⟨rfl, rfl, rfl, by decide +kernel, rfl, by decide +kernel, by decide +kernel⟩
def d_l_borders : He.DefD := ⟨("_law_borders", none), "_law_borders", "_law_borders", defArgs s_l_borders, defBody s_l_borders, defScope s_l_borders, [], []⟩
abbrev s_l_prefixes : Stmt := topS 43
theorem sc_l_prefixes : FnScope ["word", "table", "start", "best", "k"] ["word"] (defScope s_l_prefixes) := ⟨rfl, rfl, rfl, by decide +kernel, rfl, by decide +kernel, by decide +kernel⟩
def d_l_prefixes : He.DefD := ⟨("_law_prefixes", none), "_law_prefixes", "_law_prefixes", defArgs s_l_prefixes, defBody s_l_prefixes, defScope s_l_prefixes, [], []⟩
abbrev s_l_mirrors : Stmt := topS 44
theorem sc_l_mirrors : FnScope ["word", "table", "c", "best", "k", "text"] ["word"] (defScope s_l_mirrors) := ⟨rfl, rfl, rfl, by decide +kernel, rfl, by decide +kernel, by decide +kernel⟩
def d_l_mirrors : He.DefD := ⟨("_law_mirrors", none), "_law_mirrors", "_law_mirrors", defArgs s_l_mirrors, defBody s_l_mirrors, defScope s_l_mirrors, [], []⟩
abbrev s_l_covers : Stmt := topS 45
theorem sc_l_covers : FnScope ["word", "found", "size", "count", "reach", "k"] ["word"] (defScope s_l_covers) := ⟨rfl, rfl, rfl, by decide +kernel, rfl, by decide +kernel, by decide +kernel⟩
def d_l_covers : He.DefD := ⟨("_law_covers", none), "_law_covers", "_law_covers", defArgs s_l_covers, defBody s_l_covers, defScope s_l_covers, [], []⟩
abbrev s_l_periods : Stmt := topS 46
theorem sc_l_periods : FnScope ["word", "found", "k"] ["word"] (defScope s_l_periods) := ⟨rfl, rfl, rfl, by decide +kernel, rfl, by decide +kernel, by decide +kernel⟩
def d_l_periods : He.DefD := ⟨("_law_periods", none), "_law_periods", "_law_periods", defArgs s_l_periods, defBody s_l_periods, defScope s_l_periods, [], []⟩
abbrev s_l_ints : Stmt := topS 47
theorem sc_l_ints : FnScope ["told", "due", "k"] ["told", "due"] (defScope s_l_ints) := ⟨rfl, rfl, rfl, by decide +kernel, rfl, by decide +kernel, by decide +kernel⟩
def d_l_ints : He.DefD := ⟨("_law_ints", none), "_law_ints", "_law_ints", defArgs s_l_ints, defBody s_l_ints, defScope s_l_ints, [], []⟩
abbrev s_renumbered : Stmt := topS 19
theorem sc_renumbered : FnScope ["labels", "numbers", "label"] ["labels"] (defScope s_renumbered) := ⟨rfl, rfl, rfl, by decide +kernel, rfl, by decide +kernel, by decide +kernel⟩
def d_renumbered : He.DefD := ⟨("renumbered", none), "renumbered", "renumbered", defArgs s_renumbered, defBody s_renumbered, defScope s_renumbered, [], []⟩
abbrev s_Shape___init__ : Stmt := inClass (topS 20) 0
theorem sc_Shape___init__ : FnScope ["self", "labels"] ["self", "labels"] (defScope s_Shape___init__) := ⟨rfl, rfl, rfl, by decide +kernel, rfl, by decide +kernel, by decide +kernel⟩
def d_Shape___init__ : He.DefD := ⟨("Shape", some "__init__"), "__init__", "Shape.__init__", defArgs s_Shape___init__, defBody s_Shape___init__, defScope s_Shape___init__, [], []⟩
abbrev s_Shape_of_word : Stmt := inClass (topS 20) 1
theorem sc_Shape_of_word : FnScope ["word", "letter"] ["word"] (defScope s_Shape_of_word) := ⟨rfl, rfl, rfl, by decide +kernel, rfl, by decide +kernel, by decide +kernel⟩
def d_Shape_of_word : He.DefD := ⟨("Shape", some "of_word"), "of_word", "Shape.of_word", defArgs s_Shape_of_word, defBody s_Shape_of_word, defScope s_Shape_of_word, [], []⟩
abbrev s_Shape_class_total : Stmt := inClass (topS 20) 3
theorem sc_Shape_class_total : FnScope ["self"] ["self"] (defScope s_Shape_class_total) := ⟨rfl, rfl, rfl, by decide +kernel, rfl, by decide +kernel, by decide +kernel⟩
def d_Shape_class_total : He.DefD := ⟨("Shape", some "class_total"), "class_total", "Shape.class_total", defArgs s_Shape_class_total, defBody s_Shape_class_total, defScope s_Shape_class_total, [], []⟩
abbrev s_Shape___len__ : Stmt := inClass (topS 20) 4
theorem sc_Shape___len__ : FnScope ["self"] ["self"] (defScope s_Shape___len__) := ⟨rfl, rfl, rfl, by decide +kernel, rfl, by decide +kernel, by decide +kernel⟩
def d_Shape___len__ : He.DefD := ⟨("Shape", some "__len__"), "__len__", "Shape.__len__", defArgs s_Shape___len__, defBody s_Shape___len__, defScope s_Shape___len__, [], []⟩
abbrev s_Shape_led : Stmt := inClass (topS 20) 12
theorem sc_Shape_led : FnScope ["self", "letters", "number"] ["self", "letters"] (defScope s_Shape_led) := ⟨rfl, rfl, rfl, by decide +kernel, rfl, by decide +kernel, by decide +kernel⟩
def d_Shape_led : He.DefD := ⟨("Shape", some "led"), "led", "Shape.led", defArgs s_Shape_led, defBody s_Shape_led, defScope s_Shape_led, [], []⟩
abbrev s_Shape_map_to : Stmt := inClass (topS 20) 14
theorem sc_Shape_map_to : FnScope ["self", "other", "images", "number", "image"] ["self", "other"] (defScope s_Shape_map_to) := ⟨rfl, rfl, rfl, by decide +kernel, rfl, by decide +kernel, by decide +kernel⟩
def d_Shape_map_to : He.DefD := ⟨("Shape", some "map_to"), "map_to", "Shape.map_to", defArgs s_Shape_map_to, defBody s_Shape_map_to, defScope s_Shape_map_to, [], []⟩
abbrev s_Shape_is_freer : Stmt := inClass (topS 20) 13
theorem sc_Shape_is_freer : FnScope ["self", "other"] ["self", "other"] (defScope s_Shape_is_freer) := ⟨rfl, rfl, rfl, by decide +kernel, rfl, by decide +kernel, by decide +kernel⟩
def d_Shape_is_freer : He.DefD := ⟨("Shape", some "is_freer"), "is_freer", "Shape.is_freer", defArgs s_Shape_is_freer, defBody s_Shape_is_freer, defScope s_Shape_is_freer, [], []⟩
abbrev s_l_rowsT : Stmt := topS 48
theorem sc_l_rowsT : FnScope ["told", "due", "k"] ["told", "due"] (defScope s_l_rowsT) := ⟨rfl, rfl, rfl, by decide +kernel, rfl, by decide +kernel, by decide +kernel⟩
def d_l_rowsT : He.DefD := ⟨("_law_rows", none), "_law_rows", "_law_rows", defArgs s_l_rowsT, defBody s_l_rowsT, defScope s_l_rowsT, [], []⟩
abbrev s_l_known : Stmt := topS 49
theorem sc_l_known : FnScope ["word", "due", "told", "found"] ["word"] (defScope s_l_known) := ⟨rfl, rfl, rfl, by decide +kernel, rfl, by decide +kernel, by decide +kernel⟩
def d_l_known : He.DefD := ⟨("_law_known", none), "_law_known", "_law_known", defArgs s_l_known, defBody s_l_known, defScope s_l_known, [], []⟩
abbrev s_l_within : Stmt := topS 50
theorem sc_l_within : FnScope ["first", "second", "one", "homes", "run"] ["first", "second"] (defScope s_l_within) := ⟨rfl, rfl, rfl, by decide +kernel, rfl, by decide +kernel, by decide +kernel⟩
def d_l_within : He.DefD := ⟨("_law_within", none), "_law_within", "_law_within", defArgs s_l_within, defBody s_l_within, defScope s_l_within, [], []⟩
abbrev s_l_stays : Stmt := topS 51
theorem sc_l_stays : FnScope ["word", "led", "pairs", "told", "one", "k"] ["word", "led"] (defScope s_l_stays) := ⟨rfl, rfl, rfl, by decide +kernel, rfl, by decide +kernel, by decide +kernel⟩
def d_l_stays : He.DefD := ⟨("_law_stays", none), "_law_stays", "_law_stays", defArgs s_l_stays, defBody s_l_stays, defScope s_l_stays, [], []⟩
abbrev s_l_put : Stmt := topS 52
theorem sc_l_put : FnScope ["word", "table", "letter"] ["word", "table"] (defScope s_l_put) := ⟨rfl, rfl, rfl, by decide +kernel, rfl, by decide +kernel, by decide +kernel⟩
def d_l_put : He.DefD := ⟨("_law_put", none), "_law_put", "_law_put", defArgs s_l_put, defBody s_l_put, defScope s_l_put, [], []⟩
abbrev s_l_led : Stmt := topS 53
theorem sc_l_led : FnScope ["word", "table", "kinds", "letter", "letters", "shape", "whole", "seen", "due", "told"] ["word", "table"] (defScope s_l_led) := ⟨rfl, rfl, rfl, by decide +kernel, rfl, by decide +kernel, by decide +kernel⟩
def d_l_led : He.DefD := ⟨("_law_led", none), "_law_led", "_law_led", defArgs s_l_led, defBody s_l_led, defScope s_l_led, [], []⟩
abbrev s_l_right : Stmt := topS 54
theorem sc_l_right : FnScope ["word", "table", "known", "led", "more", "one"] ["word", "table", "known"] (defScope s_l_right) := ⟨rfl, rfl, rfl, by decide +kernel, rfl, by decide +kernel, by decide +kernel⟩
def d_l_right : He.DefD := ⟨("_law_right", none), "_law_right", "_law_right", defArgs s_l_right, defBody s_l_right, defScope s_l_right, [], []⟩
abbrev s_l_pool : Stmt := topS 31
theorem sc_l_pool : FnScope ["script", "stock", "cell", "number", "low", "high", "top"] ["script"] (defScope s_l_pool) := ⟨rfl, rfl, rfl, by decide +kernel, rfl, by decide +kernel, by decide +kernel⟩
def d_l_pool : He.DefD := ⟨("_law_pool", none), "_law_pool", "_law_pool", defArgs s_l_pool, defBody s_l_pool, defScope s_l_pool, [], []⟩
abbrev s_law : Stmt := topS 55
theorem sc_law : FnScope ["script", "stock", "size", "letters", "word", "known", "back", "one", "some", "others", "tables", "k", "table"] ["script"] (defScope s_law) := ⟨rfl, rfl, rfl, by decide +kernel, rfl, by decide +kernel, by decide +kernel⟩
def d_law : He.DefD := ⟨("law", none), "law", "law", defArgs s_law, defBody s_law, defScope s_law, [], []⟩
def fn : List He.DefD := [d_is_letters, d_is_word, d_check_word, d_check_many, d_longest_stretches, d_is_power, d_border_table, d_prefix_table, d_mirror_table, d_periods, d_is_covering, d_covers, d_runs_of, d_runs, d_squares, d_l_draw, d_l_fresh, d_l_small, d_l_pickS, d_l_text, d_l_word, d_l_letters, d_l_least_period, d_l_runs, d_l_squares, d_l_borders, d_l_prefixes, d_l_mirrors, d_l_covers, d_l_periods, d_l_ints, d_renumbered, d_Shape___init__, d_Shape___len__, d_Shape_led, d_Shape_map_to, d_Shape_is_freer, d_l_rowsT, d_l_known, d_l_within, d_l_stays, d_l_put, d_l_led, d_l_right, d_l_pool, d_law]
def fa : List He.Fa := [.glo "is_letters", .glo "is_word", .glo "check_word", .glo "check_many", .glo "_longest_stretches", .glo "_is_power", .glo "border_table", .glo "prefix_table", .glo "mirror_table", .glo "periods", .glo "is_covering", .glo "covers", .glo "runs_of", .glo "runs", .glo "squares", .glo "_law_draw", .glo "_law_fresh", .glo "_law_small", .glo "_law_pick", .glo "_law_text", .glo "_law_word", .glo "_law_letters", .glo "_law_least_period", .glo "_law_runs", .glo "_law_squares", .glo "_law_borders", .glo "_law_prefixes", .glo "_law_mirrors", .glo "_law_covers", .glo "_law_periods", .glo "_law_ints", .glo "renumbered", .glo "_law_rows", .glo "_law_known", .glo "_law_within", .glo "_law_stays", .glo "_law_put", .glo "_law_led", .glo "_law_right", .glo "_law_pool", .glo "law", .free "len", .free "range", .free "min", .free "sorted", .free "int", .free "max", .free "list", .free "isinstance", .free "bool", .free "tuple", .free "ord", .free "zip", .free "abs", .cls "Shape", .noat "Shape" "numbers", .glo "Shape", .mkr "Shape", .meth "Shape" "__len__", .meth "Shape" "map_to", .meth "Shape" "led", .meth "Shape" "is_freer"]
def hd : List Hd := [⟨fun K => (smG K (He.ga K "Shape") "of_word"), d_Shape_of_word⟩, ⟨fun K => (prG K (He.ga K "Shape") "class_total"), d_Shape_class_total⟩]
def exs : List (PySem.W.Frag → Bool) := [fun K => prB K (He.ga K "Shape") "class_total", fun K => crB K (He.ga K "Shape"), fun K => smB K (He.ga K "Shape") "of_word"]
def ex (K : PySem.W.Frag) : Bool := exs.all fun f => f K
abbrev Tx (K : PySem.W.Frag) (mg : Str → Option Value) : Prop := Wk.TxtM fa fn hd ex K mg
theorem exE {K : PySem.W.Frag} {mg : Str → Option Value} (E : Tx K mg) (i : Nat) {f : PySem.W.Frag → Bool} (h : exs[i]? = some f := by rfl) : f K = true := List.all_eq_true.mp E.2.x f (List.mem_of_getElem? h)
end K79
/-! what each def computes (printed by my generator) -/
namespace K79
open PySem L2 Wk
def is_letters_b0  (x1 : Nat)  : Option (Fl Unit Bool) := if ((decide ([x1] < ([97] : List Nat))) || (decide (([122] : List Nat) < [x1]))) = true then (some (.rt false)) else (some (.nx ()))
def m_is_letters (x_text : (List Nat)) (x_most : Int) : Option Bool := (ask (x_text.length ≤ L24)).bind fun _ => if (decide ((x_text.length : Int) > x_most)) = true then (some false) else ((forR (fun x1 s => is_letters_b0  x1 ) x_text ()).bind fun r_1 => r_1.fin (fun s1 => some true) (fun q => some q))
def m_is_word (x_text : (List Nat)) : Option Bool := (m_is_letters x_text (60 : Int)).bind fun r_1 => some r_1
def m_check_word (x_word : (List Nat)) : Option Unit := (m_is_word x_word).bind fun r_1 => if r_1 = true then (some ()) else (none)
def m_check_many (x_things : (List Int)) (x_most : Int) : Option Unit := if (decide ((x_things.length : Int) > x_most)) = true then (none) else (some ())
def longest_stretches_b0 (x_word : (List Nat)) (x_period : Int) (x1 : Int) (c_found1 : (List (Int × Int))) (c_start1 : Int) : Option ((List (Int × Int)) × Int) := (ask (x_word.length ≤ L24)).bind fun _ => (if (decide (x1 < (x_word.length : Int))) = true then (ask (x_word.length ≤ L24)).bind fun _ => (atI x_word x1).bind fun c_1 => (ask (x_word.length ≤ L24)).bind fun _ => (atI x_word (x1 - x_period)).bind fun c_2 => some (decide ([c_1] = [c_2])) else some false).bind fun c_3 => if c_3 = true then (some (c_found1, c_start1)) else (((ask (SMul (2 : Int) x_period)).bind fun _ => if (decide ((x1 - c_start1) ≥ ((2 : Int) * x_period))) = true then ((ask (c_found1.length < L24)).bind fun _ => some (c_found1 ++ [(c_start1, x1)])) else (some c_found1)).bind fun j_1 => some (j_1, ((x1 - x_period) + (1 : Int))))
def m_longest_stretches (x_word : (List Nat)) (x_period : Int) : Option (List (Int × Int)) := (ask (x_word.length ≤ L24)).bind fun _ => (ask (Rng2 x_period ((x_word.length : Int) + (1 : Int)))).bind fun _ => (forN (fun x1 s => longest_stretches_b0 x_word x_period x1 s.1 s.2) (rng x_period ((x_word.length : Int) + (1 : Int))) (([] : (List (Int × Int))), (0 : Int))).bind fun r_1 => some r_1.1
def m_is_power (x_text : (List Nat)) : Option Bool := (ask (x_text.length + x_text.length ≤ L24)).bind fun _ => (ask (x_text.length ≤ L24)).bind fun _ => some (decide ((findT (x_text ++ x_text) x_text (1 : Int)) < (x_text.length : Int)))
def border_table_c1 (x_word : (List Nat)) (x1 : Int) (c_border2 : Int) : Option Bool := (if (decide (c_border2 > (0 : Int))) = true then (ask (x_word.length ≤ L24)).bind fun _ => (atI x_word c_border2).bind fun c_1 => (ask (x_word.length ≤ L24)).bind fun _ => (atI x_word x1).bind fun c_2 => some (decide ([c_1] ≠ [c_2])) else some false).bind fun c_3 => some c_3
def border_table_b1 (c_table1 : (List Int)) (c_border2 : Int) : Option Int := (atI c_table1 (c_border2 - (1 : Int))).bind fun x_1 => some x_1
def border_table_b0 (x_word : (List Nat)) (x1 : Int) (c_table1 : (List Int)) (c_border1 : Int) : Option ((List Int) × Int) := (whileN (fun s => border_table_c1 x_word x1 s) (fun s => border_table_b1 c_table1 s) (1000) c_border1).bind fun r_3 => ((if (decide (r_3 < x1)) = true then (ask (x_word.length ≤ L24)).bind fun _ => (atI x_word r_3).bind fun c_4 => (ask (x_word.length ≤ L24)).bind fun _ => (atI x_word x1).bind fun c_5 => some (decide ([c_4] = [c_5])) else some false).bind fun c_6 => if c_6 = true then (some (r_3 + (1 : Int))) else (some r_3)).bind fun j_1 => (ask (c_table1.length < L24)).bind fun _ => some ((c_table1 ++ [j_1]), j_1)
def m_border_table (x_word : (List Nat)) : Option (List Int) := (m_check_word x_word).bind fun r_1 => (ask (x_word.length ≤ L24)).bind fun _ => (ask (Rng1 (x_word.length : Int))).bind fun _ => (forN (fun x1 s => border_table_b0 x_word x1 s.1 s.2) (rng 0 (x_word.length : Int)) (([] : (List Int)), (0 : Int))).bind fun r_2 => some r_2.1
def prefix_table_c1 (x_word : (List Nat)) (x1 : Int) (c_count1 : Int) : Option Bool := (ask (x_word.length ≤ L24)).bind fun _ => (if (decide ((x1 + c_count1) < (x_word.length : Int))) = true then (ask (x_word.length ≤ L24)).bind fun _ => (atI x_word c_count1).bind fun c_1 => (ask (x_word.length ≤ L24)).bind fun _ => (atI x_word (x1 + c_count1)).bind fun c_2 => some (decide ([c_1] = [c_2])) else some false).bind fun c_3 => some c_3
def prefix_table_b1  (c_count1 : Int) : Option Int := some (c_count1 + (1 : Int))
def prefix_table_b0 (x_word : (List Nat)) (x1 : Int) (c_table1 : (List Int)) (c_left1 : Int) (c_right1 : Int) : Option ((List Int) × Int × Int) := (if (decide (x1 = (0 : Int))) = true then ((ask (x_word.length ≤ L24)).bind fun _ => some (x_word.length : Int)) else (if (decide (x1 < c_right1)) = true then ((atI c_table1 (x1 - c_left1)).bind fun x_1 => some (minI (c_right1 - x1) x_1)) else (some (0 : Int)))).bind fun j_1 => (whileN (fun s => prefix_table_c1 x_word x1 s) (fun s => prefix_table_b1  s) (1000) j_1).bind fun r_3 => (if ((decide (x1 > (0 : Int))) && (decide ((x1 + r_3) > c_right1))) = true then (some (x1, (x1 + r_3))) else (some (c_left1, c_right1))).bind fun j_2 => (ask (c_table1.length < L24)).bind fun _ => some ((c_table1 ++ [r_3]), j_2.1, j_2.2)
def m_prefix_table (x_word : (List Nat)) : Option (List Int) := (m_check_word x_word).bind fun r_1 => (ask (x_word.length ≤ L24)).bind fun _ => (ask (Rng1 (x_word.length : Int))).bind fun _ => (forN (fun x1 s => prefix_table_b0 x_word x1 s.1 s.2.1 s.2.2) (rng 0 (x_word.length : Int)) (([] : (List Int)), (0 : Int), (0 : Int))).bind fun r_2 => some r_2.1
def mirror_table_c1 (x_word : (List Nat)) (c_left1 : Int) (c_right1 : Int) : Option Bool := (if (decide (c_left1 ≥ (0 : Int))) = true then (ask (x_word.length ≤ L24)).bind fun _ => (if (decide (c_right1 < (x_word.length : Int))) = true then (ask (x_word.length ≤ L24)).bind fun _ => (atI x_word c_left1).bind fun c_1 => (ask (x_word.length ≤ L24)).bind fun _ => (atI x_word c_right1).bind fun c_2 => some (decide ([c_1] = [c_2])) else some false).bind fun c_3 => some c_3 else some false).bind fun c_4 => some c_4
def mirror_table_b1  (c_left1 : Int) (c_right1 : Int) : Option (Int × Int) := some ((c_left1 - (1 : Int)), (c_right1 + (1 : Int)))
def mirror_table_b0 (x_word : (List Nat)) (x1 : Int) (c_table1 : (List Int)) : Option (List Int) := (ask (SDiv x1 (2 : Int))).bind fun _ => (whileN (fun s => mirror_table_c1 x_word s.1 s.2) (fun s => mirror_table_b1  s.1 s.2) (1000) ((x1 / (2 : Int)), (x1 - (x1 / (2 : Int))))).bind fun r_3 => (ask (c_table1.length < L24)).bind fun _ => some (c_table1 ++ [((r_3.2 - r_3.1) - (1 : Int))])
def m_mirror_table (x_word : (List Nat)) : Option (List Int) := (m_check_word x_word).bind fun r_1 => (ask (x_word.length ≤ L24)).bind fun _ => (ask (SMul (2 : Int) (x_word.length : Int))).bind fun _ => (ask (Rng1 (((2 : Int) * (x_word.length : Int)) - (1 : Int)))).bind fun _ => (forN (fun x1 s => mirror_table_b0 x_word x1 s) (rng 0 (((2 : Int) * (x_word.length : Int)) - (1 : Int))) ([] : (List Int))).bind fun r_2 => some r_2
def m_periods (x_word : (List Nat)) : Option (List Int) := (m_check_word x_word).bind fun r_1 => (ask (x_word.length ≤ L24)).bind fun _ => (ask (Rng2 (1 : Int) (x_word.length : Int))).bind fun _ => (ask ((rng (1 : Int) (x_word.length : Int)).length ≤ L24)).bind fun _ => (filO (fun (x1 : Int) => (ask (x_word.length ≤ L24)).bind fun _ => (ask (x_word.length ≤ L24)).bind fun _ => (ask (x_word.length ≤ L24)).bind fun _ => if (decide ((cutT x_word (some x1) none) = (cutT x_word none (some ((x_word.length : Int) - x1))))) = true then (some true) else (some false)) (fun (x1 : Int) => some x1) (rng (1 : Int) (x_word.length : Int))).bind fun ys1 => some ys1
def is_covering_b0 (x_table : (List Int)) (x_count : Int) (x1 : Int) (c_reach1 : Int) : Option (Fl Int Bool) := if (decide (x1 > c_reach1)) = true then (some (.rt false)) else ((atI x_table x1).bind fun x_1 => if (decide (x_1 ≥ x_count)) = true then (some (.nx (x1 + x_count))) else (some (.nx c_reach1)))
def m_is_covering (x_table : (List Int)) (x_count : Int) : Option Bool := (ask (Rng1 (x_table.length : Int))).bind fun _ => (forR (fun x1 s => is_covering_b0 x_table x_count x1 s) (rng 0 (x_table.length : Int)) (0 : Int)).bind fun r_1 => r_1.fin (fun s1 => some (decide (s1 = (x_table.length : Int)))) (fun q => some q)
def m_covers (x_word : (List Nat)) : Option (List Int) := (m_prefix_table x_word).bind fun r_1 => (ask (x_word.length ≤ L24)).bind fun _ => (ask (Rng2 (1 : Int) ((x_word.length : Int) + (1 : Int)))).bind fun _ => (ask ((rng (1 : Int) ((x_word.length : Int) + (1 : Int))).length ≤ L24)).bind fun _ => (filO (fun (x1 : Int) => (m_is_covering r_1 x1).bind fun r_2 => if r_2 = true then (some true) else (some false)) (fun (x1 : Int) => some x1) (rng (1 : Int) ((x_word.length : Int) + (1 : Int)))).bind fun ys1 => some ys1
def runs_of_b1 (x_word : (List Nat)) (x1 : Int) (x2 : (Int × Int)) (c_found2 : (List (Int × Int × Int))) : Option (List (Int × Int × Int)) := (ask (x_word.length ≤ L24)).bind fun _ => (m_is_power (cutT x_word (some x2.1) (some (x2.1 + x1)))).bind fun r_4 => if r_4 = true then (some c_found2) else ((ask (c_found2.length < L24)).bind fun _ => some (c_found2 ++ [(x2.1, x2.2, x1)]))
def runs_of_b0 (x_word : (List Nat)) (x1 : Int) (c_found1 : (List (Int × Int × Int))) : Option (List (Int × Int × Int)) := (m_longest_stretches x_word x1).bind fun r_2 => (forN (fun x2 s => runs_of_b1 x_word x1 x2 s) r_2 c_found1).bind fun r_3 => some r_3
def m_runs_of (x_word : (List Nat)) : Option (List (Int × Int × Int)) := (ask (x_word.length ≤ L24)).bind fun _ => (ask (SDiv (x_word.length : Int) (2 : Int))).bind fun _ => (ask (Rng2 (1 : Int) (((x_word.length : Int) / (2 : Int)) + (1 : Int)))).bind fun _ => (forN (fun x1 s => runs_of_b0 x_word x1 s) (rng (1 : Int) (((x_word.length : Int) / (2 : Int)) + (1 : Int))) ([] : (List (Int × Int × Int)))).bind fun r_1 => some (sortT codeT r_1)
def m_runs (x_word : (List Nat)) : Option (List (Int × Int × Int)) := (m_check_word x_word).bind fun r_1 => (m_runs_of x_word).bind fun r_2 => some r_2
def squares_b1 (x_word : (List Nat)) (x1 : Int) (x2 : Int) (c_found2 : (List (Int × Int))) (c_alike1 : Int) : Option ((List (Int × Int)) × Int) := ((ask (x_word.length ≤ L24)).bind fun _ => (atI x_word x2).bind fun c_1 => (ask (x_word.length ≤ L24)).bind fun _ => (atI x_word (x2 + x1)).bind fun c_2 => if (decide ([c_1] = [c_2])) = true then (some (c_alike1 + (1 : Int))) else (some (0 : Int))).bind fun j_1 => if (decide (j_1 ≥ x1)) = true then ((ask (c_found2.length < L24)).bind fun _ => some ((c_found2 ++ [(((x2 + (1 : Int)) - x1), x1)]), j_1)) else (some (c_found2, j_1))
def squares_b0 (x_word : (List Nat)) (x1 : Int) (c_found1 : (List (Int × Int))) : Option (List (Int × Int)) := (ask (x_word.length ≤ L24)).bind fun _ => (ask (Rng1 ((x_word.length : Int) - x1))).bind fun _ => (forN (fun x2 s => squares_b1 x_word x1 x2 s.1 s.2) (rng 0 ((x_word.length : Int) - x1)) (c_found1, (0 : Int))).bind fun r_3 => some r_3.1
def m_squares (x_word : (List Nat)) : Option (List (Int × Int)) := (m_check_word x_word).bind fun r_1 => (ask (x_word.length ≤ L24)).bind fun _ => (ask (SDiv (x_word.length : Int) (2 : Int))).bind fun _ => (ask (Rng2 (1 : Int) (((x_word.length : Int) / (2 : Int)) + (1 : Int)))).bind fun _ => (forN (fun x1 s => squares_b0 x_word x1 s) (rng (1 : Int) (((x_word.length : Int) / (2 : Int)) + (1 : Int))) ([] : (List (Int × Int)))).bind fun r_2 => some (sortT codeP r_2)
def l_draw_c0  (c_stock1 : (List Int)) : Option Bool := if (decide (c_stock1 ≠ ([] : (List Int)))) = true then ((atI c_stock1 (0 : Int)).bind fun x_1 => if (decide (x_1 = (0 : Int))) = true then (some true) else (some false)) else (some false)
def l_draw_b0  (c_stock1 : (List Int)) : Option (List Int) := (popO c_stock1 (0 : Int)).bind fun z1 => some z1.2
def m_l_draw (x_stock : (List Int)) (x_many : Int) : Option (Int × (List Int)) := (whileN (fun s => l_draw_c0  s) (fun s => l_draw_b0  s) (1000) x_stock).bind fun r_1 => if (decide (r_1 = ([] : (List Int)))) = true then (some ((0 : Int), r_1)) else ((atI r_1 (0 : Int)).bind fun x_3 => (ask (0 < x_many)).bind fun _ => (atI r_1 (0 : Int)).bind fun x_4 => (ask (SDiv x_4 x_many)).bind fun _ => (setO r_1 (0 : Int) (x_4 / x_many)).bind fun z2 => some ((x_3 % x_many), z2))
def l_fresh_b0 (x_signs : (List Nat)) (r_1 : (Int × (List Int))) (x_taken : (List (List Nat))) (x1 : Int)  : Option (Fl Unit ((List Nat) × (List Int))) := (ask (x_signs.length ≤ L24)).bind fun _ => (ask (0 < (x_signs.length : Int))).bind fun _ => (ask (x_signs.length ≤ L24)).bind fun _ => (atI x_signs ((r_1.1 + x1) % (x_signs.length : Int))).bind fun c_1 => if (!x_taken.contains [c_1]) = true then (some (.rt ([c_1], r_1.2))) else (some (.nx ()))
def m_l_fresh (x_stock : (List Int)) (x_signs : (List Nat)) (x_taken : (List (List Nat))) : Option ((List Nat) × (List Int)) := (ask (x_signs.length ≤ L24)).bind fun _ => (m_l_draw x_stock (x_signs.length : Int)).bind fun r_1 => (ask (x_signs.length ≤ L24)).bind fun _ => (ask (Rng1 (x_signs.length : Int))).bind fun _ => (forR (fun x1 s => l_fresh_b0 x_signs r_1 x_taken x1 ) (rng 0 (x_signs.length : Int)) ()).bind fun r_2 => r_2.fin (fun s3 => (ask (x_signs.length ≤ L24)).bind fun _ => (atI x_signs (0 : Int)).bind fun c_2 => some ([c_2], r_1.2)) (fun q => some q)
def m_l_small  : Option (List Nat) := some ([97, 98, 99, 100, 101, 102, 103, 104, 105, 106, 107, 108, 109, 110, 111, 112, 113, 114, 115, 116, 117, 118, 119, 120, 121, 122] : List Nat)
def m_l_pickS (x_stock : (List Int)) (x_menu : (List (List Nat))) : Option ((List Nat) × (List Int)) := (m_l_draw x_stock (x_menu.length : Int)).bind fun r_1 => (atI x_menu r_1.1).bind fun x_1 => some (x_1, r_1.2)
def m_l_pickI (x_stock : (List Int)) (x_menu : (List Int)) : Option (Int × (List Int)) := (m_l_draw x_stock (x_menu.length : Int)).bind fun r_1 => (atI x_menu r_1.1).bind fun x_1 => some (x_1, r_1.2)
def l_text_b0 (x_letters : (List (List Nat))) (x1 : Int) (c_stock1 : (List Int)) (c_text1 : (List Nat)) : Option ((List Int) × (List Nat)) := (m_l_pickS c_stock1 x_letters).bind fun r_2 => (ask (c_text1.length + r_2.1.length ≤ L24)).bind fun _ => some (r_2.2, (c_text1 ++ r_2.1))
def m_l_text (x_stock : (List Int)) (x_size : Int) (x_letters : (List (List Nat))) : Option ((List Nat) × (List Int)) := (ask (Rng1 x_size)).bind fun _ => (forN (fun x1 s => l_text_b0 x_letters x1 s.1 s.2) (rng 0 x_size) (x_stock, ([] : List Nat))).bind fun r_1 => some (r_1.2, r_1.1)
def m_l_word (x_stock : (List Int)) (x_size : Int) (x_letters : (List (List Nat))) : Option ((List Nat) × (List Int)) := (m_l_draw x_stock (5 : Int)).bind fun r_1 => (ask (0 < (5 : Int))).bind fun _ => (m_l_text r_1.2 ((1 : Int) + (((2 : Int) + r_1.1) % (5 : Int))) x_letters).bind fun r_2 => (ask (SRep r_2.1 x_size)).bind fun _ => (ask ((repS r_2.1 x_size).length ≤ L24)).bind fun _ => (m_l_draw r_2.2 (5 : Int)).bind fun r_3 => if (decide (r_3.1 = (1 : Int))) = true then ((m_l_text r_3.2 x_size x_letters).bind fun r_4 => some (r_4.1, r_4.2)) else (if (decide (r_3.1 = (2 : Int))) = true then ((ask (SDiv (x_size + (1 : Int)) (2 : Int))).bind fun _ => (m_l_text r_3.2 ((x_size + (1 : Int)) / (2 : Int)) x_letters).bind fun r_5 => (ask (r_5.1.length ≤ L24)).bind fun _ => (ask (SDiv x_size (2 : Int))).bind fun _ => (ask ((cutT r_5.1 none (some (x_size / (2 : Int)))).length ≤ L24)).bind fun _ => (ask (r_5.1.length + (cutT r_5.1 none (some (x_size / (2 : Int)))).reverse.length ≤ L24)).bind fun _ => some ((r_5.1 ++ (cutT r_5.1 none (some (x_size / (2 : Int)))).reverse), r_5.2)) else (if ((decide (r_3.1 = (3 : Int))) && (decide (x_size > (0 : Int)))) = true then ((m_l_draw r_3.2 x_size).bind fun r_6 => (ask ((cutT (repS r_2.1 x_size) none (some x_size)).length ≤ L24)).bind fun _ => (m_l_pickS r_6.2 x_letters).bind fun r_7 => (ask ((cutT (cutT (repS r_2.1 x_size) none (some x_size)) none (some r_6.1)).length + r_7.1.length ≤ L24)).bind fun _ => (ask ((cutT (repS r_2.1 x_size) none (some x_size)).length ≤ L24)).bind fun _ => (ask (((cutT (cutT (repS r_2.1 x_size) none (some x_size)) none (some r_6.1)) ++ r_7.1).length + (cutT (cutT (repS r_2.1 x_size) none (some x_size)) (some (r_6.1 + (1 : Int))) none).length ≤ L24)).bind fun _ => some ((((cutT (cutT (repS r_2.1 x_size) none (some x_size)) none (some r_6.1)) ++ r_7.1) ++ (cutT (cutT (repS r_2.1 x_size) none (some x_size)) (some (r_6.1 + (1 : Int))) none)), r_7.2)) else (if (decide (r_3.1 = (4 : Int))) = true then ((m_l_draw r_3.2 (x_size + (1 : Int))).bind fun r_8 => (ask ((cutT (repS r_2.1 x_size) none (some x_size)).length ≤ L24)).bind fun _ => (m_l_text r_8.2 (x_size - r_8.1) x_letters).bind fun r_9 => (ask ((cutT (cutT (repS r_2.1 x_size) none (some x_size)) none (some r_8.1)).length + r_9.1.length ≤ L24)).bind fun _ => some (((cutT (cutT (repS r_2.1 x_size) none (some x_size)) none (some r_8.1)) ++ r_9.1), r_9.2)) else (some ((cutT (repS r_2.1 x_size) none (some x_size)), r_3.2)))))
def l_letters_b0  (x1 : Int) (c_stock1 : (List Int)) (c_letters1 : (List (List Nat))) : Option ((List Int) × (List (List Nat))) := (m_l_small ).bind fun r_2 => (m_l_fresh c_stock1 r_2 c_letters1).bind fun r_3 => (ask (c_letters1.length < L24)).bind fun _ => some (r_3.2, (c_letters1 ++ [r_3.1]))
def m_l_letters (x_stock : (List Int)) (x_count : Int) : Option ((List (List Nat)) × (List Int)) := (ask (Rng1 x_count)).bind fun _ => (forN (fun x1 s => l_letters_b0  x1 s.1 s.2) (rng 0 x_count) (x_stock, ([] : (List (List Nat))))).bind fun r_1 => some (r_1.2, r_1.1)
def l_least_period_b0 (x_text : (List Nat)) (x1 : Int)  : Option (Fl Unit Int) := (ask (x_text.length ≤ L24)).bind fun _ => if (prefB (cutT x_text (some x1) none) x_text) = true then (some (.rt x1)) else (some (.nx ()))
def m_l_least_period (x_text : (List Nat)) : Option Int := (ask (x_text.length ≤ L24)).bind fun _ => (ask (Rng2 (1 : Int) (x_text.length : Int))).bind fun _ => (forR (fun x1 s => l_least_period_b0 x_text x1 ) (rng (1 : Int) (x_text.length : Int)) ()).bind fun r_1 => r_1.fin (fun s1 => (ask (x_text.length ≤ L24)).bind fun _ => some (x_text.length : Int)) (fun q => some q)
def l_runs_b1 (x_word : (List Nat)) (x1 : Int) (x2 : Int) (c_found2 : (List (Int × Int × Int))) : Option (List (Int × Int × Int)) := (ask (x_word.length ≤ L24)).bind fun _ => (m_l_least_period (cutT x_word (some x1) (some x2))).bind fun r_3 => (ask (SMul (2 : Int) r_3)).bind fun _ => if (decide (((2 : Int) * r_3) ≤ (x2 - x1))) = true then ((if (decide (x2 < (x_word.length : Int))) = true then (ask (x_word.length ≤ L24)).bind fun _ => (atI x_word x2).bind fun c_1 => (ask (x_word.length ≤ L24)).bind fun _ => (atI x_word (x2 - r_3)).bind fun c_2 => some (decide ([c_1] = [c_2])) else some false).bind fun c_3 => ((if (decide (x1 > (0 : Int))) = true then (ask (x_word.length ≤ L24)).bind fun _ => (atI x_word (x1 - (1 : Int))).bind fun c_4 => (ask (x_word.length ≤ L24)).bind fun _ => (atI x_word ((x1 - (1 : Int)) + r_3)).bind fun c_5 => some (decide ([c_4] = [c_5])) else some false).bind fun c_6 => if c_6 = true then (some true) else (some c_3)).bind fun j_1 => if (!j_1) = true then ((ask (c_found2.length < L24)).bind fun _ => some (c_found2 ++ [(x1, x2, r_3)])) else (some c_found2)) else (some c_found2)
def l_runs_b0 (x_word : (List Nat)) (x1 : Int) (c_found1 : (List (Int × Int × Int))) : Option (List (Int × Int × Int)) := (ask (Rng2 (x1 + (2 : Int)) ((x_word.length : Int) + (1 : Int)))).bind fun _ => (forN (fun x2 s => l_runs_b1 x_word x1 x2 s) (rng (x1 + (2 : Int)) ((x_word.length : Int) + (1 : Int))) c_found1).bind fun r_2 => some r_2
def m_l_runs (x_word : (List Nat)) : Option (List (Int × Int × Int)) := (ask (x_word.length ≤ L24)).bind fun _ => (ask (Rng1 (x_word.length : Int))).bind fun _ => (forN (fun x1 s => l_runs_b0 x_word x1 s) (rng 0 (x_word.length : Int)) ([] : (List (Int × Int × Int)))).bind fun r_1 => some r_1
def l_squares_b1 (x_word : (List Nat)) (x1 : Int) (x2 : Int) (c_found2 : (List (Int × Int))) : Option (List (Int × Int)) := (ask ((cutT x_word (some x1) none).length ≤ L24)).bind fun _ => (ask ((cutT x_word (some x1) none).length ≤ L24)).bind fun _ => (ask (SMul (2 : Int) x2)).bind fun _ => if (decide ((cutT (cutT x_word (some x1) none) none (some x2)) = (cutT (cutT x_word (some x1) none) (some x2) (some ((2 : Int) * x2))))) = true then ((ask (c_found2.length < L24)).bind fun _ => some (c_found2 ++ [(x1, x2)])) else (some c_found2)
def l_squares_b0 (x_word : (List Nat)) (x1 : Int) (c_found1 : (List (Int × Int))) : Option (List (Int × Int)) := (ask (x_word.length ≤ L24)).bind fun _ => (ask ((cutT x_word (some x1) none).length ≤ L24)).bind fun _ => (ask (SDiv ((cutT x_word (some x1) none).length : Int) (2 : Int))).bind fun _ => (ask (Rng2 (1 : Int) ((((cutT x_word (some x1) none).length : Int) / (2 : Int)) + (1 : Int)))).bind fun _ => (forN (fun x2 s => l_squares_b1 x_word x1 x2 s) (rng (1 : Int) ((((cutT x_word (some x1) none).length : Int) / (2 : Int)) + (1 : Int))) c_found1).bind fun r_2 => some r_2
def m_l_squares (x_word : (List Nat)) : Option (List (Int × Int)) := (ask (x_word.length ≤ L24)).bind fun _ => (ask (Rng1 (x_word.length : Int))).bind fun _ => (forN (fun x1 s => l_squares_b0 x_word x1 s) (rng 0 (x_word.length : Int)) ([] : (List (Int × Int)))).bind fun r_1 => some r_1
def l_borders_b1 (x_word : (List Nat)) (x1 : Int) (x2 : Int) (c_best1 : Int) : Option Int := (ask (x_word.length ≤ L24)).bind fun _ => (ask (x_word.length ≤ L24)).bind fun _ => if (decide ((cutT x_word none (some x2)) = (cutT x_word (some (x1 - x2)) (some x1)))) = true then (some x2) else (some c_best1)
def l_borders_b0 (x_word : (List Nat)) (x1 : Int) (c_table1 : (List Int)) : Option (List Int) := (ask (Rng2 (1 : Int) x1)).bind fun _ => (forN (fun x2 s => l_borders_b1 x_word x1 x2 s) (rng (1 : Int) x1) (0 : Int)).bind fun r_2 => (ask (c_table1.length < L24)).bind fun _ => some (c_table1 ++ [r_2])
def m_l_borders (x_word : (List Nat)) : Option (List Int) := (ask (x_word.length ≤ L24)).bind fun _ => (ask (Rng2 (1 : Int) ((x_word.length : Int) + (1 : Int)))).bind fun _ => (forN (fun x1 s => l_borders_b0 x_word x1 s) (rng (1 : Int) ((x_word.length : Int) + (1 : Int))) ([] : (List Int))).bind fun r_1 => some r_1
def l_prefixes_b1 (x_word : (List Nat)) (x1 : Int) (x2 : Int) (c_best1 : Int) : Option Int := (ask (x_word.length ≤ L24)).bind fun _ => (ask (x_word.length ≤ L24)).bind fun _ => if (decide ((cutT x_word (some x1) (some (x1 + x2))) = (cutT x_word none (some x2)))) = true then (some x2) else (some c_best1)
def l_prefixes_b0 (x_word : (List Nat)) (x1 : Int) (c_table1 : (List Int)) : Option (List Int) := (ask (x_word.length ≤ L24)).bind fun _ => (ask (Rng2 (1 : Int) (((x_word.length : Int) - x1) + (1 : Int)))).bind fun _ => (forN (fun x2 s => l_prefixes_b1 x_word x1 x2 s) (rng (1 : Int) (((x_word.length : Int) - x1) + (1 : Int))) (0 : Int)).bind fun r_2 => (ask (c_table1.length < L24)).bind fun _ => some (c_table1 ++ [r_2])
def m_l_prefixes (x_word : (List Nat)) : Option (List Int) := (ask (x_word.length ≤ L24)).bind fun _ => (ask (Rng1 (x_word.length : Int))).bind fun _ => (forN (fun x1 s => l_prefixes_b0 x_word x1 s) (rng 0 (x_word.length : Int)) ([] : (List Int))).bind fun r_1 => some r_1
def l_mirrors_b1 (x_word : (List Nat)) (x1 : Int) (x2 : Int) (c_best1 : Int) : Option Int := (ask (x_word.length ≤ L24)).bind fun _ => (ask ((cutT x_word (some x2) (some ((x1 - x2) + (1 : Int)))).length ≤ L24)).bind fun _ => if (decide ((cutT x_word (some x2) (some ((x1 - x2) + (1 : Int)))) = (cutT x_word (some x2) (some ((x1 - x2) + (1 : Int)))).reverse)) = true then ((ask ((cutT x_word (some x2) (some ((x1 - x2) + (1 : Int)))).length ≤ L24)).bind fun _ => some (maxI c_best1 ((cutT x_word (some x2) (some ((x1 - x2) + (1 : Int)))).length : Int))) else (some c_best1)
def l_mirrors_b0 (x_word : (List Nat)) (x1 : Int) (c_table1 : (List Int)) : Option (List Int) := (ask (x_word.length ≤ L24)).bind fun _ => (ask (SDiv x1 (2 : Int))).bind fun _ => (ask (Rng2 (maxI (0 : Int) ((x1 + (1 : Int)) - (x_word.length : Int))) ((x1 / (2 : Int)) + (1 : Int)))).bind fun _ => (forN (fun x2 s => l_mirrors_b1 x_word x1 x2 s) (rng (maxI (0 : Int) ((x1 + (1 : Int)) - (x_word.length : Int))) ((x1 / (2 : Int)) + (1 : Int))) (0 : Int)).bind fun r_2 => (ask (c_table1.length < L24)).bind fun _ => some (c_table1 ++ [r_2])
def m_l_mirrors (x_word : (List Nat)) : Option (List Int) := (ask (x_word.length ≤ L24)).bind fun _ => (ask (SMul (2 : Int) (x_word.length : Int))).bind fun _ => (ask (Rng1 (((2 : Int) * (x_word.length : Int)) - (1 : Int)))).bind fun _ => (forN (fun x1 s => l_mirrors_b0 x_word x1 s) (rng 0 (((2 : Int) * (x_word.length : Int)) - (1 : Int))) ([] : (List Int))).bind fun r_1 => some r_1
def l_covers_b1 (x_word : (List Nat)) (x1 : Int) (x2 : Int) (c_reach1 : Int) : Option Int := (ask (x_word.length ≤ L24)).bind fun _ => (ask (x_word.length ≤ L24)).bind fun _ => if ((decide ((cutT x_word (some x2) (some (x2 + x1))) = (cutT x_word none (some x1)))) && (decide (x2 ≤ c_reach1))) = true then (some (x2 + x1)) else (some c_reach1)
def l_covers_b0 (x_word : (List Nat)) (x1 : Int) (c_found1 : (List Int)) : Option (List Int) := (ask (Rng1 (((x_word.length : Int) - x1) + (1 : Int)))).bind fun _ => (forN (fun x2 s => l_covers_b1 x_word x1 x2 s) (rng 0 (((x_word.length : Int) - x1) + (1 : Int))) (0 : Int)).bind fun r_2 => if (decide (r_2 = (x_word.length : Int))) = true then ((ask (c_found1.length < L24)).bind fun _ => some (c_found1 ++ [x1])) else (some c_found1)
def m_l_covers (x_word : (List Nat)) : Option (List Int) := (ask (x_word.length ≤ L24)).bind fun _ => (ask (Rng2 (1 : Int) ((x_word.length : Int) + (1 : Int)))).bind fun _ => (forN (fun x1 s => l_covers_b0 x_word x1 s) (rng (1 : Int) ((x_word.length : Int) + (1 : Int))) ([] : (List Int))).bind fun r_1 => some r_1
def l_periods_b0 (x_word : (List Nat)) (x1 : Int) (c_found1 : (List Int)) : Option (List Int) := (ask (x_word.length ≤ L24)).bind fun _ => if (prefB (cutT x_word (some x1) none) x_word) = true then ((ask (c_found1.length < L24)).bind fun _ => some (c_found1 ++ [x1])) else (some c_found1)
def m_l_periods (x_word : (List Nat)) : Option (List Int) := (ask (x_word.length ≤ L24)).bind fun _ => (ask (Rng2 (1 : Int) (x_word.length : Int))).bind fun _ => (forN (fun x1 s => l_periods_b0 x_word x1 s) (rng (1 : Int) (x_word.length : Int)) ([] : (List Int))).bind fun r_1 => some r_1
def l_ints_b0 (x_told : (List Int)) (x_due : (List Int)) (x1 : Int)  : Option (Fl Unit Bool) := (atI x_told x1).bind fun x_1 => (if (!true) = true then some true else (atI x_told x1).bind fun x_2 => some false).bind fun c_1 => if c_1 = true then (some (.rt false)) else ((atI x_told x1).bind fun x_3 => (atI x_due x1).bind fun x_4 => if (decide (x_3 ≠ x_4)) = true then (some (.rt false)) else (some (.nx ())))
def m_l_ints (x_told : (List Int)) (x_due : (List Int)) : Option Bool := if ((!true) || (decide ((x_told.length : Int) ≠ (x_due.length : Int)))) = true then (some false) else ((ask (Rng1 (x_due.length : Int))).bind fun _ => (forR (fun x1 s => l_ints_b0 x_told x_due x1 ) (rng 0 (x_due.length : Int)) ()).bind fun r_1 => r_1.fin (fun s1 => some true) (fun q => some q))
def l_intsT_b0 (x_told : (List Int)) (x_due : (List Int)) (x1 : Int)  : Option (Fl Unit Bool) := (atI x_told x1).bind fun x_1 => (if (!true) = true then some true else (atI x_told x1).bind fun x_2 => some false).bind fun c_1 => if c_1 = true then (some (.rt false)) else ((atI x_told x1).bind fun x_3 => (atI x_due x1).bind fun x_4 => if (decide (x_3 ≠ x_4)) = true then (some (.rt false)) else (some (.nx ())))
def m_l_intsT (x_told : (List Int)) (x_due : (List Int)) : Option Bool := if ((!true) || (decide ((x_told.length : Int) ≠ (x_due.length : Int)))) = true then (some false) else ((ask (Rng1 (x_due.length : Int))).bind fun _ => (forR (fun x1 s => l_intsT_b0 x_told x_due x1 ) (rng 0 (x_due.length : Int)) ()).bind fun r_1 => r_1.fin (fun s1 => some true) (fun q => some q))
def renumbered_b0  (x1 : Int) (c_numbers1 : (List (Int × Int))) : Option (List (Int × Int)) := if (!dHas c_numbers1 x1) = true then ((ask (c_numbers1.length < L24)).bind fun _ => some (dPut c_numbers1 x1 (c_numbers1.length : Int))) else (some c_numbers1)
def m_renumbered (x_labels : (List Int)) : Option (List Int) := (forN (fun x1 s => renumbered_b0  x1 s) x_labels ([] : (List (Int × Int)))).bind fun r_1 => (ask (x_labels.length ≤ L24)).bind fun _ => (mapO (fun (x2 : Int) => (dGet r_1 x2).bind fun x_1 => some x_1) x_labels).bind fun ys1 => some ys1
def m_Shape___init__ (x_labels : (List Int)) : Option (List Int) := (m_check_many x_labels (100 : Int)).bind fun r_1 => (m_renumbered x_labels).bind fun r_2 => some r_2
def m_Shape_of_word (x_word : (List Nat)) : Option (List Int) := (m_check_word x_word).bind fun r_1 => (ask (x_word.length ≤ L24)).bind fun _ => (mapO (fun (x1 : Nat) => (ordO [x1]).bind fun c_1 => some (c_1 : Int)) x_word).bind fun ys1 => (m_Shape___init__ ys1).bind fun r_2 => some r_2
def m_Shape_class_total (x_self : (List Int)) : Option Int := some ((maxDef x_self (-1 : Int)) + (1 : Int))
def m_Shape___len__ (x_self : (List Int)) : Option Int := some (x_self.length : Int)
def m_Shape_led (x_self : (List Int)) (x_letters : (List Nat)) : Option (List Nat) := (m_is_letters x_letters (100 : Int)).bind fun r_1 => if r_1 = true then ((ask (x_letters.length ≤ L24)).bind fun _ => (m_Shape_class_total x_self).bind fun r_2 => if (decide ((x_letters.length : Int) ≠ r_2)) = true then (none) else ((ask (x_self.length ≤ L24)).bind fun _ => (mapO (fun (x1 : Int) => (ask (x_letters.length ≤ L24)).bind fun _ => (atI x_letters x1).bind fun c_1 => some [c_1]) x_self).bind fun ys1 => (ask (SJoin ([] : List Nat) ys1)).bind fun _ => some (joinT ([] : List Nat) ys1))) else (none)
def Shape_map_to_b0  (x1 : (Int × Int)) (c_images1 : (List Int)) : Option (Fl (List Int) (Option (List Int))) := if (decide (x1.1 = (c_images1.length : Int))) = true then ((ask (c_images1.length < L24)).bind fun _ => some (.nx (c_images1 ++ [x1.2]))) else ((atI c_images1 x1.1).bind fun x_1 => if (decide (x_1 ≠ x1.2)) = true then (some (.rt (none : (Option (List Int))))) else (some (.nx c_images1)))
def m_Shape_map_to (x_self : (List Int)) (x_other : (List Int)) : Option (Option (List Int)) := (m_Shape___len__ x_self).bind fun r_1 => (ask (0 ≤ r_1 ∧ r_1 < 2 ^ 63)).bind fun _ => (m_Shape___len__ x_other).bind fun r_2 => (ask (0 ≤ r_2 ∧ r_2 < 2 ^ 63)).bind fun _ => if (decide (r_1 ≠ r_2)) = true then (none) else ((forR (fun x1 s => Shape_map_to_b0  x1 s) (x_self.zip x_other) ([] : (List Int))).bind fun r_3 => r_3.fin (fun s7 => some (some s7)) (fun q => some q))
def m_Shape_is_freer (x_self : (List Int)) (x_other : (List Int)) : Option Bool := (m_Shape_map_to x_self x_other).bind fun r_1 => some r_1.isSome
def l_rowsT_b0 (x_told : (List (Int × Int × Int))) (x_due : (List (Int × Int × Int))) (x1 : Int)  : Option (Fl Unit Bool) := (atI x_told x1).bind fun x_1 => if (!true) = true then (some (.rt false)) else ((atI x_told x1).bind fun x_2 => (atI x_due x1).bind fun x_3 => (m_l_intsT ([x_2.1, x_2.2.1, x_2.2.2] : (List Int)) ([x_3.1, x_3.2.1, x_3.2.2] : (List Int))).bind fun r_2 => if r_2 = true then (some (.nx ())) else (some (.rt false)))
def m_l_rowsT (x_told : (List (Int × Int × Int))) (x_due : (List (Int × Int × Int))) : Option Bool := if ((!true) || (decide ((x_told.length : Int) ≠ (x_due.length : Int)))) = true then (some false) else ((ask (Rng1 (x_due.length : Int))).bind fun _ => (forR (fun x1 s => l_rowsT_b0 x_told x_due x1 ) (rng 0 (x_due.length : Int)) ()).bind fun r_1 => r_1.fin (fun s4 => some true) (fun q => some q))
def l_rowsP_b0 (x_told : (List (Int × Int))) (x_due : (List (Int × Int))) (x1 : Int)  : Option (Fl Unit Bool) := (atI x_told x1).bind fun x_1 => if (!true) = true then (some (.rt false)) else ((atI x_told x1).bind fun x_2 => (atI x_due x1).bind fun x_3 => (m_l_intsT ([x_2.1, x_2.2] : (List Int)) ([x_3.1, x_3.2] : (List Int))).bind fun r_2 => if r_2 = true then (some (.nx ())) else (some (.rt false)))
def m_l_rowsP (x_told : (List (Int × Int))) (x_due : (List (Int × Int))) : Option Bool := if ((!true) || (decide ((x_told.length : Int) ≠ (x_due.length : Int)))) = true then (some false) else ((ask (Rng1 (x_due.length : Int))).bind fun _ => (forR (fun x1 s => l_rowsP_b0 x_told x_due x1 ) (rng 0 (x_due.length : Int)) ()).bind fun r_1 => r_1.fin (fun s4 => some true) (fun q => some q))
def m_l_known (x_word : (List Nat)) : Option (Option ((List (Int × Int × Int)) × (List (Int × Int)) × (List (Int × Int × Int)))) := (m_l_runs x_word).bind fun r_1 => (m_runs x_word).bind fun r_2 => (m_squares x_word).bind fun r_3 => (m_l_rowsT r_2 r_1).bind fun r_4 => if r_4 = true then ((m_l_squares x_word).bind fun r_5 => (m_l_rowsP r_3 r_5).bind fun r_6 => if r_6 = true then ((m_periods x_word).bind fun r_7 => (m_l_periods x_word).bind fun r_8 => (m_l_ints r_7 r_8).bind fun r_9 => if r_9 = true then ((m_covers x_word).bind fun r_10 => (m_l_covers x_word).bind fun r_11 => (m_l_ints r_10 r_11).bind fun r_12 => if r_12 = true then ((m_border_table x_word).bind fun r_13 => (m_l_borders x_word).bind fun r_14 => (m_l_ints r_13 r_14).bind fun r_15 => if r_15 = true then ((m_prefix_table x_word).bind fun r_16 => (m_l_prefixes x_word).bind fun r_17 => (m_l_ints r_16 r_17).bind fun r_18 => if r_18 = true then ((m_mirror_table x_word).bind fun r_19 => (m_l_mirrors x_word).bind fun r_20 => (m_l_ints r_19 r_20).bind fun r_21 => if r_21 = true then (some (some (r_2, r_3, r_1))) else (some (none : (Option ((List (Int × Int × Int)) × (List (Int × Int)) × (List (Int × Int × Int))))))) else (some (none : (Option ((List (Int × Int × Int)) × (List (Int × Int)) × (List (Int × Int × Int))))))) else (some (none : (Option ((List (Int × Int × Int)) × (List (Int × Int)) × (List (Int × Int × Int))))))) else (some (none : (Option ((List (Int × Int × Int)) × (List (Int × Int)) × (List (Int × Int × Int))))))) else (some (none : (Option ((List (Int × Int × Int)) × (List (Int × Int)) × (List (Int × Int × Int))))))) else (some (none : (Option ((List (Int × Int × Int)) × (List (Int × Int)) × (List (Int × Int × Int))))))) else (some (none : (Option ((List (Int × Int × Int)) × (List (Int × Int)) × (List (Int × Int × Int))))))
def l_within_b1 (x1 : (Int × Int × Int)) (x2 : (Int × Int × Int)) (c_homes1 : (List (Int × Int × Int))) : Option (List (Int × Int × Int)) := if ((decide (x2.1 ≤ x1.1)) && (decide (x1.2.1 ≤ x2.2.1))) = true then ((ask (0 < x2.2.2)).bind fun _ => if (decide ((x1.2.2 % x2.2.2) = (0 : Int))) = true then ((ask (c_homes1.length < L24)).bind fun _ => some (c_homes1 ++ [x2])) else (some c_homes1)) else (some c_homes1)
def l_within_b0 (x_second : (List (Int × Int × Int))) (x1 : (Int × Int × Int))  : Option (Fl Unit Bool) := (forN (fun x2 s => l_within_b1 x1 x2 s) x_second ([] : (List (Int × Int × Int)))).bind fun r_2 => if (decide ((r_2.length : Int) ≠ (1 : Int))) = true then (some (.rt false)) else (some (.nx ()))
def m_l_within (x_first : (List (Int × Int × Int))) (x_second : (List (Int × Int × Int))) : Option Bool := (forR (fun x1 s => l_within_b0 x_second x1 ) x_first ()).bind fun r_1 => r_1.fin (fun s2 => some true) (fun q => some q)
def l_stays_b1 (x1 : (List (List Int))) (x2 : Int)  : Option (Fl Unit Bool) := (atI x1 (1 : Int)).bind fun x_2 => if (!x_2.contains x2) = true then (some (.rt false)) else (some (.nx ()))
def l_stays_b0  (x1 : (List (List Int)))  : Option (Fl Unit Bool) := (atI x1 (0 : Int)).bind fun x_1 => (forR (fun x2 s => l_stays_b1 x1 x2 ) x_1 ()).bind fun r_6 => r_6.fin (fun s8 => some (.nx ())) (fun q => some (.rt q))
def l_stays_b3 (x3 : (List (List Int))) (x4 : Int)  : Option (Fl Unit Bool) := (atI x3 (0 : Int)).bind fun x_4 => (atI x_4 x4).bind fun x_5 => (atI x3 (1 : Int)).bind fun x_6 => (atI x_6 x4).bind fun x_7 => if (decide (x_5 > x_7)) = true then (some (.rt false)) else (some (.nx ()))
def l_stays_b2  (x3 : (List (List Int)))  : Option (Fl Unit Bool) := (atI x3 (0 : Int)).bind fun x_3 => (ask (Rng1 (x_3.length : Int))).bind fun _ => (forR (fun x4 s => l_stays_b3 x3 x4 ) (rng 0 (x_3.length : Int)) ()).bind fun r_14 => r_14.fin (fun s20 => some (.nx ())) (fun q => some (.rt q))
def m_l_stays (x_word : (List Nat)) (x_led : (List Nat)) : Option Bool := (m_periods x_word).bind fun r_1 => (m_periods x_led).bind fun r_2 => (m_covers x_word).bind fun r_3 => (m_covers x_led).bind fun r_4 => (ask (([([r_1, r_2] : (List (List Int)))] : (List (List (List Int)))).length < L24)).bind fun _ => (forR (fun x1 s => l_stays_b0  x1 ) (([([r_1, r_2] : (List (List Int)))] : (List (List (List Int)))) ++ [([r_3, r_4] : (List (List Int)))]) ()).bind fun r_5 => r_5.fin (fun s9 => (m_border_table x_word).bind fun r_7 => (m_border_table x_led).bind fun r_8 => (m_prefix_table x_word).bind fun r_9 => (m_prefix_table x_led).bind fun r_10 => (ask (([([r_7, r_8] : (List (List Int)))] : (List (List (List Int)))).length < L24)).bind fun _ => (m_mirror_table x_word).bind fun r_11 => (m_mirror_table x_led).bind fun r_12 => (ask ((([([r_7, r_8] : (List (List Int)))] : (List (List (List Int)))) ++ [([r_9, r_10] : (List (List Int)))]).length < L24)).bind fun _ => (forR (fun x3 s => l_stays_b2  x3 ) ((([([r_7, r_8] : (List (List Int)))] : (List (List (List Int)))) ++ [([r_9, r_10] : (List (List Int)))]) ++ [([r_11, r_12] : (List (List Int)))]) ()).bind fun r_13 => r_13.fin (fun s21 => some true) (fun q => some q)) (fun q => some q)
def m_l_put (x_word : (List Nat)) (x_table : (List ((List Nat) × (List Nat)))) : Option (List Nat) := (ask (x_word.length ≤ L24)).bind fun _ => (mapO (fun (x1 : Nat) => (dGet x_table [x1]).bind fun x_1 => some x_1) x_word).bind fun ys1 => (ask (SJoin ([] : List Nat) ys1)).bind fun _ => some (joinT ([] : List Nat) ys1)
def l_led_b0  (x1 : Nat) (c_kinds1 : (List (List Nat))) : Option (List (List Nat)) := if (!c_kinds1.contains [x1]) = true then ((ask (c_kinds1.length < L24)).bind fun _ => some (c_kinds1 ++ [[x1]])) else (some c_kinds1)
def l_led_b1  (x3 : Nat) (c_seen1 : (List (List Nat))) (c_due1 : (List Int)) : Option ((List (List Nat)) × (List Int)) := (if (!c_seen1.contains [x3]) = true then ((ask (c_seen1.length < L24)).bind fun _ => some (c_seen1 ++ [[x3]])) else (some c_seen1)).bind fun j_1 => (idxO j_1 [x3]).bind fun j_2 => (ask (c_due1.length < L24)).bind fun _ => some (j_1, (c_due1 ++ [(j_2 : Int)]))
def m_l_led (x_word : (List Nat)) (x_table : (List ((List Nat) × (List Nat)))) : Option Bool := (forN (fun x1 s => l_led_b0  x1 s) x_word ([] : (List (List Nat)))).bind fun r_1 => (ask (r_1.length ≤ L24)).bind fun _ => (mapO (fun (x2 : (List Nat)) => (dGet x_table x2).bind fun x_1 => some x_1) r_1).bind fun ys1 => (ask (SJoin ([] : List Nat) ys1)).bind fun _ => (m_Shape_of_word x_word).bind fun r_2 => (m_Shape_led r_2 (joinT ([] : List Nat) ys1)).bind fun r_3 => (m_l_put x_word x_table).bind fun r_4 => if (decide (r_3 ≠ r_4)) = true then (some false) else ((m_l_put x_word x_table).bind fun r_5 => (m_Shape_of_word r_5).bind fun r_6 => (forN (fun x3 s => l_led_b1  x3 s.1 s.2) (joinT ([] : List Nat) ys1) (([] : (List (List Nat))), ([] : (List Int)))).bind fun r_7 => (m_Shape_is_freer r_2 r_6).bind fun r_8 => if (!(decide (r_8 = true))) = true then (some false) else ((m_Shape_map_to r_2 r_6).bind fun r_9 => oElim r_9 (some false) (fun y_1 => (m_l_ints y_1 r_7.2).bind fun r_10 => some r_10)))
def l_right_b0 (y_1 : ((List (Int × Int × Int)) × (List (Int × Int)) × (List (Int × Int × Int)))) (x1 : (Int × Int))  : Option (Fl Unit Bool) := if (!inB x1 y_1.2.1) = true then (some (.rt false)) else (some (.nx ()))
def m_l_right (x_word : (List Nat)) (x_table : (List ((List Nat) × (List Nat)))) (x_known : ((List (Int × Int × Int)) × (List (Int × Int)) × (List (Int × Int × Int)))) : Option Bool := (m_l_put x_word x_table).bind fun r_1 => (m_l_led x_word x_table).bind fun r_2 => if r_2 = true then ((m_l_known r_1).bind fun r_3 => oElim r_3 (some false) (fun y_1 => (m_l_within x_known.1 y_1.1).bind fun r_4 => if r_4 = true then ((forR (fun x1 s => l_right_b0 y_1 x1 ) x_known.2.1 ()).bind fun r_5 => r_5.fin (fun s8 => (m_l_stays x_word r_1).bind fun r_6 => if r_6 = true then ((ask (y_1.1.length < L24)).bind fun _ => (m_runs r_1).bind fun r_7 => (m_l_rowsT r_7 y_1.2.2).bind fun r_8 => some r_8) else (some false)) (fun q => some q)) else (some false))) else (some false)
def l_pool_b0  (x1 : Int) (c_stock1 : (List Int)) : Option (List Int) := ((ask (CPow (10 : Int) (18 : Int))).bind fun _ => if (decide ((absI x1) < ((10 : Int) ^ ((18 : Int)).toNat))) = true then ((ask (SMul (absI x1) (48271 : Int))).bind fun _ => (ask (0 < (2147483647 : Int))).bind fun _ => (ask (SMul (absI x1) (69621 : Int))).bind fun _ => (ask (SMul ((((absI x1) * (48271 : Int)) + (11 : Int)) % (2147483647 : Int)) (7 : Int))).bind fun _ => (ask (0 < (2147483629 : Int))).bind fun _ => (ask (SMul (absI x1) (16807 : Int))).bind fun _ => (ask (SMul ((((((absI x1) * (69621 : Int)) + (((((absI x1) * (48271 : Int)) + (11 : Int)) % (2147483647 : Int)) * (7 : Int))) + (if (decide (x1 < (0 : Int))) = true then (1 : Int) else 0)) + (5 : Int)) % (2147483629 : Int)) (3 : Int))).bind fun _ => (ask (0 < (2147483587 : Int))).bind fun _ => (ask (SMul (((((absI x1) * (16807 : Int)) + (((((((absI x1) * (69621 : Int)) + (((((absI x1) * (48271 : Int)) + (11 : Int)) % (2147483647 : Int)) * (7 : Int))) + (if (decide (x1 < (0 : Int))) = true then (1 : Int) else 0)) + (5 : Int)) % (2147483629 : Int)) * (3 : Int))) + ((((absI x1) * (48271 : Int)) + (11 : Int)) % (2147483647 : Int))) % (2147483587 : Int)) (2147483629 : Int))).bind fun _ => (ask (SMul (((((((absI x1) * (16807 : Int)) + (((((((absI x1) * (69621 : Int)) + (((((absI x1) * (48271 : Int)) + (11 : Int)) % (2147483647 : Int)) * (7 : Int))) + (if (decide (x1 < (0 : Int))) = true then (1 : Int) else 0)) + (5 : Int)) % (2147483629 : Int)) * (3 : Int))) + ((((absI x1) * (48271 : Int)) + (11 : Int)) % (2147483647 : Int))) % (2147483587 : Int)) * (2147483629 : Int)) + ((((((absI x1) * (69621 : Int)) + (((((absI x1) * (48271 : Int)) + (11 : Int)) % (2147483647 : Int)) * (7 : Int))) + (if (decide (x1 < (0 : Int))) = true then (1 : Int) else 0)) + (5 : Int)) % (2147483629 : Int))) (2147483647 : Int))).bind fun _ => some (((((((((absI x1) * (16807 : Int)) + (((((((absI x1) * (69621 : Int)) + (((((absI x1) * (48271 : Int)) + (11 : Int)) % (2147483647 : Int)) * (7 : Int))) + (if (decide (x1 < (0 : Int))) = true then (1 : Int) else 0)) + (5 : Int)) % (2147483629 : Int)) * (3 : Int))) + ((((absI x1) * (48271 : Int)) + (11 : Int)) % (2147483647 : Int))) % (2147483587 : Int)) * (2147483629 : Int)) + ((((((absI x1) * (69621 : Int)) + (((((absI x1) * (48271 : Int)) + (11 : Int)) % (2147483647 : Int)) * (7 : Int))) + (if (decide (x1 < (0 : Int))) = true then (1 : Int) else 0)) + (5 : Int)) % (2147483629 : Int))) * (2147483647 : Int)) + ((((absI x1) * (48271 : Int)) + (11 : Int)) % (2147483647 : Int)))) else (some (absI x1))).bind fun j_1 => (ask (CPow (10 : Int) (64 : Int))).bind fun _ => (ask (0 < ((10 : Int) ^ ((64 : Int)).toNat))).bind fun _ => (ask (c_stock1.length < L24)).bind fun _ => some (c_stock1 ++ [(j_1 % ((10 : Int) ^ ((64 : Int)).toNat))])
def m_l_pool (x_script : (List Int)) : Option (List Int) := (forN (fun x1 s => l_pool_b0  x1 s) (cutT x_script none (some (63 : Int))) ([] : (List Int))).bind fun r_1 => some r_1
def law_b0 (j_2 : ((List Int) × Int)) (x1 : (Int × Int × Int)) (c_back1 : (List (Int × Int × Int))) : Option (List (Int × Int × Int)) := (ask (c_back1.length < L24)).bind fun _ => some (c_back1 ++ [((j_2.2 - x1.2.1), (j_2.2 - x1.1), x1.2.2)])
def law_b1 (r_12 : ((List (List Nat)) × (List Int))) (r_6 : ((List (List Nat)) × (List Int))) (r_13 : ((List (List Nat)) × (List Int))) (x2 : Int) (c_stock1 : (List Int)) (c_tables01 : (List ((List Nat) × (List Nat)))) (c_tables11 : (List ((List Nat) × (List Nat)))) (c_tables21 : (List ((List Nat) × (List Nat)))) : Option ((List Int) × (List ((List Nat) × (List Nat))) × (List ((List Nat) × (List Nat))) × (List ((List Nat) × (List Nat)))) := (m_l_pickS c_stock1 r_12.1).bind fun r_15 => (atI r_6.1 x2).bind fun x_1 => (ask (c_tables01.length < L24)).bind fun _ => (atI r_12.1 (0 : Int)).bind fun x_2 => (atI r_6.1 x2).bind fun x_3 => (ask (c_tables11.length < L24)).bind fun _ => (atI r_13.1 x2).bind fun x_4 => (atI r_6.1 x2).bind fun x_5 => (ask (c_tables21.length < L24)).bind fun _ => some (r_15.2, (dPut c_tables01 x_1 r_15.1), (dPut c_tables11 x_3 x_2), (dPut c_tables21 x_5 x_4))
def law_b2 (r_7 : ((List Nat) × (List Int))) (y_1 : ((List (Int × Int × Int)) × (List (Int × Int)) × (List (Int × Int × Int)))) (x3 : (List ((List Nat) × (List Nat))))  : Option (Fl Unit Bool) := (m_l_right r_7.1 x3 y_1).bind fun r_17 => if r_17 = true then (some (.nx ())) else (some (.rt false))
def m_law (x_script : (List Int)) : Option Bool := (m_l_pool x_script).bind fun r_1 => (m_l_pickI r_1 ([(9 : Int), (7 : Int), (12 : Int), (14 : Int), (5 : Int), (10 : Int), (3 : Int), (60 : Int)] : (List Int))).bind fun r_2 => (if (decide (r_2.1 = (3 : Int))) = true then ((m_l_draw r_2.2 (5 : Int)).bind fun r_3 => some (r_3.2, r_3.1)) else (some (r_2.2, r_2.1))).bind fun j_1 => (if (decide (j_1.2 = (60 : Int))) = true then ((m_l_draw j_1.1 (40 : Int)).bind fun r_4 => some (r_4.2, ((60 : Int) - r_4.1))) else (some (j_1.1, j_1.2))).bind fun j_2 => (m_l_draw j_2.1 (4 : Int)).bind fun r_5 => (ask (0 < (4 : Int))).bind fun _ => (m_l_letters r_5.2 ((1 : Int) + (((2 : Int) + r_5.1) % (4 : Int)))).bind fun r_6 => (m_l_word r_6.2 j_2.2 r_6.1).bind fun r_7 => (m_l_known r_7.1).bind fun r_8 => oElim r_8 (some false) (fun y_1 => (forN (fun x1 s => law_b0 j_2 x1 s) y_1.2.2 ([] : (List (Int × Int × Int)))).bind fun r_9 => (ask (r_7.1.length ≤ L24)).bind fun _ => (m_runs r_7.1.reverse).bind fun r_10 => (m_l_rowsT r_10 (sortT codeT r_9)).bind fun r_11 => if r_11 = true then ((m_l_letters r_7.2 (3 : Int)).bind fun r_12 => (m_l_letters r_12.2 (4 : Int)).bind fun r_13 => (ask (Rng1 (r_6.1.length : Int))).bind fun _ => (forN (fun x2 s => law_b1 r_12 r_6 r_13 x2 s.1 s.2.1 s.2.2.1 s.2.2.2) (rng 0 (r_6.1.length : Int)) (r_13.2, ([] : (List ((List Nat) × (List Nat)))), ([] : (List ((List Nat) × (List Nat)))), ([] : (List ((List Nat) × (List Nat)))))).bind fun r_14 => (forR (fun x3 s => law_b2 r_7 y_1 x3 ) ([r_14.2.1, r_14.2.2.1, r_14.2.2.2] : (List (List ((List Nat) × (List Nat))))) ()).bind fun r_16 => r_16.fin (fun s31 => some true) (fun q => some q)) else (some false))
end K79
/-! walk -/
namespace K79
open PySem PySem.Spec PyProof.Rows L2 Wk RZ ClX
def sp_l_pool (K : PySem.W.Frag) : Sp := fun vs H Q _ => ∃ (B : Hp) (v_script : V) (x_script : (List Int)) (r : (List Int)), Ex B H ∧ vs = [v_script] ∧ (rX K) B v_script x_script ∧ m_l_pool x_script = some r ∧ ∀ p B' H' vs', Stp [] B H B' H' → H p = none → B' p = none → H' p = some (.lst vs') → All2 (rI B') vs' r → Q (.ref p) H'
theorem ok_l_pool {P : Program} {w : World} {K : PySem.W.Frag} {mg : Str → Option Value} {base : Heap} (E : Tx K mg) : Ok P w K mg base CX0 1 "_law_pool" ["script"] (sp_l_pool K) := by
  obtain ⟨fd, F⟩ := E.def_ 44 (d := d_l_pool) rfl
  replace F : FunD K "_law_pool" "_law_pool" (defArgs s_l_pool) (defBody s_l_pool) (defScope s_l_pool) [] [] (He.ga K "_law_pool") fd := F
  have g_abs : mg "abs" = none := E.free 53
  have g_int : mg "int" = none := E.free 45
  refine ⟨fd, F.ok sc_l_pool (fun vs H Q E h => ?_) (fun cdv A outer s H0 vs Q X hr h => ?_), F.bindsN fun _ _ _ _ _ _ us hl => match us, hl with | [_], _ => rfl, F.kp, E.glo 39⟩
  · obtain ⟨_, _, _, _, _, rfl, _⟩ := h; rfl
  ·
    obtain ⟨B0, v_script, x_script, r, c0, rfl, h_script, e, q⟩ := h
    obtain ⟨a_script1, rfl, hB_script1⟩ := h_script
    have st0 : Stp [] B0 H0 B0 H0 := Stp.refl c0
    unfold m_l_pool at e
    refine ⟨_, PSs.nox ((pss_cons (ps_set (i := 1) sc_l_pool.nd rfl (by first | exact Or.inl rfl | exact Or.inr rfl) (pe_lst pa_nil)) (pss_cons (ps_for PassesOwn.never rfl (pi_list (pe_slice sl_list (pv 0) po_none (po_some pe_int))) (pg_name (i := 2) sc_l_pool.nd rfl (by first | exact Or.inl rfl | exact Or.inr rfl)) (pss_cons (ps_set (i := 3) sc_l_pool.nd rfl (by first | exact Or.inl rfl | exact Or.inr rfl) (pe_callB call_abs (by rfl) g_abs (by decide +kernel) (pa_cons (pv 2) pa_nil))) (Evl.pss_cut (ps_if (pt_cmpR op_lt (pv 3) (pe_op op_pow pe_int pe_int) (nomark _)) (pss_cons (ps_set (i := 4) sc_l_pool.nd rfl (by first | exact Or.inl rfl | exact Or.inr rfl) (pe_op op_mod (pe_callTy call_int1 (by rfl) g_int (by decide +kernel) (pa_cons (pe_op op_add (pe_op op_mulW (pv 3) pe_int) pe_int) pa_nil)) pe_int)) (pss_cons (ps_set (i := 5) sc_l_pool.nd rfl (by first | exact Or.inl rfl | exact Or.inr rfl) (pe_op op_mod (pe_callTy call_int1 (by rfl) g_int (by decide +kernel) (pa_cons (pe_op op_add (pe_op op_add (pe_op op_add (pe_op op_mulW (pv 3) pe_int) (pe_op op_mulW (pv 4) pe_int)) (pe_callTy call_int1 (by rfl) g_int (by decide +kernel) (pa_cons (pe_cmpR op_lt (pv 2) pe_int (nomark _)) pa_nil))) pe_int) pa_nil)) pe_int)) (pss_cons (ps_set (i := 6) sc_l_pool.nd rfl (by first | exact Or.inl rfl | exact Or.inr rfl) (pe_op op_mod (pe_callTy call_int1 (by rfl) g_int (by decide +kernel) (pa_cons (pe_op op_add (pe_op op_add (pe_op op_mulW (pv 3) pe_int) (pe_op op_mulW (pv 5) pe_int)) (pv 4)) pa_nil)) pe_int)) (pss_one (ps_set (i := 3) sc_l_pool.nd rfl (by first | exact Or.inl rfl | exact Or.inr rfl) (pe_op op_add (pe_op op_mulW (pe_op op_add (pe_op op_mulW (pv 6) pe_int) (pv 5)) pe_int) (pv 4))))))) pss_nil) (pss_one (ps_expr (pe_bm PySem.F.plainAttrs_list PySem.F.slot_list_append PySem.F.type_list_append mt_append (pv 1) (pa_cons (pe_op op_mod (pe_callTy call_int1 (by rfl) g_int (by decide +kernel) (pa_cons (pv 3) pa_nil)) (pe_op op_pow pe_int pe_int)) pa_nil))))))) (pss_one (ps_ret (pv 1)))))), ?_⟩
    refine q_st (σ' := [some (V.ref a_script1), none, none, none, none, none, none]) rfl ?_
    refine q_seq ?_
    refine q_set ?_
    refine q_lst ?_
    refine q_nil ?_
    refine ⟨by show _ ≤ 16777216; simp, ?_⟩
    refine al_own st0.c fun p1 np1 H1 s1 hB1 nb1 => ?_
    have z1 := st0.g _ np1
    have st1 := st0.t0 s1
    replace hB1 : H1 p1 = some (.lst (([] : (List Int)).map V.int)) := hB1
    refine q_nx (σ' := [some (V.ref a_script1), some (V.ref p1), none, none, none, none, none]) rfl ?_
    refine q_seq ?_
    refine q_for ?_
    refine q_itl ?_
    refine q_sl ?_
    refine go (v := (V.ref a_script1)) (v_var (by rfl)) ?_
    refine v_po0 _ ?_
    refine v_po1 v_c _ ?_
    refine sl_go (sq_mono st1.c hB_script1) ?_
    rw [cutV_map]
    refine al_giv st1.c fun p2 np2 B1 H2 s2 hB2 => ?_
    have hB_script1 := sq_mono s2.b hB_script1
    have nb1 := s2.out nb1 hB1
    have hB1 := s2.h _ _ List.not_mem_nil hB1
    have st2 := st1.t0 s2
    refine ⟨_, rfl, ⟨_, (Or.inl (Or.inl (st2.c _ _ hB2)))⟩, ?_⟩
    obtain ⟨r_1, er1, e⟩ := bind_some e
    refine for_N (Inv := fun (s : (List Int)) σ H => ∃ (B : Hp) (y_cell : Option V) (y_number : Option V) (y_low : Option V) (y_high : Option V) (y_top : Option V), σ = [some (V.ref a_script1), some (V.ref p1), y_cell, y_number, y_low, y_high, y_top] ∧ Ex B1 B ∧ Stp [] B0 H0 B H ∧ B p1 = none ∧ H p1 = some (.lst (s.map V.int))) er1 ?_ ?_ ?_ ?_ ?_
    · exact ⟨B1, _, _, _, _, _, rfl, (Ex.refl B1), st2, nb1, hB1⟩
    · refine lst_st (vs := ((cutT x_script none (some (63 : Int))).map V.int)) ?_ (by simp)
      rintro s σ H ⟨B, _, _, _, _, _, rfl, ex, st, _, _⟩
      exact Or.inl (Or.inl (st.c _ _ (ex _ _ hB2)))
    · refine lst_go (vs := ((cutT x_script none (some (63 : Int))).map V.int)) ?_ (by simp)
      rintro s σ H ⟨B, _, _, _, _, _, rfl, ex, st, _, _⟩
      exact Or.inl (Or.inl (st.c _ _ (ex _ _ hB2)))
    ·
      rintro i1 x1 c_stock1 t1 _ H3 hx1 ⟨B2, y1, y2, y3, y4, y5, rfl, ex1, st3, nb2, hp1⟩ ef1 v1 Hy1 hy1 N1 hN1
      replace hp1 : H3 p1 = some (.lst (c_stock1.map V.int)) := hp1
      have hB_script1 := sq_mono ex1 hB_script1
      have hB2 := ex1 _ _ hB2
      change l_pool_b0  x1 c_stock1 = some t1 at ef1
      unfold l_pool_b0 at ef1
      obtain ⟨rfl, hv1⟩ := lst_yld hy1 (Or.inl (Or.inl (st3.c _ _ hB2)))
      obtain rfl := map_at hv1 hx1
      refine q_gname ?_
      refine q_st (σ' := [some (V.ref a_script1), some (V.ref p1), some (V.int x1), y2, y3, y4, y5]) rfl ?_
      refine q_seq ?_
      refine q_set ?_
      refine go (v := (V.int (absI x1))) (v_cb1 (v_var (by rfl)) v_abs) ?_
      refine q_nx (σ' := [some (V.ref a_script1), some (V.ref p1), some (V.int x1), some (V.int (absI x1)), y3, y4, y5]) rfl ?_
      obtain ⟨j_1, ej1, ef1⟩ := bind_some ef1
      refine q_cut (Mid := MidP fun σ H => ∃ (B : Hp) (y_low : Option V) (y_high : Option V) (y_top : Option V), σ = [some (V.ref a_script1), some (V.ref p1), some (V.int x1), some (V.int j_1), y_low, y_high, y_top] ∧ Ex B2 B ∧ Stp [] B0 H0 B H ∧ B p1 = none ∧ H p1 = some (.lst (c_stock1.map V.int))) ?_ ?_
      ·
        refine q_if ?_
        obtain ⟨q1, ej1⟩ := ask_some ej1
        by_cases hb : (decide ((absI x1) < ((10 : Int) ^ ((18 : Int)).toNat))) = true
        · have ej1 := if_inv_t hb ej1
          refine goT (b := true) (Ans.to (v_tb (v_op (v_var (by rfl)) (v_op v_c v_c (fun _ q => ⟨_, _, rfl, rfl, q1, q⟩)) (fun _ q => ⟨_, _, rfl, rfl, q⟩))) hb) ?_
          refine if_t rfl ?_
          refine q_seq ?_
          refine q_set ?_
          obtain ⟨q2, ej1⟩ := ask_some ej1
          obtain ⟨q3, ej1⟩ := ask_some ej1
          refine go (v := (V.int ((((absI x1) * (48271 : Int)) + (11 : Int)) % (2147483647 : Int)))) (v_op (v_cb1 (v_op (v_op (v_var (by rfl)) v_c (fun _ q => ⟨_, _, rfl, rfl, smul_ok q2, q⟩)) v_c (fun _ q => ⟨_, _, rfl, rfl, q⟩)) v_intI) v_c (fun _ q => ⟨_, _, rfl, rfl, q3, q⟩)) ?_
          refine q_nx (σ' := [some (V.ref a_script1), some (V.ref p1), some (V.int x1), some (V.int (absI x1)), some (V.int ((((absI x1) * (48271 : Int)) + (11 : Int)) % (2147483647 : Int))), y4, y5]) rfl ?_
          refine q_seq ?_
          refine q_set ?_
          obtain ⟨q4, ej1⟩ := ask_some ej1
          obtain ⟨q5, ej1⟩ := ask_some ej1
          obtain ⟨q6, ej1⟩ := ask_some ej1
          refine go (v := (V.int ((((((absI x1) * (69621 : Int)) + (((((absI x1) * (48271 : Int)) + (11 : Int)) % (2147483647 : Int)) * (7 : Int))) + (if (decide (x1 < (0 : Int))) = true then (1 : Int) else 0)) + (5 : Int)) % (2147483629 : Int)))) (v_op (v_cb1 (v_op (v_op (v_op (v_op (v_var (by rfl)) v_c (fun _ q => ⟨_, _, rfl, rfl, smul_ok q4, q⟩)) (v_op (v_var (by rfl)) v_c (fun _ q => ⟨_, _, rfl, rfl, smul_ok q5, q⟩)) (fun _ q => ⟨_, _, rfl, rfl, q⟩)) (v_cb1 (v_op (v_var (by rfl)) v_c (fun _ q => ⟨_, _, rfl, rfl, q⟩)) v_intB) (fun _ q => ⟨_, _, rfl, rfl, q⟩)) v_c (fun _ q => ⟨_, _, rfl, rfl, q⟩)) v_intI) v_c (fun _ q => ⟨_, _, rfl, rfl, q6, q⟩)) ?_
          refine q_nx (σ' := [some (V.ref a_script1), some (V.ref p1), some (V.int x1), some (V.int (absI x1)), some (V.int ((((absI x1) * (48271 : Int)) + (11 : Int)) % (2147483647 : Int))), some (V.int ((((((absI x1) * (69621 : Int)) + (((((absI x1) * (48271 : Int)) + (11 : Int)) % (2147483647 : Int)) * (7 : Int))) + (if (decide (x1 < (0 : Int))) = true then (1 : Int) else 0)) + (5 : Int)) % (2147483629 : Int))), y5]) rfl ?_
          refine q_seq ?_
          refine q_set ?_
          obtain ⟨q7, ej1⟩ := ask_some ej1
          obtain ⟨q8, ej1⟩ := ask_some ej1
          obtain ⟨q9, ej1⟩ := ask_some ej1
          refine go (v := (V.int (((((absI x1) * (16807 : Int)) + (((((((absI x1) * (69621 : Int)) + (((((absI x1) * (48271 : Int)) + (11 : Int)) % (2147483647 : Int)) * (7 : Int))) + (if (decide (x1 < (0 : Int))) = true then (1 : Int) else 0)) + (5 : Int)) % (2147483629 : Int)) * (3 : Int))) + ((((absI x1) * (48271 : Int)) + (11 : Int)) % (2147483647 : Int))) % (2147483587 : Int)))) (v_op (v_cb1 (v_op (v_op (v_op (v_var (by rfl)) v_c (fun _ q => ⟨_, _, rfl, rfl, smul_ok q7, q⟩)) (v_op (v_var (by rfl)) v_c (fun _ q => ⟨_, _, rfl, rfl, smul_ok q8, q⟩)) (fun _ q => ⟨_, _, rfl, rfl, q⟩)) (v_var (by rfl)) (fun _ q => ⟨_, _, rfl, rfl, q⟩)) v_intI) v_c (fun _ q => ⟨_, _, rfl, rfl, q9, q⟩)) ?_
          refine q_nx (σ' := [some (V.ref a_script1), some (V.ref p1), some (V.int x1), some (V.int (absI x1)), some (V.int ((((absI x1) * (48271 : Int)) + (11 : Int)) % (2147483647 : Int))), some (V.int ((((((absI x1) * (69621 : Int)) + (((((absI x1) * (48271 : Int)) + (11 : Int)) % (2147483647 : Int)) * (7 : Int))) + (if (decide (x1 < (0 : Int))) = true then (1 : Int) else 0)) + (5 : Int)) % (2147483629 : Int))), some (V.int (((((absI x1) * (16807 : Int)) + (((((((absI x1) * (69621 : Int)) + (((((absI x1) * (48271 : Int)) + (11 : Int)) % (2147483647 : Int)) * (7 : Int))) + (if (decide (x1 < (0 : Int))) = true then (1 : Int) else 0)) + (5 : Int)) % (2147483629 : Int)) * (3 : Int))) + ((((absI x1) * (48271 : Int)) + (11 : Int)) % (2147483647 : Int))) % (2147483587 : Int)))]) rfl ?_
          refine q_set ?_
          obtain ⟨q10, ej1⟩ := ask_some ej1
          obtain ⟨q11, ej1⟩ := ask_some ej1
          refine go (v := (V.int (((((((((absI x1) * (16807 : Int)) + (((((((absI x1) * (69621 : Int)) + (((((absI x1) * (48271 : Int)) + (11 : Int)) % (2147483647 : Int)) * (7 : Int))) + (if (decide (x1 < (0 : Int))) = true then (1 : Int) else 0)) + (5 : Int)) % (2147483629 : Int)) * (3 : Int))) + ((((absI x1) * (48271 : Int)) + (11 : Int)) % (2147483647 : Int))) % (2147483587 : Int)) * (2147483629 : Int)) + ((((((absI x1) * (69621 : Int)) + (((((absI x1) * (48271 : Int)) + (11 : Int)) % (2147483647 : Int)) * (7 : Int))) + (if (decide (x1 < (0 : Int))) = true then (1 : Int) else 0)) + (5 : Int)) % (2147483629 : Int))) * (2147483647 : Int)) + ((((absI x1) * (48271 : Int)) + (11 : Int)) % (2147483647 : Int))))) (v_op (v_op (v_op (v_op (v_var (by rfl)) v_c (fun _ q => ⟨_, _, rfl, rfl, smul_ok q10, q⟩)) (v_var (by rfl)) (fun _ q => ⟨_, _, rfl, rfl, q⟩)) v_c (fun _ q => ⟨_, _, rfl, rfl, smul_ok q11, q⟩)) (v_var (by rfl)) (fun _ q => ⟨_, _, rfl, rfl, q⟩)) ?_
          refine q_nx (σ' := [some (V.ref a_script1), some (V.ref p1), some (V.int x1), some (V.int (((((((((absI x1) * (16807 : Int)) + (((((((absI x1) * (69621 : Int)) + (((((absI x1) * (48271 : Int)) + (11 : Int)) % (2147483647 : Int)) * (7 : Int))) + (if (decide (x1 < (0 : Int))) = true then (1 : Int) else 0)) + (5 : Int)) % (2147483629 : Int)) * (3 : Int))) + ((((absI x1) * (48271 : Int)) + (11 : Int)) % (2147483647 : Int))) % (2147483587 : Int)) * (2147483629 : Int)) + ((((((absI x1) * (69621 : Int)) + (((((absI x1) * (48271 : Int)) + (11 : Int)) % (2147483647 : Int)) * (7 : Int))) + (if (decide (x1 < (0 : Int))) = true then (1 : Int) else 0)) + (5 : Int)) % (2147483629 : Int))) * (2147483647 : Int)) + ((((absI x1) * (48271 : Int)) + (11 : Int)) % (2147483647 : Int)))), some (V.int ((((absI x1) * (48271 : Int)) + (11 : Int)) % (2147483647 : Int))), some (V.int ((((((absI x1) * (69621 : Int)) + (((((absI x1) * (48271 : Int)) + (11 : Int)) % (2147483647 : Int)) * (7 : Int))) + (if (decide (x1 < (0 : Int))) = true then (1 : Int) else 0)) + (5 : Int)) % (2147483629 : Int))), some (V.int (((((absI x1) * (16807 : Int)) + (((((((absI x1) * (69621 : Int)) + (((((absI x1) * (48271 : Int)) + (11 : Int)) % (2147483647 : Int)) * (7 : Int))) + (if (decide (x1 < (0 : Int))) = true then (1 : Int) else 0)) + (5 : Int)) % (2147483629 : Int)) * (3 : Int))) + ((((absI x1) * (48271 : Int)) + (11 : Int)) % (2147483647 : Int))) % (2147483587 : Int)))]) rfl ?_
          obtain rfl := Option.some.inj ej1
          exact ⟨B2, _, _, _, rfl, (Ex.refl B2), st3, nb2, hp1⟩
        · have hb := Bool.eq_false_iff.mpr hb
          have ej1 := if_inv_f hb ej1
          refine goT (b := false) (Ans.to (v_tb (v_op (v_var (by rfl)) (v_op v_c v_c (fun _ q => ⟨_, _, rfl, rfl, q1, q⟩)) (fun _ q => ⟨_, _, rfl, rfl, q⟩))) hb) ?_
          refine if_f rfl ?_
          refine q_next ?_
          obtain rfl := Option.some.inj ej1
          exact ⟨B2, _, _, _, rfl, (Ex.refl B2), st3, nb2, hp1⟩
      ·
        rintro _ H4 ⟨B3, y6, y7, y8, rfl, ex2, st4, nb3, hp2⟩
        replace hp2 : H4 p1 = some (.lst (c_stock1.map V.int)) := hp2
        have hB_script1 := sq_mono ex2 hB_script1
        have hB2 := ex2 _ _ hB2
        refine q_drop ?_
        refine q_bm ?_
        refine go (v := (V.ref p1)) (v_var (by rfl)) ?_
        refine ⟨tyL (Or.inl (Or.inl hp2)), ?_⟩
        refine q_cons ?_
        obtain ⟨q12, ef1⟩ := ask_some ef1
        obtain ⟨q13, ef1⟩ := ask_some ef1
        refine go (v := (V.int (j_1 % ((10 : Int) ^ ((64 : Int)).toNat)))) (v_op (v_cb1 (v_var (by rfl)) v_intI) (v_op v_c v_c (fun _ q => ⟨_, _, rfl, rfl, q12, q⟩)) (fun _ q => ⟨_, _, rfl, rfl, q13, q⟩)) ?_
        refine q_nil ?_
        obtain ⟨q14, ef1⟩ := ask_some ef1
        refine ap_goF (f := V.int) st4 (Or.inl z1) nb3 hp2 q14 fun H5 st5 hp3 kp1 => ?_
        obtain rfl := Option.some.inj ef1
        exact hN1 _ _ ⟨B3, _, _, _, _, _, rfl, (ex1.trans ex2), st5, nb3, hp3⟩
    ·
      rintro _ H6 ⟨B4, y9, y10, y11, y12, y13, rfl, ex3, st6, nb4, hp4⟩
      replace hp4 : H6 p1 = some (.lst (r_1.map V.int)) := hp4
      have hB_script1 := sq_mono ex3 hB_script1
      have hB2 := ex3 _ _ hB2
      refine q_ret ?_
      refine go (v := (V.ref p1)) (v_var (by rfl)) ?_
      obtain rfl := Option.some.inj e
      exact q _ _ _ _ st6 z1 nb4 hp4 (all2I _)
end K79
/-! walk -/
namespace K79
open PySem PySem.Spec PyProof.Rows L2 Wk RZ ClX
def sp_l_draw (K : PySem.W.Frag) : Sp := fun vs H Q _ => ∃ (B : Hp) (p_stock : Addr) (x_stock : (List Int)) (x_many : Int) (r : (Int × (List Int))), Ex B H ∧ vs = [V.ref p_stock, (V.int x_many)] ∧ B p_stock = none ∧ H p_stock = some (.lst (x_stock.map V.int)) ∧ m_l_draw x_stock x_many = some r ∧ ∀ v B' H', Stp [p_stock] B H B' H' → H' p_stock = some (.lst (r.2.map V.int)) → rI B' v r.1 → Q v H'
theorem ok_l_draw {P : Program} {w : World} {K : PySem.W.Frag} {mg : Str → Option Value} {base : Heap} (E : Tx K mg) : Ok P w K mg base CX0 1 "_law_draw" ["stock", "many"] (sp_l_draw K) := by
  obtain ⟨fd, F⟩ := E.def_ 15 (d := d_l_draw) rfl
  replace F : FunD K "_law_draw" "_law_draw" (defArgs s_l_draw) (defBody s_l_draw) (defScope s_l_draw) [] [] (He.ga K "_law_draw") fd := F
  have g_int : mg "int" = none := E.free 45
  refine ⟨fd, F.ok sc_l_draw (fun vs H Q E h => ?_) (fun cdv A outer s H0 vs Q X hr h => ?_), F.bindsN fun _ _ _ _ _ _ us hl => match us, hl with | [_, _], _ => rfl, F.kp, E.glo 15⟩
  · obtain ⟨_, _, _, _, _, _, rfl, _⟩ := h; rfl
  ·
    obtain ⟨B0, p_stock, x_stock, x_many, r, c0, rfl, nb_stock, hp_stock, e, q⟩ := h
    have st0 : Stp [p_stock] B0 H0 B0 H0 := Stp.refl c0
    unfold m_l_draw at e
    refine ⟨_, PSs.nox ((pss_cons (ps_while PassesOwn.never (PW.pt (pw_and (pt_cmpR (op_neD hr.units) (pv 0) (pe_lst pa_nil) (nomark _)) (pw_and1 (pt_cmpR op_eq (pe_ix ix_list (pv 0) pe_int (fun _ _ => rfl)) pe_int (nomark _))))) (pss_one (ps_expr (pe_bm PySem.F.plainAttrs_list PySem.F.slot_list_pop PySem.F.type_list_pop mt_popAt (pv 0) (pa_cons pe_int pa_nil))))) (pss_cons (ps_if (pt_cmpR (op_eqD hr.units) (pv 0) (pe_lst pa_nil) (nomark _)) (pss_one (ps_ret pe_int)) pss_nil) (pss_cons (ps_set (i := 2) sc_l_draw.nd rfl (by first | exact Or.inl rfl | exact Or.inr rfl) (pe_op op_mod (pe_callTy call_int1 (by rfl) g_int (by decide +kernel) (pa_cons (pe_ix ix_list (pv 0) pe_int (fun _ _ => rfl)) pa_nil)) (pv 1))) (pss_cons (ps_asg (pe_op op_fdivW (pe_callTy call_int1 (by rfl) g_int (by decide +kernel) (pa_cons (pe_ix ix_list (pv 0) pe_int (fun _ _ => rfl)) pa_nil)) (pv 1)) (pg_sub (pv 0) pe_int set_list)) (pss_one (ps_ret (pv 2)))))))), ?_⟩
    refine q_st (σ' := [some (V.ref p_stock), some (V.int x_many), none]) rfl ?_
    refine q_seq ?_
    obtain ⟨r_1, er1, e⟩ := bind_some e
    refine while_N (Inv := fun (s : (List Int)) σ H => ∃ (B : Hp), σ = [some (V.ref p_stock), some (V.int x_many), none] ∧ Ex B0 B ∧ Stp [p_stock] B0 H0 B H ∧ B p_stock = none ∧ H p_stock = some (.lst (s.map V.int))) er1 ?_ ?_ ?_ ?_
    · exact ⟨B0, rfl, (Ex.refl B0), st0, nb_stock, hp_stock⟩
    ·
      rintro c_stock1 b1 _ H1 ⟨B1, rfl, ex1, st1, nb1, hp1⟩ ec1 Q1 q1
      replace hp1 : H1 p_stock = some (.lst (c_stock1.map V.int)) := hp1
      change l_draw_c0  c_stock1 = some b1 at ec1
      unfold l_draw_c0 at ec1
      refine q_and ?_
      refine q_test ?_
      refine q_opR ?_
      refine go (v := (V.ref p_stock)) (v_var (by rfl)) ?_
      refine q_lst ?_
      refine q_nil ?_
      refine ⟨by show _ ≤ 16777216; simp, ?_⟩
      refine al_giv st1.c fun p1 np1 B2 H2 s1 hB1 => ?_
      have nb1 := s1.out nb1 hp1
      have hp1 := s1.h _ _ List.not_mem_nil hp1
      have st2 := st1.t0 s1
      replace hB1 : B2 p1 = some (.lst (([] : (List Int)).map V.int)) := hB1
      refine r2_of (v_neLI hp1 (st2.c _ _ hB1)) ?_
      by_cases hb : (decide (c_stock1 ≠ ([] : (List Int)))) = true
      · have ec1 := if_inv_t hb ec1
        refine ⟨true, by rw [hb], ?_⟩
        refine if_t rfl ?_
        obtain ⟨x_1, e_x_1, ec1⟩ := bind_some ec1
        by_cases hb : (decide (x_1 = (0 : Int))) = true
        · have ec1 := if_inv_t hb ec1
          refine goT (b := true) (Ans.to (v_tb (v_op (v_op (v_var (by rfl)) v_c (v_ixL (Or.inl (Or.inl hp1)) (atI_map e_x_1))) v_c v_eqI)) hb) ?_
          obtain rfl := Option.some.inj ec1
          exact q1 _ ⟨B2, rfl, (ex1.trans s1.b), st2, nb1, hp1⟩
        · have hb := Bool.eq_false_iff.mpr hb
          have ec1 := if_inv_f hb ec1
          refine goT (b := false) (Ans.to (v_tb (v_op (v_op (v_var (by rfl)) v_c (v_ixL (Or.inl (Or.inl hp1)) (atI_map e_x_1))) v_c v_eqI)) hb) ?_
          obtain rfl := Option.some.inj ec1
          exact q1 _ ⟨B2, rfl, (ex1.trans s1.b), st2, nb1, hp1⟩
      · have hb := Bool.eq_false_iff.mpr hb
        have ec1 := if_inv_f hb ec1
        refine ⟨false, by rw [hb], ?_⟩
        refine if_f rfl ?_
        obtain rfl := Option.some.inj ec1
        exact q1 _ ⟨B2, rfl, (ex1.trans s1.b), st2, nb1, hp1⟩
    ·
      rintro c_stock1 t1 _ H3 ⟨B3, rfl, ex2, st3, nb2, hp2⟩ ec2 ef1 N1 hN1
      replace hp2 : H3 p_stock = some (.lst (c_stock1.map V.int)) := hp2
      change l_draw_b0  c_stock1 = some t1 at ef1
      unfold l_draw_b0 at ef1
      refine q_drop ?_
      refine q_bm ?_
      refine go (v := (V.ref p_stock)) (v_var (by rfl)) ?_
      refine ⟨tyL (Or.inl (Or.inl hp2)), ?_⟩
      refine q_cons ?_
      refine go (v := (V.int (0 : Int))) v_c ?_
      refine q_nil ?_
      obtain ⟨z1, e_z1, ef1⟩ := bind_some ef1
      refine pop_go (f := V.int) st3 (Or.inr (by simp)) nb2 hp2 e_z1 fun H4 st4 hp3 kp1 => ?_
      obtain rfl := Option.some.inj ef1
      exact hN1 _ _ ⟨B3, rfl, ex2, st4, nb2, hp3⟩
    ·
      rintro _ H5 ⟨B4, rfl, ex3, st5, nb3, hp4⟩
      replace hp4 : H5 p_stock = some (.lst (r_1.map V.int)) := hp4
      refine q_seq ?_
      refine q_if ?_
      refine q_test ?_
      refine q_opR ?_
      refine go (v := (V.ref p_stock)) (v_var (by rfl)) ?_
      refine q_lst ?_
      refine q_nil ?_
      refine ⟨by show _ ≤ 16777216; simp, ?_⟩
      refine al_giv st5.c fun p2 np2 B5 H6 s2 hB2 => ?_
      have nb3 := s2.out nb3 hp4
      have hp4 := s2.h _ _ List.not_mem_nil hp4
      have st6 := st5.t0 s2
      replace hB2 : B5 p2 = some (.lst (([] : (List Int)).map V.int)) := hB2
      refine r2_of (v_eqLI hp4 (st6.c _ _ hB2)) ?_
      by_cases hb : (decide (r_1 = ([] : (List Int)))) = true
      · have e := if_inv_t hb e
        refine ⟨true, by rw [hb], ?_⟩
        refine if_t rfl ?_
        refine q_ret ?_
        refine go (v := (V.int (0 : Int))) v_c ?_
        obtain rfl := Option.some.inj e
        exact q _ _ _ st6 hp4 rfl
      · have hb := Bool.eq_false_iff.mpr hb
        have e := if_inv_f hb e
        refine ⟨false, by rw [hb], ?_⟩
        refine if_f rfl ?_
        refine q_next ?_
        refine q_seq ?_
        refine q_set ?_
        obtain ⟨x_3, e_x_3, e⟩ := bind_some e
        obtain ⟨q2, e⟩ := ask_some e
        refine go (v := (V.int (x_3 % x_many))) (v_op (v_cb1 (v_op (v_var (by rfl)) v_c (v_ixL (Or.inl (Or.inl hp4)) (atI_map e_x_3))) v_intI) (v_var (by rfl)) (fun _ q => ⟨_, _, rfl, rfl, q2, q⟩)) ?_
        refine q_nx (σ' := [some (V.ref p_stock), some (V.int x_many), some (V.int (x_3 % x_many))]) rfl ?_
        refine q_seq ?_
        refine q_asgsub ?_
        obtain ⟨x_4, e_x_4, e⟩ := bind_some e
        obtain ⟨q3, e⟩ := ask_some e
        refine go (v := (V.int (x_4 / x_many))) (v_op (v_cb1 (v_op (v_var (by rfl)) v_c (v_ixL (Or.inl (Or.inl hp4)) (atI_map e_x_4))) v_intI) (v_var (by rfl)) (fun _ q => ⟨_, _, rfl, rfl, sdiv_ok q3, q⟩)) ?_
        refine go (v := (V.ref p_stock)) (v_var (by rfl)) ?_
        refine go (v := (V.int (0 : Int))) v_c ?_
        obtain ⟨z2, e_z2, e⟩ := bind_some e
        refine set_go (f := V.int) st6 (Or.inr (by simp)) nb3 hp4 e_z2 fun H7 st7 hp5 kp2 => ?_
        refine q_nx (σ' := [some (V.ref p_stock), some (V.int x_many), some (V.int (x_3 % x_many))]) rfl ?_
        refine q_ret ?_
        refine go (v := (V.int (x_3 % x_many))) (v_var (by rfl)) ?_
        obtain rfl := Option.some.inj e
        exact q _ _ _ st7 hp5 rfl
end K79
/-! walk -/
namespace K79
open PySem PySem.Spec PyProof.Rows L2 Wk RZ ClX
def sp_l_pickI (K : PySem.W.Frag) : Sp := fun vs H Q _ => ∃ (B : Hp) (p_stock : Addr) (x_stock : (List Int)) (v_menu : V) (x_menu : (List Int)) (r : (Int × (List Int))), Ex B H ∧ vs = [V.ref p_stock, v_menu] ∧ B p_stock = none ∧ H p_stock = some (.lst (x_stock.map V.int)) ∧ (rL rI) B v_menu x_menu ∧ m_l_pickI x_stock x_menu = some r ∧ ∀ v B' H', Stp [p_stock] B H B' H' → H' p_stock = some (.lst (r.2.map V.int)) → rI B' v r.1 → Q v H'
theorem ok_l_pickI {P : Program} {w : World} {K : PySem.W.Frag} {mg : Str → Option Value} {base : Heap} (E : Tx K mg) : Ok P w K mg base CX0 2 "_law_pick" ["stock", "menu"] (sp_l_pickI K) := by
  obtain ⟨fd, F⟩ := E.def_ 18 (d := d_l_pickS) rfl
  replace F : FunD K "_law_pick" "_law_pick" (defArgs s_l_pickS) (defBody s_l_pickS) (defScope s_l_pickS) [] [] (He.ga K "_law_pick") fd := F
  obtain ⟨fd_l_draw, G_l_draw, b_l_draw, kp_l_draw, m_l_draw⟩ := ok_l_draw (P := P) (w := w) (base := base) E
  have g_len : mg "len" = none := E.free 41
  refine ⟨fd, F.ok sc_l_pickS (fun vs H Q E h => ?_) (fun cdv A outer s H0 vs Q X hr h => ?_), F.bindsN fun _ _ _ _ _ _ us hl => match us, hl with | [_, _], _ => rfl, F.kp, E.glo 18⟩
  · obtain ⟨_, _, _, _, _, _, _, rfl, _⟩ := h; rfl
  ·
    obtain ⟨B0, p_stock, x_stock, v_menu, x_menu, r, c0, rfl, nb_stock, hp_stock, h_menu, e, q⟩ := h
    obtain ⟨a_menu1, vs_menu1, rfl, hB_menu1, hA_menu1⟩ := h_menu
    obtain rfl := all2_I hA_menu1
    have st0 : Stp [p_stock] B0 H0 B0 H0 := Stp.refl c0
    unfold m_l_pickI at e
    refine ⟨_, PSs.nox ((pss_one (ps_ret (pe_ix ix_list (pv 1) (pe_call G_l_draw (hr.mono (by decide)) (by rfl) m_l_draw kp_l_draw b_l_draw .nil pass0 (pa_cons (pv 0) (pa_cons (pe_callB call_len_seq (by rfl) g_len PySem.boot_len (pa_cons (pv 1) pa_nil)) pa_nil))) (fun _ _ => rfl))))), ?_⟩
    refine q_st (σ' := [some (V.ref p_stock), some (V.ref a_menu1)]) rfl ?_
    refine q_ret ?_
    refine q_opR ?_
    refine go (v := (V.ref a_menu1)) (v_var (by rfl)) ?_
    refine q_call ?_
    refine q_cons ?_
    refine go (v := (V.ref p_stock)) (v_var (by rfl)) ?_
    refine q_cons ?_
    refine go (v := (V.int (x_menu.length : Int))) (v_cb1 (v_var (by rfl)) (v_lenL (Or.inl (Or.inl (Or.inl (st0.c _ _ hB_menu1)))) (by simp))) ?_
    refine q_nil ?_
    obtain ⟨r_1, e_r_1, e⟩ := bind_some e
    refine ⟨B0, p_stock, x_stock, (x_menu.length : Int), r_1, st0.c, rfl, nb_stock, hp_stock, e_r_1, ?_⟩
    intro v1 B1 H1 s1 hp1 h1
    obtain rfl := h1
    have s2 := s1.keepB st0.c (nin_all nb_stock)
    have st1 := st0.trans s2 (fun _ z => z)
    obtain ⟨x_1, e_x_1, e⟩ := bind_some e
    refine r2_of (v_ixL (Or.inl (Or.inl (st1.c _ _ hB_menu1))) (atI_map e_x_1)) ?_
    obtain rfl := Option.some.inj e
    exact q _ _ _ st1 hp1 rfl
end K79
/-! walk -/
namespace K79
open PySem PySem.Spec PyProof.Rows L2 Wk RZ ClX
def sp_l_small (K : PySem.W.Frag) : Sp := fun vs H Q _ => ∃ (B : Hp)  (r : (List Nat)), Ex B H ∧ vs = [] ∧ m_l_small  = some r ∧ ∀ v B' H', Stp [] B H B' H' → rS B' v r → Q v H'
theorem ok_l_small {P : Program} {w : World} {K : PySem.W.Frag} {mg : Str → Option Value} {base : Heap} (E : Tx K mg) : Ok P w K mg base CX0 1 "_law_small" [] (sp_l_small K) := by
  obtain ⟨fd, F⟩ := E.def_ 17 (d := d_l_small) rfl
  replace F : FunD K "_law_small" "_law_small" (defArgs s_l_small) (defBody s_l_small) (defScope s_l_small) [] [] (He.ga K "_law_small") fd := F
  refine ⟨fd, F.ok sc_l_small (fun vs H Q E h => ?_) (fun cdv A outer s H0 vs Q X hr h => ?_), F.bindsN fun _ _ _ _ _ _ us hl => match us, hl with | [], _ => rfl, F.kp, E.glo 17⟩
  · obtain ⟨_, _, _, rfl, _⟩ := h; rfl
  ·
    obtain ⟨B0, r, c0, rfl, e, q⟩ := h
    have st0 : Stp [] B0 H0 B0 H0 := Stp.refl c0
    unfold m_l_small at e
    refine ⟨_, PSs.nox ((pss_one (ps_ret pe_str))), ?_⟩
    refine q_st (σ' := []) rfl ?_
    refine q_ret ?_
    refine go (v := (tS ([97, 98, 99, 100, 101, 102, 103, 104, 105, 106, 107, 108, 109, 110, 111, 112, 113, 114, 115, 116, 117, 118, 119, 120, 121, 122] : List Nat))) v_c ?_
    obtain rfl := Option.some.inj e
    exact q _ _ _ st0 rfl
end K79
/-! walk -/
namespace K79
open PySem PySem.Spec PyProof.Rows L2 Wk RZ ClX
def sp_l_fresh (K : PySem.W.Frag) : Sp := fun vs H Q _ => ∃ (B : Hp) (p_stock : Addr) (x_stock : (List Int)) (x_signs : (List Nat)) (v_taken : V) (x_taken : (List (List Nat))) (r : ((List Nat) × (List Int))), Ex B H ∧ vs = [V.ref p_stock, (tS x_signs), v_taken] ∧ B p_stock = none ∧ H p_stock = some (.lst (x_stock.map V.int)) ∧ (rL rS) B v_taken x_taken ∧ m_l_fresh x_stock x_signs x_taken = some r ∧ ∀ v B' H', Stp [p_stock] B H B' H' → H' p_stock = some (.lst (r.2.map V.int)) → rS B' v r.1 → Q v H'
theorem ok_l_fresh {P : Program} {w : World} {K : PySem.W.Frag} {mg : Str → Option Value} {base : Heap} (E : Tx K mg) : Ok P w K mg base CX0 2 "_law_fresh" ["stock", "signs", "taken"] (sp_l_fresh K) := by
  obtain ⟨fd, F⟩ := E.def_ 16 (d := d_l_fresh) rfl
  replace F : FunD K "_law_fresh" "_law_fresh" (defArgs s_l_fresh) (defBody s_l_fresh) (defScope s_l_fresh) [] [] (He.ga K "_law_fresh") fd := F
  obtain ⟨fd_l_draw, G_l_draw, b_l_draw, kp_l_draw, m_l_draw⟩ := ok_l_draw (P := P) (w := w) (base := base) E
  have g_len : mg "len" = none := E.free 41
  have g_range : mg "range" = none := E.free 42
  have g_int : mg "int" = none := E.free 45
  refine ⟨fd, F.ok sc_l_fresh (fun vs H Q E h => ?_) (fun cdv A outer s H0 vs Q X hr h => ?_), F.bindsN fun _ _ _ _ _ _ us hl => match us, hl with | [_, _, _], _ => rfl, F.kp, E.glo 16⟩
  · obtain ⟨_, _, _, _, _, _, _, _, rfl, _⟩ := h; rfl
  ·
    obtain ⟨B0, p_stock, x_stock, x_signs, v_taken, x_taken, r, c0, rfl, nb_stock, hp_stock, h_taken, e, q⟩ := h
    obtain ⟨a_taken1, vs_taken1, rfl, hB_taken1, hA_taken1⟩ := h_taken
    obtain rfl := all2_S hA_taken1
    have st0 : Stp [p_stock] B0 H0 B0 H0 := Stp.refl c0
    unfold m_l_fresh at e
    refine ⟨_, PSs.nox ((pss_cons (ps_set (i := 3) sc_l_fresh.nd rfl (by first | exact Or.inl rfl | exact Or.inr rfl) (pe_call G_l_draw (hr.mono (by decide)) (by rfl) m_l_draw kp_l_draw b_l_draw .nil pass0 (pa_cons (pv 0) (pa_cons (pe_callB call_len_str (by rfl) g_len PySem.boot_len (pa_cons (pv 1) pa_nil)) pa_nil)))) (pss_cons (ps_for PassesOwn.never rfl (pi_range1 (by rfl) g_range (pa_cons (pe_callB call_len_str (by rfl) g_len PySem.boot_len (pa_cons (pv 1) pa_nil)) pa_nil)) (pg_name (i := 4) sc_l_fresh.nd rfl (by first | exact Or.inl rfl | exact Or.inr rfl)) (pss_cons (ps_set (i := 5) sc_l_fresh.nd rfl (by first | exact Or.inl rfl | exact Or.inr rfl) (pe_ix ix_str (pv 1) (pe_op op_mod (pe_callTy call_int1 (by rfl) g_int (by decide +kernel) (pa_cons (pe_op op_add (pv 3) (pv 4)) pa_nil)) (pe_callB call_len_str (by rfl) g_len PySem.boot_len (pa_cons (pv 1) pa_nil))) (fun _ _ => rfl))) (pss_one (ps_if (pt_cmpR op_notIn_seq (pv 5) (pv 2) (by rfl)) (pss_one (ps_ret (pv 5))) pss_nil)))) (pss_one (ps_ret (pe_ix ix_str (pv 1) pe_int (fun _ _ => rfl))))))), ?_⟩
    refine q_st (σ' := [some (V.ref p_stock), some (tS x_signs), some (V.ref a_taken1), none, none, none]) rfl ?_
    refine q_seq ?_
    refine q_set ?_
    refine q_call ?_
    refine q_cons ?_
    refine go (v := (V.ref p_stock)) (v_var (by rfl)) ?_
    refine q_cons ?_
    obtain ⟨q1, e⟩ := ask_some e
    refine go (v := (V.int (x_signs.length : Int))) (v_cb1 (v_var (by rfl)) (v_lenS q1)) ?_
    refine q_nil ?_
    obtain ⟨r_1, e_r_1, e⟩ := bind_some e
    refine ⟨B0, p_stock, x_stock, (x_signs.length : Int), r_1, st0.c, rfl, nb_stock, hp_stock, e_r_1, ?_⟩
    intro v1 B1 H1 s1 hp1 h1
    obtain rfl := h1
    have s2 := s1.keepB st0.c (nin_all nb_stock)
    have st1 := st0.trans s2 (fun _ z => z)
    refine q_nx (σ' := [some (V.ref p_stock), some (tS x_signs), some (V.ref a_taken1), some (V.int r_1.1), none, none]) rfl ?_
    refine q_seq ?_
    refine q_for ?_
    refine q_rng1 ?_
    refine q_cons ?_
    obtain ⟨q2, e⟩ := ask_some e
    refine go (v := (V.int (x_signs.length : Int))) (v_cb1 (v_var (by rfl)) (v_lenS q2)) ?_
    refine q_nil ?_
    obtain ⟨q3, e⟩ := ask_some e
    refine ⟨_, rfl, q3.1, q3.2, ?_⟩
    obtain ⟨r_2, er1, e⟩ := bind_some e
    refine for_R (Inv := fun (s : Unit) σ H => ∃ (B : Hp) (y_k : Option V) (y_sign : Option V), σ = [some (V.ref p_stock), some (tS x_signs), some (V.ref a_taken1), some (V.int r_1.1), y_k, y_sign] ∧ Ex B0 B ∧ Stp [p_stock] B0 H0 B H ∧ B p_stock = none ∧ H p_stock = some (.lst (r_1.2.map V.int))) er1 ?_ ?_ ?_ ?_ ?_
    · exact ⟨B0, _, _, rfl, (Ex.refl B0), st1, nb_stock, hp1⟩
    · exact rng0_st
    · exact rng0_go
    ·
      rintro i1 x1 _ t1 _ H2 hx1 ⟨B2, y1, y2, rfl, ex1, st2, nb1, hp2⟩ ef1 v2 Hy1 hy1 N1 _ hN1
      replace hp2 : H2 p_stock = some (.lst (r_1.2.map V.int)) := hp2
      have hB_taken1 := ex1 _ _ hB_taken1
      change l_fresh_b0 x_signs r_1 x_taken x1  = some t1 at ef1
      unfold l_fresh_b0 at ef1
      obtain ⟨rfl, rfl⟩ := rng0_yld hy1 hx1
      refine q_gname ?_
      refine q_st (σ' := [some (V.ref p_stock), some (tS x_signs), some (V.ref a_taken1), some (V.int r_1.1), some (V.int x1), y2]) rfl ?_
      refine q_seq ?_
      refine q_set ?_
      obtain ⟨q4, ef1⟩ := ask_some ef1
      obtain ⟨q5, ef1⟩ := ask_some ef1
      obtain ⟨q6, ef1⟩ := ask_some ef1
      obtain ⟨c_1, e_c_1, ef1⟩ := bind_some ef1
      refine go (v := (tS [c_1])) (v_op (v_var (by rfl)) (v_op (v_cb1 (v_op (v_var (by rfl)) (v_var (by rfl)) (fun _ q => ⟨_, _, rfl, rfl, q⟩)) v_intI) (v_cb1 (v_var (by rfl)) (v_lenS q4)) (fun _ q => ⟨_, _, rfl, rfl, q5, q⟩)) (v_ixS q6 e_c_1)) ?_
      refine q_nx (σ' := [some (V.ref p_stock), some (tS x_signs), some (V.ref a_taken1), some (V.int r_1.1), some (V.int x1), some (tS [c_1])]) rfl ?_
      refine q_if ?_
      by_cases hb : (!x_taken.contains [c_1]) = true
      · have ef1 := if_inv_t hb ef1
        refine goT (b := true) (Ans.to (v_tb (v_op (v_var (by rfl)) (v_var (by rfl)) (v_ninS (Or.inl (Or.inl (Or.inl (st2.c _ _ hB_taken1))))))) hb) ?_
        refine if_t rfl ?_
        refine q_ret ?_
        refine go (v := (tS [c_1])) (v_var (by rfl)) ?_
        obtain rfl := Option.some.inj ef1
        rw [hN1] at e
        replace e := fin_rt e
        obtain rfl := Option.some.inj e
        exact q _ _ _ st2 hp2 rfl
      · have hb := Bool.eq_false_iff.mpr hb
        have ef1 := if_inv_f hb ef1
        refine goT (b := false) (Ans.to (v_tb (v_op (v_var (by rfl)) (v_var (by rfl)) (v_ninS (Or.inl (Or.inl (Or.inl (st2.c _ _ hB_taken1))))))) hb) ?_
        refine if_f rfl ?_
        refine q_next ?_
        obtain rfl := Option.some.inj ef1
        exact hN1 _ _ ⟨B2, _, _, rfl, ex1, st2, nb1, hp2⟩
    ·
      rintro s3 _ H3 hz1 ⟨B3, y3, y4, rfl, ex2, st3, nb2, hp3⟩
      replace hp3 : H3 p_stock = some (.lst (r_1.2.map V.int)) := hp3
      have hB_taken1 := ex2 _ _ hB_taken1
      rw [hz1] at e
      replace e := fin_nx e
      refine q_ret ?_
      obtain ⟨q7, e⟩ := ask_some e
      obtain ⟨c_2, e_c_2, e⟩ := bind_some e
      refine go (v := (tS [c_2])) (v_op (v_var (by rfl)) v_c (v_ixS q7 e_c_2)) ?_
      obtain rfl := Option.some.inj e
      exact q _ _ _ st3 hp3 rfl
end K79
/-! walk -/
namespace K79
open PySem PySem.Spec PyProof.Rows L2 Wk RZ ClX
def sp_l_letters (K : PySem.W.Frag) : Sp := fun vs H Q _ => ∃ (B : Hp) (p_stock : Addr) (x_stock : (List Int)) (x_count : Int) (r : ((List (List Nat)) × (List Int))), Ex B H ∧ vs = [V.ref p_stock, (V.int x_count)] ∧ B p_stock = none ∧ H p_stock = some (.lst (x_stock.map V.int)) ∧ m_l_letters x_stock x_count = some r ∧ ∀ v B' H', Stp [p_stock] B H B' H' → H' p_stock = some (.lst (r.2.map V.int)) → (rL rS) B' v r.1 → Q v H'
theorem ok_l_letters {P : Program} {w : World} {K : PySem.W.Frag} {mg : Str → Option Value} {base : Heap} (E : Tx K mg) : Ok P w K mg base CX0 3 "_law_letters" ["stock", "count"] (sp_l_letters K) := by
  obtain ⟨fd, F⟩ := E.def_ 21 (d := d_l_letters) rfl
  replace F : FunD K "_law_letters" "_law_letters" (defArgs s_l_letters) (defBody s_l_letters) (defScope s_l_letters) [] [] (He.ga K "_law_letters") fd := F
  obtain ⟨fd_l_small, G_l_small, b_l_small, kp_l_small, m_l_small⟩ := ok_l_small (P := P) (w := w) (base := base) E
  obtain ⟨fd_l_fresh, G_l_fresh, b_l_fresh, kp_l_fresh, m_l_fresh⟩ := ok_l_fresh (P := P) (w := w) (base := base) E
  have g_range : mg "range" = none := E.free 42
  refine ⟨fd, F.ok sc_l_letters (fun vs H Q E h => ?_) (fun cdv A outer s H0 vs Q X hr h => ?_), F.bindsN fun _ _ _ _ _ _ us hl => match us, hl with | [_, _], _ => rfl, F.kp, E.glo 21⟩
  · obtain ⟨_, _, _, _, _, _, rfl, _⟩ := h; rfl
  ·
    obtain ⟨B0, p_stock, x_stock, x_count, r, c0, rfl, nb_stock, hp_stock, e, q⟩ := h
    have st0 : Stp [p_stock] B0 H0 B0 H0 := Stp.refl c0
    unfold m_l_letters at e
    refine ⟨_, PSs.nox ((pss_cons (ps_set (i := 2) sc_l_letters.nd rfl (by first | exact Or.inl rfl | exact Or.inr rfl) (pe_lst pa_nil)) (pss_cons (ps_for PassesOwn.never rfl (pi_range1 (by rfl) g_range (pa_cons (pv 1) pa_nil)) (pg_name (i := 3) sc_l_letters.nd rfl (by first | exact Or.inl rfl | exact Or.inr rfl)) (pss_one (ps_expr (pe_bm PySem.F.plainAttrs_list PySem.F.slot_list_append PySem.F.type_list_append mt_append (pv 2) (pa_cons (pe_call G_l_fresh (hr.mono (by decide)) (by rfl) m_l_fresh kp_l_fresh b_l_fresh .nil pass0 (pa_cons (pv 0) (pa_cons (pe_call0 G_l_small (hr.mono (by decide)) (by rfl) m_l_small kp_l_small b_l_small .nil pass0) (pa_cons (pv 2) pa_nil)))) pa_nil))))) (pss_one (ps_ret (pv 2)))))), ?_⟩
    refine q_st (σ' := [some (V.ref p_stock), some (V.int x_count), none, none]) rfl ?_
    refine q_seq ?_
    refine q_set ?_
    refine q_lst ?_
    refine q_nil ?_
    refine ⟨by show _ ≤ 16777216; simp, ?_⟩
    refine al_own st0.c fun p1 np1 H1 s1 hB1 nb1 => ?_
    have z1 := st0.g _ np1
    have ne1 : p_stock ≠ p1 := ne_none hp_stock np1
    have hp_stock := s1.h _ _ List.not_mem_nil hp_stock
    have st1 := st0.t0 s1
    replace hB1 : H1 p1 = some (.lst (([] : (List (List Nat))).map tS)) := hB1
    refine q_nx (σ' := [some (V.ref p_stock), some (V.int x_count), some (V.ref p1), none]) rfl ?_
    refine q_seq ?_
    refine q_for ?_
    refine q_rng1 ?_
    refine q_cons ?_
    refine go (v := (V.int x_count)) (v_var (by rfl)) ?_
    refine q_nil ?_
    obtain ⟨q1, e⟩ := ask_some e
    refine ⟨_, rfl, q1.1, q1.2, ?_⟩
    obtain ⟨r_1, er1, e⟩ := bind_some e
    refine for_N (Inv := fun (s : ((List Int) × (List (List Nat)))) σ H => ∃ (B : Hp) (y_k : Option V), σ = [some (V.ref p_stock), some (V.int x_count), some (V.ref p1), y_k] ∧ Ex B0 B ∧ Stp [p_stock] B0 H0 B H ∧ B p_stock = none ∧ H p_stock = some (.lst (s.1.map V.int)) ∧ B p1 = none ∧ H p1 = some (.lst (s.2.map tS))) er1 ?_ ?_ ?_ ?_ ?_
    · exact ⟨B0, _, rfl, (Ex.refl B0), st1, nb_stock, hp_stock, nb1, hB1⟩
    · exact rng0_st
    · exact rng0_go
    ·
      rintro i1 x1 ⟨c_stock1, c_letters1⟩ t1 _ H2 hx1 ⟨B1, y1, rfl, ex1, st2, nb2, hp1, nb3, hp2⟩ ef1 v1 Hy1 hy1 N1 hN1
      replace hp1 : H2 p_stock = some (.lst (c_stock1.map V.int)) := hp1
      replace hp2 : H2 p1 = some (.lst (c_letters1.map tS)) := hp2
      change l_letters_b0  x1 c_stock1 c_letters1 = some t1 at ef1
      unfold l_letters_b0 at ef1
      obtain ⟨rfl, rfl⟩ := rng0_yld hy1 hx1
      refine q_gname ?_
      refine q_st (σ' := [some (V.ref p_stock), some (V.int x_count), some (V.ref p1), some (V.int x1)]) rfl ?_
      refine q_drop ?_
      refine q_bm ?_
      refine go (v := (V.ref p1)) (v_var (by rfl)) ?_
      refine ⟨tyL (Or.inl (Or.inl hp2)), ?_⟩
      refine q_cons ?_
      refine q_call ?_
      refine q_cons ?_
      refine go (v := (V.ref p_stock)) (v_var (by rfl)) ?_
      refine q_cons ?_
      refine q_call ?_
      refine q_nil ?_
      obtain ⟨r_2, e_r_2, ef1⟩ := bind_some ef1
      refine ⟨B1, r_2, st2.c, rfl, e_r_2, ?_⟩
      intro v2 B2 H3 s2 h1
      obtain rfl := h1
      have s3 := s2.keepB st2.c (fun _ z => absurd z List.not_mem_nil)
      have hp1 := s3.h _ _ List.not_mem_nil hp1
      have hp2 := s3.h _ _ List.not_mem_nil hp2
      have st3 := st2.t0 s3
      refine q_cons ?_
      refine go (v := (V.ref p1)) (v_var (by rfl)) ?_
      refine q_nil ?_
      obtain ⟨r_3, e_r_3, ef1⟩ := bind_some ef1
      refine ⟨(upd B1 p1 (.lst (c_letters1.map tS))), p_stock, c_stock1, r_2, (V.ref p1), c_letters1, r_3, (ex_lent st3.c hp2), rfl, (upd_none ne1 nb2), hp1, ⟨p1, _, rfl, upd_same, all2S _⟩, e_r_3, ?_⟩
      intro v3 B3 H4 s4 hp3 h2
      obtain rfl := h2
      have s5 := s4.keepB st3.c (nin_all nb2)
      have hp2 := s5.h _ _ (nin1 (Ne.symm ne1)) hp2
      have st4 := st3.trans s5 (fun _ z => z)
      refine q_nil ?_
      obtain ⟨q2, ef1⟩ := ask_some ef1
      refine ap_goF (f := tS) st4 (Or.inl z1) nb3 hp2 q2 fun H5 st5 hp4 kp1 => ?_
      have hp3 := kp1 _ _ ne1 hp3
      obtain rfl := Option.some.inj ef1
      exact hN1 _ _ ⟨B1, _, rfl, ex1, st5, nb2, hp3, nb3, hp4⟩
    ·
      rintro _ H6 ⟨B4, y2, rfl, ex2, st6, nb4, hp5, nb5, hp6⟩
      replace hp5 : H6 p_stock = some (.lst (r_1.1.map V.int)) := hp5
      replace hp6 : H6 p1 = some (.lst (r_1.2.map tS)) := hp6
      refine q_ret ?_
      refine go (v := (V.ref p1)) (v_var (by rfl)) ?_
      obtain ⟨B5, st7, ex3, hB2, out1⟩ := give st6 hp6 z1
      have nb4 := out1 _ ne1 nb4
      obtain rfl := Option.some.inj e
      exact q _ _ _ st7 hp5 (⟨p1, _, rfl, hB2, all2S _⟩)
end K79
/-! walk -/
namespace K79
open PySem PySem.Spec PyProof.Rows L2 Wk RZ ClX
def sp_l_pickS (K : PySem.W.Frag) : Sp := fun vs H Q _ => ∃ (B : Hp) (p_stock : Addr) (x_stock : (List Int)) (v_menu : V) (x_menu : (List (List Nat))) (r : ((List Nat) × (List Int))), Ex B H ∧ vs = [V.ref p_stock, v_menu] ∧ B p_stock = none ∧ H p_stock = some (.lst (x_stock.map V.int)) ∧ (rL rS) B v_menu x_menu ∧ m_l_pickS x_stock x_menu = some r ∧ ∀ v B' H', Stp [p_stock] B H B' H' → H' p_stock = some (.lst (r.2.map V.int)) → rS B' v r.1 → Q v H'
theorem ok_l_pickS {P : Program} {w : World} {K : PySem.W.Frag} {mg : Str → Option Value} {base : Heap} (E : Tx K mg) : Ok P w K mg base CX0 2 "_law_pick" ["stock", "menu"] (sp_l_pickS K) := by
  obtain ⟨fd, F⟩ := E.def_ 18 (d := d_l_pickS) rfl
  replace F : FunD K "_law_pick" "_law_pick" (defArgs s_l_pickS) (defBody s_l_pickS) (defScope s_l_pickS) [] [] (He.ga K "_law_pick") fd := F
  obtain ⟨fd_l_draw, G_l_draw, b_l_draw, kp_l_draw, m_l_draw⟩ := ok_l_draw (P := P) (w := w) (base := base) E
  have g_len : mg "len" = none := E.free 41
  refine ⟨fd, F.ok sc_l_pickS (fun vs H Q E h => ?_) (fun cdv A outer s H0 vs Q X hr h => ?_), F.bindsN fun _ _ _ _ _ _ us hl => match us, hl with | [_, _], _ => rfl, F.kp, E.glo 18⟩
  · obtain ⟨_, _, _, _, _, _, _, rfl, _⟩ := h; rfl
  ·
    obtain ⟨B0, p_stock, x_stock, v_menu, x_menu, r, c0, rfl, nb_stock, hp_stock, h_menu, e, q⟩ := h
    obtain ⟨a_menu1, vs_menu1, rfl, hB_menu1, hA_menu1⟩ := h_menu
    obtain rfl := all2_S hA_menu1
    have st0 : Stp [p_stock] B0 H0 B0 H0 := Stp.refl c0
    unfold m_l_pickS at e
    refine ⟨_, PSs.nox ((pss_one (ps_ret (pe_ix ix_list (pv 1) (pe_call G_l_draw (hr.mono (by decide)) (by rfl) m_l_draw kp_l_draw b_l_draw .nil pass0 (pa_cons (pv 0) (pa_cons (pe_callB call_len_seq (by rfl) g_len PySem.boot_len (pa_cons (pv 1) pa_nil)) pa_nil))) (fun _ _ => rfl))))), ?_⟩
    refine q_st (σ' := [some (V.ref p_stock), some (V.ref a_menu1)]) rfl ?_
    refine q_ret ?_
    refine q_opR ?_
    refine go (v := (V.ref a_menu1)) (v_var (by rfl)) ?_
    refine q_call ?_
    refine q_cons ?_
    refine go (v := (V.ref p_stock)) (v_var (by rfl)) ?_
    refine q_cons ?_
    refine go (v := (V.int (x_menu.length : Int))) (v_cb1 (v_var (by rfl)) (v_lenL (Or.inl (Or.inl (Or.inl (st0.c _ _ hB_menu1)))) (by simp))) ?_
    refine q_nil ?_
    obtain ⟨r_1, e_r_1, e⟩ := bind_some e
    refine ⟨B0, p_stock, x_stock, (x_menu.length : Int), r_1, st0.c, rfl, nb_stock, hp_stock, e_r_1, ?_⟩
    intro v1 B1 H1 s1 hp1 h1
    obtain rfl := h1
    have s2 := s1.keepB st0.c (nin_all nb_stock)
    have st1 := st0.trans s2 (fun _ z => z)
    obtain ⟨x_1, e_x_1, e⟩ := bind_some e
    refine r2_of (v_ixL (Or.inl (Or.inl (st1.c _ _ hB_menu1))) (atI_map e_x_1)) ?_
    obtain rfl := Option.some.inj e
    exact q _ _ _ st1 hp1 rfl
end K79
/-! walk -/
namespace K79
open PySem PySem.Spec PyProof.Rows L2 Wk RZ ClX
def sp_l_text (K : PySem.W.Frag) : Sp := fun vs H Q _ => ∃ (B : Hp) (p_stock : Addr) (x_stock : (List Int)) (x_size : Int) (v_letters : V) (x_letters : (List (List Nat))) (r : ((List Nat) × (List Int))), Ex B H ∧ vs = [V.ref p_stock, (V.int x_size), v_letters] ∧ B p_stock = none ∧ H p_stock = some (.lst (x_stock.map V.int)) ∧ (rL rS) B v_letters x_letters ∧ m_l_text x_stock x_size x_letters = some r ∧ ∀ v B' H', Stp [p_stock] B H B' H' → H' p_stock = some (.lst (r.2.map V.int)) → rS B' v r.1 → Q v H'
theorem ok_l_text {P : Program} {w : World} {K : PySem.W.Frag} {mg : Str → Option Value} {base : Heap} (E : Tx K mg) : Ok P w K mg base CX0 3 "_law_text" ["stock", "size", "letters"] (sp_l_text K) := by
  obtain ⟨fd, F⟩ := E.def_ 19 (d := d_l_text) rfl
  replace F : FunD K "_law_text" "_law_text" (defArgs s_l_text) (defBody s_l_text) (defScope s_l_text) [] [] (He.ga K "_law_text") fd := F
  obtain ⟨fd_l_pickS, G_l_pickS, b_l_pickS, kp_l_pickS, m_l_pickS⟩ := ok_l_pickS (P := P) (w := w) (base := base) E
  have g_range : mg "range" = none := E.free 42
  refine ⟨fd, F.ok sc_l_text (fun vs H Q E h => ?_) (fun cdv A outer s H0 vs Q X hr h => ?_), F.bindsN fun _ _ _ _ _ _ us hl => match us, hl with | [_, _, _], _ => rfl, F.kp, E.glo 19⟩
  · obtain ⟨_, _, _, _, _, _, _, _, rfl, _⟩ := h; rfl
  ·
    obtain ⟨B0, p_stock, x_stock, x_size, v_letters, x_letters, r, c0, rfl, nb_stock, hp_stock, h_letters, e, q⟩ := h
    obtain ⟨a_letters1, vs_letters1, rfl, hB_letters1, hA_letters1⟩ := h_letters
    obtain rfl := all2_S hA_letters1
    have st0 : Stp [p_stock] B0 H0 B0 H0 := Stp.refl c0
    unfold m_l_text at e
    refine ⟨_, PSs.nox ((pss_cons (ps_set (i := 3) sc_l_text.nd rfl (by first | exact Or.inl rfl | exact Or.inr rfl) pe_str) (pss_cons (ps_for PassesOwn.never rfl (pi_range1 (by rfl) g_range (pa_cons (pv 1) pa_nil)) (pg_name (i := 4) sc_l_text.nd rfl (by first | exact Or.inl rfl | exact Or.inr rfl)) (pss_one (ps_set (i := 3) sc_l_text.nd rfl (by first | exact Or.inl rfl | exact Or.inr rfl) (pe_op op_add_str (pv 3) (pe_call G_l_pickS (hr.mono (by decide)) (by rfl) m_l_pickS kp_l_pickS b_l_pickS .nil pass0 (pa_cons (pv 0) (pa_cons (pv 2) pa_nil))))))) (pss_one (ps_ret (pv 3)))))), ?_⟩
    refine q_st (σ' := [some (V.ref p_stock), some (V.int x_size), some (V.ref a_letters1), none, none]) rfl ?_
    refine q_seq ?_
    refine q_set ?_
    refine go (v := (tS ([] : List Nat))) v_c ?_
    refine q_nx (σ' := [some (V.ref p_stock), some (V.int x_size), some (V.ref a_letters1), some (tS ([] : List Nat)), none]) rfl ?_
    refine q_seq ?_
    refine q_for ?_
    refine q_rng1 ?_
    refine q_cons ?_
    refine go (v := (V.int x_size)) (v_var (by rfl)) ?_
    refine q_nil ?_
    obtain ⟨q1, e⟩ := ask_some e
    refine ⟨_, rfl, q1.1, q1.2, ?_⟩
    obtain ⟨r_1, er1, e⟩ := bind_some e
    refine for_N (Inv := fun (s : ((List Int) × (List Nat))) σ H => ∃ (B : Hp) (y_k : Option V), σ = [some (V.ref p_stock), some (V.int x_size), some (V.ref a_letters1), some (tS s.2), y_k] ∧ Ex B0 B ∧ Stp [p_stock] B0 H0 B H ∧ B p_stock = none ∧ H p_stock = some (.lst (s.1.map V.int))) er1 ?_ ?_ ?_ ?_ ?_
    · exact ⟨B0, _, rfl, (Ex.refl B0), st0, nb_stock, hp_stock⟩
    · exact rng0_st
    · exact rng0_go
    ·
      rintro i1 x1 ⟨c_stock1, c_text1⟩ t1 _ H1 hx1 ⟨B1, y1, rfl, ex1, st1, nb1, hp1⟩ ef1 v1 Hy1 hy1 N1 hN1
      replace hp1 : H1 p_stock = some (.lst (c_stock1.map V.int)) := hp1
      have hB_letters1 := ex1 _ _ hB_letters1
      change l_text_b0 x_letters x1 c_stock1 c_text1 = some t1 at ef1
      unfold l_text_b0 at ef1
      obtain ⟨rfl, rfl⟩ := rng0_yld hy1 hx1
      refine q_gname ?_
      refine q_st (σ' := [some (V.ref p_stock), some (V.int x_size), some (V.ref a_letters1), some (tS c_text1), some (V.int x1)]) rfl ?_
      refine q_set ?_
      refine q_opR ?_
      refine go (v := (tS c_text1)) (v_var (by rfl)) ?_
      refine q_call ?_
      refine q_cons ?_
      refine go (v := (V.ref p_stock)) (v_var (by rfl)) ?_
      refine q_cons ?_
      refine go (v := (V.ref a_letters1)) (v_var (by rfl)) ?_
      refine q_nil ?_
      obtain ⟨r_2, e_r_2, ef1⟩ := bind_some ef1
      refine ⟨B1, p_stock, c_stock1, (V.ref a_letters1), x_letters, r_2, st1.c, rfl, nb1, hp1, ⟨a_letters1, _, rfl, hB_letters1, all2S _⟩, e_r_2, ?_⟩
      intro v2 B2 H2 s1 hp2 h1
      obtain rfl := h1
      have s2 := s1.keepB st1.c (nin_all nb1)
      have st2 := st1.trans s2 (fun _ z => z)
      obtain ⟨q2, ef1⟩ := ask_some ef1
      refine r2_of (v_addS q2) ?_
      refine q_nx (σ' := [some (V.ref p_stock), some (V.int x_size), some (V.ref a_letters1), some (tS (c_text1 ++ r_2.1)), some (V.int x1)]) rfl ?_
      obtain rfl := Option.some.inj ef1
      exact hN1 _ _ ⟨B1, _, rfl, ex1, st2, nb1, hp2⟩
    ·
      rintro _ H3 ⟨B3, y2, rfl, ex2, st3, nb2, hp3⟩
      replace hp3 : H3 p_stock = some (.lst (r_1.1.map V.int)) := hp3
      have hB_letters1 := ex2 _ _ hB_letters1
      refine q_ret ?_
      refine go (v := (tS r_1.2)) (v_var (by rfl)) ?_
      obtain rfl := Option.some.inj e
      exact q _ _ _ st3 hp3 rfl
end K79
/-! walk -/
namespace K79
open PySem PySem.Spec PyProof.Rows L2 Wk RZ ClX
def sp_l_word (K : PySem.W.Frag) : Sp := fun vs H Q _ => ∃ (B : Hp) (p_stock : Addr) (x_stock : (List Int)) (x_size : Int) (v_letters : V) (x_letters : (List (List Nat))) (r : ((List Nat) × (List Int))), Ex B H ∧ vs = [V.ref p_stock, (V.int x_size), v_letters] ∧ B p_stock = none ∧ H p_stock = some (.lst (x_stock.map V.int)) ∧ (rL rS) B v_letters x_letters ∧ m_l_word x_stock x_size x_letters = some r ∧ ∀ v B' H', Stp [p_stock] B H B' H' → H' p_stock = some (.lst (r.2.map V.int)) → rS B' v r.1 → Q v H'
theorem ok_l_word {P : Program} {w : World} {K : PySem.W.Frag} {mg : Str → Option Value} {base : Heap} (E : Tx K mg) : Ok P w K mg base CX0 4 "_law_word" ["stock", "size", "letters"] (sp_l_word K) := by
  obtain ⟨fd, F⟩ := E.def_ 20 (d := d_l_word) rfl
  replace F : FunD K "_law_word" "_law_word" (defArgs s_l_word) (defBody s_l_word) (defScope s_l_word) [] [] (He.ga K "_law_word") fd := F
  obtain ⟨fd_l_draw, G_l_draw, b_l_draw, kp_l_draw, m_l_draw⟩ := ok_l_draw (P := P) (w := w) (base := base) E
  obtain ⟨fd_l_text, G_l_text, b_l_text, kp_l_text, m_l_text⟩ := ok_l_text (P := P) (w := w) (base := base) E
  obtain ⟨fd_l_pickS, G_l_pickS, b_l_pickS, kp_l_pickS, m_l_pickS⟩ := ok_l_pickS (P := P) (w := w) (base := base) E
  have g_int : mg "int" = none := E.free 45
  refine ⟨fd, F.ok sc_l_word (fun vs H Q E h => ?_) (fun cdv A outer s H0 vs Q X hr h => ?_), F.bindsN fun _ _ _ _ _ _ us hl => match us, hl with | [_, _, _], _ => rfl, F.kp, E.glo 20⟩
  · obtain ⟨_, _, _, _, _, _, _, _, rfl, _⟩ := h; rfl
  ·
    obtain ⟨B0, p_stock, x_stock, x_size, v_letters, x_letters, r, c0, rfl, nb_stock, hp_stock, h_letters, e, q⟩ := h
    obtain ⟨a_letters1, vs_letters1, rfl, hB_letters1, hA_letters1⟩ := h_letters
    obtain rfl := all2_S hA_letters1
    have st0 : Stp [p_stock] B0 H0 B0 H0 := Stp.refl c0
    unfold m_l_word at e
    refine ⟨_, PSs.nox ((pss_cons (ps_set (i := 3) sc_l_word.nd rfl (by first | exact Or.inl rfl | exact Or.inr rfl) (pe_call G_l_text (hr.mono (by decide)) (by rfl) m_l_text kp_l_text b_l_text .nil pass0 (pa_cons (pv 0) (pa_cons (pe_op op_add pe_int (pe_op op_mod (pe_callTy call_int1 (by rfl) g_int (by decide +kernel) (pa_cons (pe_op op_add pe_int (pe_call G_l_draw (hr.mono (by decide)) (by rfl) m_l_draw kp_l_draw b_l_draw .nil pass0 (pa_cons (pv 0) (pa_cons pe_int pa_nil)))) pa_nil)) pe_int)) (pa_cons (pv 2) pa_nil))))) (pss_cons (ps_set (i := 4) sc_l_word.nd rfl (by first | exact Or.inl rfl | exact Or.inr rfl) (pe_slice sl_str (pe_op op_repS (pv 3) (pv 1)) po_none (po_some (pv 1)))) (pss_cons (ps_set (i := 5) sc_l_word.nd rfl (by first | exact Or.inl rfl | exact Or.inr rfl) (pe_call G_l_draw (hr.mono (by decide)) (by rfl) m_l_draw kp_l_draw b_l_draw .nil pass0 (pa_cons (pv 0) (pa_cons pe_int pa_nil)))) (pss_cons (ps_if (pt_cmpR op_eq (pv 5) pe_int (nomark _)) (pss_one (ps_ret (pe_call G_l_text (hr.mono (by decide)) (by rfl) m_l_text kp_l_text b_l_text .nil pass0 (pa_cons (pv 0) (pa_cons (pv 1) (pa_cons (pv 2) pa_nil)))))) pss_nil) (pss_cons (ps_if (pt_cmpR op_eq (pv 5) pe_int (nomark _)) (pss_cons (ps_set (i := 6) sc_l_word.nd rfl (by first | exact Or.inl rfl | exact Or.inr rfl) (pe_call G_l_text (hr.mono (by decide)) (by rfl) m_l_text kp_l_text b_l_text .nil pass0 (pa_cons (pv 0) (pa_cons (pe_op op_fdivW (pe_callTy call_int1 (by rfl) g_int (by decide +kernel) (pa_cons (pe_op op_add (pv 1) pe_int) pa_nil)) pe_int) (pa_cons (pv 2) pa_nil))))) (pss_one (ps_ret (pe_op op_add_str (pv 6) (pe_revS (pe_slice sl_str (pv 6) po_none (po_some (pe_op op_fdivW (pv 1) pe_int)))))))) pss_nil) (pss_cons (ps_if (PW.pt (pw_and (pt_cmpR op_eq (pv 5) pe_int (nomark _)) (pw_and1 (pt_cmpR op_gt (pv 1) pe_int (nomark _))))) (pss_cons (ps_set (i := 7) sc_l_word.nd rfl (by first | exact Or.inl rfl | exact Or.inr rfl) (pe_call G_l_draw (hr.mono (by decide)) (by rfl) m_l_draw kp_l_draw b_l_draw .nil pass0 (pa_cons (pv 0) (pa_cons (pv 1) pa_nil)))) (pss_one (ps_ret (pe_op op_add_str (pe_op op_add_str (pe_slice sl_str (pv 4) po_none (po_some (pv 7))) (pe_call G_l_pickS (hr.mono (by decide)) (by rfl) m_l_pickS kp_l_pickS b_l_pickS .nil pass0 (pa_cons (pv 0) (pa_cons (pv 2) pa_nil)))) (pe_slice sl_str (pv 4) (po_some (pe_op op_add (pv 7) pe_int)) po_none))))) pss_nil) (pss_cons (ps_if (pt_cmpR op_eq (pv 5) pe_int (nomark _)) (pss_cons (ps_set (i := 7) sc_l_word.nd rfl (by first | exact Or.inl rfl | exact Or.inr rfl) (pe_call G_l_draw (hr.mono (by decide)) (by rfl) m_l_draw kp_l_draw b_l_draw .nil pass0 (pa_cons (pv 0) (pa_cons (pe_op op_add (pv 1) pe_int) pa_nil)))) (pss_one (ps_ret (pe_op op_add_str (pe_slice sl_str (pv 4) po_none (po_some (pv 7))) (pe_call G_l_text (hr.mono (by decide)) (by rfl) m_l_text kp_l_text b_l_text .nil pass0 (pa_cons (pv 0) (pa_cons (pe_op op_sub (pv 1) (pv 7)) (pa_cons (pv 2) pa_nil)))))))) pss_nil) (pss_one (ps_ret (pv 4))))))))))), ?_⟩
    refine q_st (σ' := [some (V.ref p_stock), some (V.int x_size), some (V.ref a_letters1), none, none, none, none, none]) rfl ?_
    refine q_seq ?_
    refine q_set ?_
    refine q_call ?_
    refine q_cons ?_
    refine go (v := (V.ref p_stock)) (v_var (by rfl)) ?_
    refine q_cons ?_
    refine q_opR ?_
    refine go (v := (V.int (1 : Int))) v_c ?_
    refine q_opR ?_
    refine q_cbR ?_
    refine q_cons ?_
    refine q_opR ?_
    refine go (v := (V.int (2 : Int))) v_c ?_
    refine q_call ?_
    refine q_cons ?_
    refine go (v := (V.ref p_stock)) (v_var (by rfl)) ?_
    refine q_cons ?_
    refine go (v := (V.int (5 : Int))) v_c ?_
    refine q_nil ?_
    obtain ⟨r_1, e_r_1, e⟩ := bind_some e
    refine ⟨B0, p_stock, x_stock, (5 : Int), r_1, st0.c, rfl, nb_stock, hp_stock, e_r_1, ?_⟩
    intro v1 B1 H1 s1 hp1 h1
    obtain rfl := h1
    have s2 := s1.keepB st0.c (nin_all nb_stock)
    have st1 := st0.trans s2 (fun _ z => z)
    refine ⟨_, _, rfl, rfl, ?_⟩
    refine q_nil ?_
    refine rc_of v_intI ?_
    refine go (v := (V.int (5 : Int))) v_c ?_
    obtain ⟨q1, e⟩ := ask_some e
    refine ⟨_, _, rfl, rfl,  q1, ?_⟩
    refine ⟨_, _, rfl, rfl, ?_⟩
    refine q_cons ?_
    refine go (v := (V.ref a_letters1)) (v_var (by rfl)) ?_
    refine q_nil ?_
    obtain ⟨r_2, e_r_2, e⟩ := bind_some e
    refine ⟨B0, p_stock, r_1.2, ((1 : Int) + (((2 : Int) + r_1.1) % (5 : Int))), (V.ref a_letters1), x_letters, r_2, st1.c, rfl, nb_stock, hp1, ⟨a_letters1, _, rfl, hB_letters1, all2S _⟩, e_r_2, ?_⟩
    intro v2 B2 H2 s3 hp2 h2
    obtain rfl := h2
    have s4 := s3.keepB st1.c (nin_all nb_stock)
    have st2 := st1.trans s4 (fun _ z => z)
    refine q_nx (σ' := [some (V.ref p_stock), some (V.int x_size), some (V.ref a_letters1), some (tS r_2.1), none, none, none, none]) rfl ?_
    refine q_seq ?_
    refine q_set ?_
    obtain ⟨q2, e⟩ := ask_some e
    obtain ⟨q3, e⟩ := ask_some e
    refine go (v := (tS (cutT (repS r_2.1 x_size) none (some x_size)))) (v_cutS (v_op (v_var (by rfl)) (v_var (by rfl)) (v_repS q2)) v_po0 (v_po1 (v_var (by rfl))) q3) ?_
    refine q_nx (σ' := [some (V.ref p_stock), some (V.int x_size), some (V.ref a_letters1), some (tS r_2.1), some (tS (cutT (repS r_2.1 x_size) none (some x_size))), none, none, none]) rfl ?_
    refine q_seq ?_
    refine q_set ?_
    refine q_call ?_
    refine q_cons ?_
    refine go (v := (V.ref p_stock)) (v_var (by rfl)) ?_
    refine q_cons ?_
    refine go (v := (V.int (5 : Int))) v_c ?_
    refine q_nil ?_
    obtain ⟨r_3, e_r_3, e⟩ := bind_some e
    refine ⟨B0, p_stock, r_2.2, (5 : Int), r_3, st2.c, rfl, nb_stock, hp2, e_r_3, ?_⟩
    intro v3 B3 H3 s5 hp3 h3
    obtain rfl := h3
    have s6 := s5.keepB st2.c (nin_all nb_stock)
    have st3 := st2.trans s6 (fun _ z => z)
    refine q_nx (σ' := [some (V.ref p_stock), some (V.int x_size), some (V.ref a_letters1), some (tS r_2.1), some (tS (cutT (repS r_2.1 x_size) none (some x_size))), some (V.int r_3.1), none, none]) rfl ?_
    refine q_seq ?_
    refine q_if ?_
    by_cases hb : (decide (r_3.1 = (1 : Int))) = true
    · have e := if_inv_t hb e
      refine goT (b := true) (Ans.to (v_tb (v_op (v_var (by rfl)) v_c v_eqI)) hb) ?_
      refine if_t rfl ?_
      refine q_ret ?_
      refine q_call ?_
      refine q_cons ?_
      refine go (v := (V.ref p_stock)) (v_var (by rfl)) ?_
      refine q_cons ?_
      refine go (v := (V.int x_size)) (v_var (by rfl)) ?_
      refine q_cons ?_
      refine go (v := (V.ref a_letters1)) (v_var (by rfl)) ?_
      refine q_nil ?_
      obtain ⟨r_4, e_r_4, e⟩ := bind_some e
      refine ⟨B0, p_stock, r_3.2, x_size, (V.ref a_letters1), x_letters, r_4, st3.c, rfl, nb_stock, hp3, ⟨a_letters1, _, rfl, hB_letters1, all2S _⟩, e_r_4, ?_⟩
      intro v4 B4 H4 s7 hp4 h4
      obtain rfl := h4
      have s8 := s7.keepB st3.c (nin_all nb_stock)
      have st4 := st3.trans s8 (fun _ z => z)
      obtain rfl := Option.some.inj e
      exact q _ _ _ st4 hp4 rfl
    · have hb := Bool.eq_false_iff.mpr hb
      have e := if_inv_f hb e
      refine goT (b := false) (Ans.to (v_tb (v_op (v_var (by rfl)) v_c v_eqI)) hb) ?_
      refine if_f rfl ?_
      refine q_next ?_
      refine q_seq ?_
      refine q_if ?_
      by_cases hb : (decide (r_3.1 = (2 : Int))) = true
      · have e := if_inv_t hb e
        refine goT (b := true) (Ans.to (v_tb (v_op (v_var (by rfl)) v_c v_eqI)) hb) ?_
        refine if_t rfl ?_
        refine q_seq ?_
        refine q_set ?_
        refine q_call ?_
        refine q_cons ?_
        refine go (v := (V.ref p_stock)) (v_var (by rfl)) ?_
        refine q_cons ?_
        obtain ⟨q4, e⟩ := ask_some e
        refine go (v := (V.int ((x_size + (1 : Int)) / (2 : Int)))) (v_op (v_cb1 (v_op (v_var (by rfl)) v_c (fun _ q => ⟨_, _, rfl, rfl, q⟩)) v_intI) v_c (fun _ q => ⟨_, _, rfl, rfl, sdiv_ok q4, q⟩)) ?_
        refine q_cons ?_
        refine go (v := (V.ref a_letters1)) (v_var (by rfl)) ?_
        refine q_nil ?_
        obtain ⟨r_5, e_r_5, e⟩ := bind_some e
        refine ⟨B0, p_stock, r_3.2, ((x_size + (1 : Int)) / (2 : Int)), (V.ref a_letters1), x_letters, r_5, st3.c, rfl, nb_stock, hp3, ⟨a_letters1, _, rfl, hB_letters1, all2S _⟩, e_r_5, ?_⟩
        intro v5 B5 H5 s9 hp5 h5
        obtain rfl := h5
        have s10 := s9.keepB st3.c (nin_all nb_stock)
        have st5 := st3.trans s10 (fun _ z => z)
        refine q_nx (σ' := [some (V.ref p_stock), some (V.int x_size), some (V.ref a_letters1), some (tS r_2.1), some (tS (cutT (repS r_2.1 x_size) none (some x_size))), some (V.int r_3.1), some (tS r_5.1), none]) rfl ?_
        refine q_ret ?_
        obtain ⟨q5, e⟩ := ask_some e
        obtain ⟨q6, e⟩ := ask_some e
        obtain ⟨q7, e⟩ := ask_some e
        obtain ⟨q8, e⟩ := ask_some e
        refine go (v := (tS (r_5.1 ++ (cutT r_5.1 none (some (x_size / (2 : Int)))).reverse))) (v_op (v_var (by rfl)) (v_revS (v_cutS (v_var (by rfl)) v_po0 (v_po1 (v_op (v_var (by rfl)) v_c (fun _ q => ⟨_, _, rfl, rfl, sdiv_ok q6, q⟩))) q5) q7) (v_addS q8)) ?_
        obtain rfl := Option.some.inj e
        exact q _ _ _ st5 hp5 rfl
      · have hb := Bool.eq_false_iff.mpr hb
        have e := if_inv_f hb e
        refine goT (b := false) (Ans.to (v_tb (v_op (v_var (by rfl)) v_c v_eqI)) hb) ?_
        refine if_f rfl ?_
        refine q_next ?_
        refine q_seq ?_
        refine q_if ?_
        by_cases hb : ((decide (r_3.1 = (3 : Int))) && (decide (x_size > (0 : Int)))) = true
        · have e := if_inv_t hb e
          refine goT (b := true) (Ans.to (v_andT (v_tb (v_op (v_var (by rfl)) v_c v_eqI)) (v_tb (v_op (v_var (by rfl)) v_c (fun _ q => ⟨_, _, rfl, rfl, q⟩)))) hb) ?_
          refine if_t rfl ?_
          refine q_seq ?_
          refine q_set ?_
          refine q_call ?_
          refine q_cons ?_
          refine go (v := (V.ref p_stock)) (v_var (by rfl)) ?_
          refine q_cons ?_
          refine go (v := (V.int x_size)) (v_var (by rfl)) ?_
          refine q_nil ?_
          obtain ⟨r_6, e_r_6, e⟩ := bind_some e
          refine ⟨B0, p_stock, r_3.2, x_size, r_6, st3.c, rfl, nb_stock, hp3, e_r_6, ?_⟩
          intro v6 B6 H6 s11 hp6 h6
          obtain rfl := h6
          have s12 := s11.keepB st3.c (nin_all nb_stock)
          have st6 := st3.trans s12 (fun _ z => z)
          refine q_nx (σ' := [some (V.ref p_stock), some (V.int x_size), some (V.ref a_letters1), some (tS r_2.1), some (tS (cutT (repS r_2.1 x_size) none (some x_size))), some (V.int r_3.1), none, some (V.int r_6.1)]) rfl ?_
          refine q_ret ?_
          refine q_opR ?_
          refine q_opR ?_
          obtain ⟨q9, e⟩ := ask_some e
          refine go (v := (tS (cutT (cutT (repS r_2.1 x_size) none (some x_size)) none (some r_6.1)))) (v_cutS (v_var (by rfl)) v_po0 (v_po1 (v_var (by rfl))) q9) ?_
          refine q_call ?_
          refine q_cons ?_
          refine go (v := (V.ref p_stock)) (v_var (by rfl)) ?_
          refine q_cons ?_
          refine go (v := (V.ref a_letters1)) (v_var (by rfl)) ?_
          refine q_nil ?_
          obtain ⟨r_7, e_r_7, e⟩ := bind_some e
          refine ⟨B0, p_stock, r_6.2, (V.ref a_letters1), x_letters, r_7, st6.c, rfl, nb_stock, hp6, ⟨a_letters1, _, rfl, hB_letters1, all2S _⟩, e_r_7, ?_⟩
          intro v7 B7 H7 s13 hp7 h7
          obtain rfl := h7
          have s14 := s13.keepB st6.c (nin_all nb_stock)
          have st7 := st6.trans s14 (fun _ z => z)
          obtain ⟨q10, e⟩ := ask_some e
          refine r2_of (v_addS q10) ?_
          obtain ⟨q11, e⟩ := ask_some e
          refine go (v := (tS (cutT (cutT (repS r_2.1 x_size) none (some x_size)) (some (r_6.1 + (1 : Int))) none))) (v_cutS (v_var (by rfl)) (v_po1 (v_op (v_var (by rfl)) v_c (fun _ q => ⟨_, _, rfl, rfl, q⟩))) v_po0 q11) ?_
          obtain ⟨q12, e⟩ := ask_some e
          refine r2_of (v_addS q12) ?_
          obtain rfl := Option.some.inj e
          exact q _ _ _ st7 hp7 rfl
        · have hb := Bool.eq_false_iff.mpr hb
          have e := if_inv_f hb e
          refine goT (b := false) (Ans.to (v_andT (v_tb (v_op (v_var (by rfl)) v_c v_eqI)) (v_tb (v_op (v_var (by rfl)) v_c (fun _ q => ⟨_, _, rfl, rfl, q⟩)))) hb) ?_
          refine if_f rfl ?_
          refine q_next ?_
          refine q_seq ?_
          refine q_if ?_
          by_cases hb : (decide (r_3.1 = (4 : Int))) = true
          · have e := if_inv_t hb e
            refine goT (b := true) (Ans.to (v_tb (v_op (v_var (by rfl)) v_c v_eqI)) hb) ?_
            refine if_t rfl ?_
            refine q_seq ?_
            refine q_set ?_
            refine q_call ?_
            refine q_cons ?_
            refine go (v := (V.ref p_stock)) (v_var (by rfl)) ?_
            refine q_cons ?_
            refine go (v := (V.int (x_size + (1 : Int)))) (v_op (v_var (by rfl)) v_c (fun _ q => ⟨_, _, rfl, rfl, q⟩)) ?_
            refine q_nil ?_
            obtain ⟨r_8, e_r_8, e⟩ := bind_some e
            refine ⟨B0, p_stock, r_3.2, (x_size + (1 : Int)), r_8, st3.c, rfl, nb_stock, hp3, e_r_8, ?_⟩
            intro v8 B8 H8 s15 hp8 h8
            obtain rfl := h8
            have s16 := s15.keepB st3.c (nin_all nb_stock)
            have st8 := st3.trans s16 (fun _ z => z)
            refine q_nx (σ' := [some (V.ref p_stock), some (V.int x_size), some (V.ref a_letters1), some (tS r_2.1), some (tS (cutT (repS r_2.1 x_size) none (some x_size))), some (V.int r_3.1), none, some (V.int r_8.1)]) rfl ?_
            refine q_ret ?_
            refine q_opR ?_
            obtain ⟨q13, e⟩ := ask_some e
            refine go (v := (tS (cutT (cutT (repS r_2.1 x_size) none (some x_size)) none (some r_8.1)))) (v_cutS (v_var (by rfl)) v_po0 (v_po1 (v_var (by rfl))) q13) ?_
            refine q_call ?_
            refine q_cons ?_
            refine go (v := (V.ref p_stock)) (v_var (by rfl)) ?_
            refine q_cons ?_
            refine go (v := (V.int (x_size - r_8.1))) (v_op (v_var (by rfl)) (v_var (by rfl)) (fun _ q => ⟨_, _, rfl, rfl, q⟩)) ?_
            refine q_cons ?_
            refine go (v := (V.ref a_letters1)) (v_var (by rfl)) ?_
            refine q_nil ?_
            obtain ⟨r_9, e_r_9, e⟩ := bind_some e
            refine ⟨B0, p_stock, r_8.2, (x_size - r_8.1), (V.ref a_letters1), x_letters, r_9, st8.c, rfl, nb_stock, hp8, ⟨a_letters1, _, rfl, hB_letters1, all2S _⟩, e_r_9, ?_⟩
            intro v9 B9 H9 s17 hp9 h9
            obtain rfl := h9
            have s18 := s17.keepB st8.c (nin_all nb_stock)
            have st9 := st8.trans s18 (fun _ z => z)
            obtain ⟨q14, e⟩ := ask_some e
            refine r2_of (v_addS q14) ?_
            obtain rfl := Option.some.inj e
            exact q _ _ _ st9 hp9 rfl
          · have hb := Bool.eq_false_iff.mpr hb
            have e := if_inv_f hb e
            refine goT (b := false) (Ans.to (v_tb (v_op (v_var (by rfl)) v_c v_eqI)) hb) ?_
            refine if_f rfl ?_
            refine q_next ?_
            refine q_ret ?_
            refine go (v := (tS (cutT (repS r_2.1 x_size) none (some x_size)))) (v_var (by rfl)) ?_
            obtain rfl := Option.some.inj e
            exact q _ _ _ st3 hp3 rfl
end K79
/-! walk -/
namespace K79
open PySem PySem.Spec PyProof.Rows L2 Wk RZ ClX
def sp_l_least_period (K : PySem.W.Frag) : Sp := fun vs H Q _ => ∃ (B : Hp) (x_text : (List Nat)) (r : Int), Ex B H ∧ vs = [(tS x_text)] ∧ m_l_least_period x_text = some r ∧ ∀ v B' H', Stp [] B H B' H' → rI B' v r → Q v H'
theorem ok_l_least_period {P : Program} {w : World} {K : PySem.W.Frag} {mg : Str → Option Value} {base : Heap} (E : Tx K mg) : Ok P w K mg base CX0 1 "_law_least_period" ["text"] (sp_l_least_period K) := by
  obtain ⟨fd, F⟩ := E.def_ 22 (d := d_l_least_period) rfl
  replace F : FunD K "_law_least_period" "_law_least_period" (defArgs s_l_least_period) (defBody s_l_least_period) (defScope s_l_least_period) [] [] (He.ga K "_law_least_period") fd := F
  have g_range : mg "range" = none := E.free 42
  have g_len : mg "len" = none := E.free 41
  refine ⟨fd, F.ok sc_l_least_period (fun vs H Q E h => ?_) (fun cdv A outer s H0 vs Q X hr h => ?_), F.bindsN fun _ _ _ _ _ _ us hl => match us, hl with | [_], _ => rfl, F.kp, E.glo 22⟩
  · obtain ⟨_, _, _, _, rfl, _⟩ := h; rfl
  ·
    obtain ⟨B0, x_text, r, c0, rfl, e, q⟩ := h
    have st0 : Stp [] B0 H0 B0 H0 := Stp.refl c0
    unfold m_l_least_period at e
    refine ⟨_, PSs.nox ((pss_cons (ps_for PassesOwn.never rfl (pi_range2 (by rfl) g_range (pa_cons pe_int (pa_cons (pe_callB call_len_str (by rfl) g_len PySem.boot_len (pa_cons (pv 0) pa_nil)) pa_nil))) (pg_name (i := 1) sc_l_least_period.nd rfl (by first | exact Or.inl rfl | exact Or.inr rfl)) (pss_one (ps_if (pt_val (pe_bm PySem.F.plainAttrs_str PySem.F.slot_str_startswith PySem.F.type_str_startswith mt_startswith (pv 0) (pa_cons (pe_slice sl_str (pv 0) (po_some (pv 1)) po_none) pa_nil))) (pss_one (ps_ret (pv 1))) pss_nil))) (pss_one (ps_ret (pe_callB call_len_str (by rfl) g_len PySem.boot_len (pa_cons (pv 0) pa_nil)))))), ?_⟩
    refine q_st (σ' := [some (tS x_text), none]) rfl ?_
    refine q_seq ?_
    refine q_for ?_
    refine q_rng2 ?_
    refine q_cons ?_
    refine go (v := (V.int (1 : Int))) v_c ?_
    refine q_cons ?_
    obtain ⟨q1, e⟩ := ask_some e
    refine go (v := (V.int (x_text.length : Int))) (v_cb1 (v_var (by rfl)) (v_lenS q1)) ?_
    refine q_nil ?_
    obtain ⟨q2, e⟩ := ask_some e
    refine ⟨_, _, rfl, q2, ?_⟩
    obtain ⟨r_1, er1, e⟩ := bind_some e
    refine for_R (Inv := fun (s : Unit) σ H => ∃ (B : Hp) (y_k : Option V), σ = [some (tS x_text), y_k] ∧ Ex B0 B ∧ Stp [] B0 H0 B H) er1 ?_ ?_ ?_ ?_ ?_
    · exact ⟨B0, _, rfl, (Ex.refl B0), st0⟩
    · exact rng_st
    · exact rng_go
    ·
      rintro i1 x1 _ t1 _ H1 hx1 ⟨B1, y1, rfl, ex1, st1⟩ ef1 v1 Hy1 hy1 N1 _ hN1
      change l_least_period_b0 x_text x1  = some t1 at ef1
      unfold l_least_period_b0 at ef1
      obtain ⟨rfl, rfl⟩ := rng_yld hy1 hx1
      refine q_gname ?_
      refine q_st (σ' := [some (tS x_text), some (V.int x1)]) rfl ?_
      refine q_if ?_
      obtain ⟨q3, ef1⟩ := ask_some ef1
      by_cases hb : (prefB (cutT x_text (some x1) none) x_text) = true
      · have ef1 := if_inv_t hb ef1
        refine goT (b := true) (Ans.to (v_tB (v_sm1 (v_var (by rfl)) (v_cutS (v_var (by rfl)) (v_po1 (v_var (by rfl))) v_po0 q3) v_startswith)) hb) ?_
        refine if_t rfl ?_
        refine q_ret ?_
        refine go (v := (V.int x1)) (v_var (by rfl)) ?_
        obtain rfl := Option.some.inj ef1
        rw [hN1] at e
        replace e := fin_rt e
        obtain rfl := Option.some.inj e
        exact q _ _ _ st1 rfl
      · have hb := Bool.eq_false_iff.mpr hb
        have ef1 := if_inv_f hb ef1
        refine goT (b := false) (Ans.to (v_tB (v_sm1 (v_var (by rfl)) (v_cutS (v_var (by rfl)) (v_po1 (v_var (by rfl))) v_po0 q3) v_startswith)) hb) ?_
        refine if_f rfl ?_
        refine q_next ?_
        obtain rfl := Option.some.inj ef1
        exact hN1 _ _ ⟨B1, _, rfl, ex1, st1⟩
    ·
      rintro s1 _ H2 hz1 ⟨B2, y2, rfl, ex2, st2⟩
      rw [hz1] at e
      replace e := fin_nx e
      refine q_ret ?_
      obtain ⟨q4, e⟩ := ask_some e
      refine go (v := (V.int (x_text.length : Int))) (v_cb1 (v_var (by rfl)) (v_lenS q4)) ?_
      obtain rfl := Option.some.inj e
      exact q _ _ _ st2 rfl
end K79
/-! walk -/
namespace K79
open PySem PySem.Spec PyProof.Rows L2 Wk RZ ClX
def sp_l_runs (K : PySem.W.Frag) : Sp := fun vs H Q _ => ∃ (B : Hp) (x_word : (List Nat)) (r : (List (Int × Int × Int))), Ex B H ∧ vs = [(tS x_word)] ∧ m_l_runs x_word = some r ∧ ∀ v B' H', Stp [] B H B' H' → (rL (rT3 rI rI rI)) B' v r → Q v H'
theorem ok_l_runs {P : Program} {w : World} {K : PySem.W.Frag} {mg : Str → Option Value} {base : Heap} (E : Tx K mg) : Ok P w K mg base CX0 2 "_law_runs" ["word"] (sp_l_runs K) := by
  obtain ⟨fd, F⟩ := E.def_ 23 (d := d_l_runs) rfl
  replace F : FunD K "_law_runs" "_law_runs" (defArgs s_l_runs) (defBody s_l_runs) (defScope s_l_runs) [] [] (He.ga K "_law_runs") fd := F
  obtain ⟨fd_l_least_period, G_l_least_period, b_l_least_period, kp_l_least_period, m_l_least_period⟩ := ok_l_least_period (P := P) (w := w) (base := base) E
  have g_len : mg "len" = none := E.free 41
  have g_range : mg "range" = none := E.free 42
  refine ⟨fd, F.ok sc_l_runs (fun vs H Q E h => ?_) (fun cdv A outer s H0 vs Q X hr h => ?_), F.bindsN fun _ _ _ _ _ _ us hl => match us, hl with | [_], _ => rfl, F.kp, E.glo 23⟩
  · obtain ⟨_, _, _, _, rfl, _⟩ := h; rfl
  ·
    obtain ⟨B0, x_word, r, c0, rfl, e, q⟩ := h
    have st0 : Stp [] B0 H0 B0 H0 := Stp.refl c0
    unfold m_l_runs at e
    refine ⟨_, PSs.nox ((pss_cons (ps_set (i := 1) sc_l_runs.nd rfl (by first | exact Or.inl rfl | exact Or.inr rfl) (pe_lst pa_nil)) (pss_cons (ps_set (i := 2) sc_l_runs.nd rfl (by first | exact Or.inl rfl | exact Or.inr rfl) (pe_callB call_len_str (by rfl) g_len PySem.boot_len (pa_cons (pv 0) pa_nil))) (pss_cons (ps_for PassesOwn.never rfl (pi_range1 (by rfl) g_range (pa_cons (pv 2) pa_nil)) (pg_name (i := 3) sc_l_runs.nd rfl (by first | exact Or.inl rfl | exact Or.inr rfl)) (pss_one (ps_for PassesOwn.never rfl (pi_range2 (by rfl) g_range (pa_cons (pe_op op_add (pv 3) pe_int) (pa_cons (pe_op op_add (pv 2) pe_int) pa_nil))) (pg_name (i := 4) sc_l_runs.nd rfl (by first | exact Or.inl rfl | exact Or.inr rfl)) (pss_cons (ps_set (i := 5) sc_l_runs.nd rfl (by first | exact Or.inl rfl | exact Or.inr rfl) (pe_call G_l_least_period (hr.mono (by decide)) (by rfl) m_l_least_period kp_l_least_period b_l_least_period .nil pass0 (pa_cons (pe_slice sl_str (pv 0) (po_some (pv 3)) (po_some (pv 4))) pa_nil))) (pss_one (ps_if (pt_cmpR op_le (pe_op op_mulW pe_int (pv 5)) (pe_op op_sub (pv 4) (pv 3)) (nomark _)) (pss_cons (ps_set (i := 6) sc_l_runs.nd rfl (by first | exact Or.inl rfl | exact Or.inr rfl) (pe_and (pe_cmpR op_lt (pv 4) (pv 2) (nomark _)) (pe_one (pe_cmpR op_eq (pe_ix ix_str (pv 0) (pv 4) (fun _ _ => rfl)) (pe_ix ix_str (pv 0) (pe_op op_sub (pv 4) (pv 5)) (fun _ _ => rfl)) (nomark _))))) (Evl.pss_cut (ps_if (PW.pt (pw_and (pt_cmpR op_gt (pv 3) pe_int (nomark _)) (pw_and1 (pt_cmpR op_eq (pe_ix ix_str (pv 0) (pe_op op_sub (pv 3) pe_int) (fun _ _ => rfl)) (pe_ix ix_str (pv 0) (pe_op op_add (pe_op op_sub (pv 3) pe_int) (pv 5)) (fun _ _ => rfl)) (nomark _))))) (pss_one (ps_set (i := 6) sc_l_runs.nd rfl (by first | exact Or.inl rfl | exact Or.inr rfl) pe_bl)) pss_nil) (pss_one (ps_if (pt_not (pt_val (pv 6))) (pss_one (ps_expr (pe_bm PySem.F.plainAttrs_list PySem.F.slot_list_append PySem.F.type_list_append mt_append (pv 1) (pa_cons (pe_tup (pa_cons (pv 3) (pa_cons (pv 4) (pa_cons (pv 5) pa_nil)))) pa_nil)))) pss_nil)))) pss_nil)))))) (pss_one (ps_ret (pv 1))))))), ?_⟩
    refine q_st (σ' := [some (tS x_word), none, none, none, none, none, none]) rfl ?_
    refine q_seq ?_
    refine q_set ?_
    refine q_lst ?_
    refine q_nil ?_
    refine ⟨by show _ ≤ 16777216; simp, ?_⟩
    have hA1 : All2 ((rT3 rI rI rI) B0) [] ([] : (List (Int × Int × Int))) := All2.nil
    refine al_own st0.c fun p1 np1 H1 s1 hB1 nb1 => ?_
    have z1 := st0.g _ np1
    have st1 := st0.t0 s1
    refine q_nx (σ' := [some (tS x_word), some (V.ref p1), none, none, none, none, none]) rfl ?_
    refine q_seq ?_
    refine q_set ?_
    obtain ⟨q1, e⟩ := ask_some e
    refine go (v := (V.int (x_word.length : Int))) (v_cb1 (v_var (by rfl)) (v_lenS q1)) ?_
    refine q_nx (σ' := [some (tS x_word), some (V.ref p1), some (V.int (x_word.length : Int)), none, none, none, none]) rfl ?_
    refine q_seq ?_
    refine q_for ?_
    refine q_rng1 ?_
    refine q_cons ?_
    refine go (v := (V.int (x_word.length : Int))) (v_var (by rfl)) ?_
    refine q_nil ?_
    obtain ⟨q2, e⟩ := ask_some e
    refine ⟨_, rfl, q2.1, q2.2, ?_⟩
    obtain ⟨r_1, er1, e⟩ := bind_some e
    refine for_N (Inv := fun (s : (List (Int × Int × Int))) σ H => ∃ (B : Hp) (y_start : Option V) (y_end : Option V) (y_k : Option V) (y_wider : Option V) (vs_found : List V), σ = [some (tS x_word), some (V.ref p1), some (V.int (x_word.length : Int)), y_start, y_end, y_k, y_wider] ∧ Ex B0 B ∧ Stp [] B0 H0 B H ∧ B p1 = none ∧ H p1 = some (.lst vs_found) ∧ All2 ((rT3 rI rI rI) B) vs_found s) er1 ?_ ?_ ?_ ?_ ?_
    · exact ⟨B0, _, _, _, _, _, rfl, (Ex.refl B0), st1, nb1, hB1, hA1⟩
    · exact rng0_st
    · exact rng0_go
    ·
      rintro i1 x1 c_found1 t1 _ H2 hx1 ⟨B1, y1, y2, y3, y4, vs1, rfl, ex1, st2, nb2, hp1, hA2⟩ ef1 v1 Hy1 hy1 N1 hN1
      replace hp1 : H2 p1 = some (.lst vs1) := hp1
      replace hA2 : All2 ((rT3 rI rI rI) B1) vs1 c_found1 := hA2
      change l_runs_b0 x_word x1 c_found1 = some t1 at ef1
      unfold l_runs_b0 at ef1
      obtain ⟨rfl, rfl⟩ := rng0_yld hy1 hx1
      refine q_gname ?_
      refine q_st (σ' := [some (tS x_word), some (V.ref p1), some (V.int (x_word.length : Int)), some (V.int x1), y2, y3, y4]) rfl ?_
      refine q_for ?_
      refine q_rng2 ?_
      refine q_cons ?_
      refine go (v := (V.int (x1 + (2 : Int)))) (v_op (v_var (by rfl)) v_c (fun _ q => ⟨_, _, rfl, rfl, q⟩)) ?_
      refine q_cons ?_
      refine go (v := (V.int ((x_word.length : Int) + (1 : Int)))) (v_op (v_var (by rfl)) v_c (fun _ q => ⟨_, _, rfl, rfl, q⟩)) ?_
      refine q_nil ?_
      obtain ⟨q3, ef1⟩ := ask_some ef1
      refine ⟨_, _, rfl, q3, ?_⟩
      obtain ⟨r_2, er2, ef1⟩ := bind_some ef1
      refine for_N (Inv := fun (s : (List (Int × Int × Int))) σ H => ∃ (B : Hp) (y_end : Option V) (y_k : Option V) (y_wider : Option V) (vs_found : List V), σ = [some (tS x_word), some (V.ref p1), some (V.int (x_word.length : Int)), some (V.int x1), y_end, y_k, y_wider] ∧ Ex B1 B ∧ Stp [] B0 H0 B H ∧ B p1 = none ∧ H p1 = some (.lst vs_found) ∧ All2 ((rT3 rI rI rI) B) vs_found s) er2 ?_ ?_ ?_ ?_ ?_
      · exact ⟨B1, _, _, _, _, rfl, (Ex.refl B1), st2, nb2, hp1, hA2⟩
      · exact rng_st
      · exact rng_go
      ·
        rintro i2 x2 c_found2 t2 _ H3 hx2 ⟨B2, y5, y6, y7, vs2, rfl, ex2, st3, nb3, hp2, hA3⟩ ef2 v2 Hy2 hy2 N2 hN2
        replace hp2 : H3 p1 = some (.lst vs2) := hp2
        replace hA3 : All2 ((rT3 rI rI rI) B2) vs2 c_found2 := hA3
        change l_runs_b1 x_word x1 x2 c_found2 = some t2 at ef2
        unfold l_runs_b1 at ef2
        obtain ⟨rfl, rfl⟩ := rng_yld hy2 hx2
        refine q_gname ?_
        refine q_st (σ' := [some (tS x_word), some (V.ref p1), some (V.int (x_word.length : Int)), some (V.int x1), some (V.int x2), y6, y7]) rfl ?_
        refine q_seq ?_
        refine q_set ?_
        refine q_call ?_
        refine q_cons ?_
        obtain ⟨q4, ef2⟩ := ask_some ef2
        refine go (v := (tS (cutT x_word (some x1) (some x2)))) (v_cutS (v_var (by rfl)) (v_po1 (v_var (by rfl))) (v_po1 (v_var (by rfl))) q4) ?_
        refine q_nil ?_
        obtain ⟨r_3, e_r_3, ef2⟩ := bind_some ef2
        refine ⟨B2, (cutT x_word (some x1) (some x2)), r_3, st3.c, rfl, e_r_3, ?_⟩
        intro v3 B3 H4 s2 h1
        obtain rfl := h1
        have s3 := s2.keepB st3.c (fun _ z => absurd z List.not_mem_nil)
        have hp2 := s3.h _ _ List.not_mem_nil hp2
        have st4 := st3.t0 s3
        refine q_nx (σ' := [some (tS x_word), some (V.ref p1), some (V.int (x_word.length : Int)), some (V.int x1), some (V.int x2), some (V.int r_3), y7]) rfl ?_
        refine q_if ?_
        obtain ⟨q5, ef2⟩ := ask_some ef2
        by_cases hb : (decide (((2 : Int) * r_3) ≤ (x2 - x1))) = true
        · have ef2 := if_inv_t hb ef2
          refine goT (b := true) (Ans.to (v_tb (v_op (v_op v_c (v_var (by rfl)) (fun _ q => ⟨_, _, rfl, rfl, smul_ok q5, q⟩)) (v_op (v_var (by rfl)) (v_var (by rfl)) (fun _ q => ⟨_, _, rfl, rfl, q⟩)) (fun _ q => ⟨_, _, rfl, rfl, q⟩))) hb) ?_
          refine if_t rfl ?_
          refine q_seq ?_
          refine q_set ?_
          obtain ⟨c_3, e_c_3, ef2⟩ := bind_some ef2
          refine go (v := (V.bl c_3)) (v_andV (v_op (v_var (by rfl)) (v_var (by rfl)) (fun _ q => ⟨_, _, rfl, rfl, q⟩)) e_c_3 (fun _ k1 => by obtain ⟨q6, k1⟩ := ask_some k1; obtain ⟨c_1, e_c_1, k1⟩ := bind_some k1; obtain ⟨q7, k1⟩ := ask_some k1; obtain ⟨c_2, e_c_2, k1⟩ := bind_some k1; obtain rfl := Option.some.inj k1; exact (v_op (v_op (v_var (by rfl)) (v_var (by rfl)) (v_ixS q6 e_c_1)) (v_op (v_var (by rfl)) (v_op (v_var (by rfl)) (v_var (by rfl)) (fun _ q => ⟨_, _, rfl, rfl, q⟩)) (v_ixS q7 e_c_2)) v_eqS))) ?_
          refine q_nx (σ' := [some (tS x_word), some (V.ref p1), some (V.int (x_word.length : Int)), some (V.int x1), some (V.int x2), some (V.int r_3), some (V.bl c_3)]) rfl ?_
          obtain ⟨j_1, ej1, ef2⟩ := bind_some ef2
          refine q_cut (Mid := MidP fun σ H => ∃ (B : Hp) (vs_found : List V), σ = [some (tS x_word), some (V.ref p1), some (V.int (x_word.length : Int)), some (V.int x1), some (V.int x2), some (V.int r_3), some (V.bl j_1)] ∧ Ex B2 B ∧ Stp [] B0 H0 B H ∧ B p1 = none ∧ H p1 = some (.lst vs_found) ∧ All2 ((rT3 rI rI rI) B) vs_found c_found2) ?_ ?_
          ·
            refine q_if ?_
            obtain ⟨c_6, e_c_6, ej1⟩ := bind_some ej1
            by_cases hb : c_6 = true
            · have ej1 := if_inv_t hb ej1
              refine goT (b := true) (Ans.to (v_and (v_tb (v_op (v_var (by rfl)) v_c (fun _ q => ⟨_, _, rfl, rfl, q⟩))) e_c_6 (fun _ k1 => by obtain ⟨q8, k1⟩ := ask_some k1; obtain ⟨c_4, e_c_4, k1⟩ := bind_some k1; obtain ⟨q9, k1⟩ := ask_some k1; obtain ⟨c_5, e_c_5, k1⟩ := bind_some k1; obtain rfl := Option.some.inj k1; exact (v_tb (v_op (v_op (v_var (by rfl)) (v_op (v_var (by rfl)) v_c (fun _ q => ⟨_, _, rfl, rfl, q⟩)) (v_ixS q8 e_c_4)) (v_op (v_var (by rfl)) (v_op (v_op (v_var (by rfl)) v_c (fun _ q => ⟨_, _, rfl, rfl, q⟩)) (v_var (by rfl)) (fun _ q => ⟨_, _, rfl, rfl, q⟩)) (v_ixS q9 e_c_5)) v_eqS)))) hb) ?_
              refine if_t rfl ?_
              refine q_set ?_
              refine go (v := (V.bl true)) v_c ?_
              refine q_nx (σ' := [some (tS x_word), some (V.ref p1), some (V.int (x_word.length : Int)), some (V.int x1), some (V.int x2), some (V.int r_3), some (V.bl true)]) rfl ?_
              obtain rfl := Option.some.inj ej1
              exact ⟨B2, _, rfl, (Ex.refl B2), st4, nb3, hp2, hA3⟩
            · have hb := Bool.eq_false_iff.mpr hb
              have ej1 := if_inv_f hb ej1
              refine goT (b := false) (Ans.to (v_and (v_tb (v_op (v_var (by rfl)) v_c (fun _ q => ⟨_, _, rfl, rfl, q⟩))) e_c_6 (fun _ k1 => by obtain ⟨q8, k1⟩ := ask_some k1; obtain ⟨c_4, e_c_4, k1⟩ := bind_some k1; obtain ⟨q9, k1⟩ := ask_some k1; obtain ⟨c_5, e_c_5, k1⟩ := bind_some k1; obtain rfl := Option.some.inj k1; exact (v_tb (v_op (v_op (v_var (by rfl)) (v_op (v_var (by rfl)) v_c (fun _ q => ⟨_, _, rfl, rfl, q⟩)) (v_ixS q8 e_c_4)) (v_op (v_var (by rfl)) (v_op (v_op (v_var (by rfl)) v_c (fun _ q => ⟨_, _, rfl, rfl, q⟩)) (v_var (by rfl)) (fun _ q => ⟨_, _, rfl, rfl, q⟩)) (v_ixS q9 e_c_5)) v_eqS)))) hb) ?_
              refine if_f rfl ?_
              refine q_next ?_
              obtain rfl := Option.some.inj ej1
              exact ⟨B2, _, rfl, (Ex.refl B2), st4, nb3, hp2, hA3⟩
          ·
            rintro _ H5 ⟨B4, vs3, rfl, ex3, st5, nb4, hp3, hA4⟩
            replace hp3 : H5 p1 = some (.lst vs3) := hp3
            replace hA4 : All2 ((rT3 rI rI rI) B4) vs3 c_found2 := hA4
            refine q_if ?_
            by_cases hb : (!j_1) = true
            · have ef2 := if_inv_t hb ef2
              refine goT (b := true) (Ans.to (v_not (v_tB (v_var (by rfl)))) hb) ?_
              refine if_t rfl ?_
              refine q_drop ?_
              refine q_bm ?_
              refine go (v := (V.ref p1)) (v_var (by rfl)) ?_
              refine ⟨tyL (Or.inl (Or.inl hp3)), ?_⟩
              refine q_cons ?_
              refine q_tup ?_
              refine q_cons ?_
              refine go (v := (V.int x1)) (v_var (by rfl)) ?_
              refine q_cons ?_
              refine go (v := (V.int x2)) (v_var (by rfl)) ?_
              refine q_cons ?_
              refine go (v := (V.int r_3)) (v_var (by rfl)) ?_
              refine q_nil ?_
              refine ⟨by show _ ≤ 16777216; simp, ?_⟩
              refine al_giv st5.c fun p2 np2 B5 H6 s4 hB2 => ?_
              have nb4 := s4.out nb4 hp3
              have hp3 := s4.h _ _ List.not_mem_nil hp3
              have hA4 := hA4.imp fun _ _ h => mono s4.b h
              have st6 := st5.t0 s4
              refine q_nil ?_
              obtain ⟨q10, ef2⟩ := ask_some ef2
              have hA5 := hA4.snoc (show (rT3 rI rI rI) B5 (V.ref p2) (x1, x2, r_3) from ⟨p2, _, _, _, rfl, hB2, rfl, rfl, rfl⟩)
              refine ap_go st6 (Or.inl z1) nb4 hp3 (by rw [hA4.length]; exact q10) fun H7 st7 hp4 kp1 => ?_
              obtain rfl := Option.some.inj ef2
              exact hN2 _ _ ⟨B5, _, _, _, _, rfl, ((ex2.trans ex3).trans s4.b), st7, nb4, hp4, hA5⟩
            · have hb := Bool.eq_false_iff.mpr hb
              have ef2 := if_inv_f hb ef2
              refine goT (b := false) (Ans.to (v_not (v_tB (v_var (by rfl)))) hb) ?_
              refine if_f rfl ?_
              refine q_next ?_
              obtain rfl := Option.some.inj ef2
              exact hN2 _ _ ⟨B4, _, _, _, _, rfl, (ex2.trans ex3), st5, nb4, hp3, hA4⟩
        · have hb := Bool.eq_false_iff.mpr hb
          have ef2 := if_inv_f hb ef2
          refine goT (b := false) (Ans.to (v_tb (v_op (v_op v_c (v_var (by rfl)) (fun _ q => ⟨_, _, rfl, rfl, smul_ok q5, q⟩)) (v_op (v_var (by rfl)) (v_var (by rfl)) (fun _ q => ⟨_, _, rfl, rfl, q⟩)) (fun _ q => ⟨_, _, rfl, rfl, q⟩))) hb) ?_
          refine if_f rfl ?_
          refine q_next ?_
          obtain rfl := Option.some.inj ef2
          exact hN2 _ _ ⟨B2, _, _, _, _, rfl, ex2, st4, nb3, hp2, hA3⟩
      ·
        rintro _ H8 ⟨B6, y8, y9, y10, vs4, rfl, ex4, st8, nb5, hp5, hA6⟩
        replace hp5 : H8 p1 = some (.lst vs4) := hp5
        replace hA6 : All2 ((rT3 rI rI rI) B6) vs4 r_2 := hA6
        obtain rfl := Option.some.inj ef1
        exact hN1 _ _ ⟨B6, _, _, _, _, _, rfl, (ex1.trans ex4), st8, nb5, hp5, hA6⟩
    ·
      rintro _ H9 ⟨B7, y11, y12, y13, y14, vs5, rfl, ex5, st9, nb6, hp6, hA7⟩
      replace hp6 : H9 p1 = some (.lst vs5) := hp6
      replace hA7 : All2 ((rT3 rI rI rI) B7) vs5 r_1 := hA7
      refine q_ret ?_
      refine go (v := (V.ref p1)) (v_var (by rfl)) ?_
      obtain ⟨B8, st10, ex6, hB3, out1⟩ := give st9 hp6 z1
      have hA7 := hA7.imp fun _ _ h => mono ex6 h
      obtain rfl := Option.some.inj e
      exact q _ _ _ st10 (⟨p1, _, rfl, hB3, hA7⟩)
end K79
/-! walk -/
namespace K79
open PySem PySem.Spec PyProof.Rows L2 Wk RZ ClX
def sp_is_letters (K : PySem.W.Frag) : Sp := fun vs H Q _ => ∃ (B : Hp) (x_text : (List Nat)) (x_most : Int) (r : Bool), Ex B H ∧ vs = [(tS x_text), (V.int x_most)] ∧ m_is_letters x_text x_most = some r ∧ ∀ v B' H', Stp [] B H B' H' → rB B' v r → Q v H'
theorem ok_is_letters {P : Program} {w : World} {K : PySem.W.Frag} {mg : Str → Option Value} {base : Heap} (E : Tx K mg) : Ok P w K mg base CX0 1 "is_letters" ["text", "most"] (sp_is_letters K) := by
  obtain ⟨fd, F⟩ := E.def_ 0 (d := d_is_letters) rfl
  replace F : FunD K "is_letters" "is_letters" (defArgs s_is_letters) (defBody s_is_letters) (defScope s_is_letters) [] [] (He.ga K "is_letters") fd := F
  have g_len : mg "len" = none := E.free 41
  refine ⟨fd, F.ok sc_is_letters (fun vs H Q E h => ?_) (fun cdv A outer s H0 vs Q X hr h => ?_), F.bindsN fun _ _ _ _ _ _ us hl => match us, hl with | [_, _], _ => rfl, F.kp, E.glo 0⟩
  · obtain ⟨_, _, _, _, _, rfl, _⟩ := h; rfl
  ·
    obtain ⟨B0, x_text, x_most, r, c0, rfl, e, q⟩ := h
    have st0 : Stp [] B0 H0 B0 H0 := Stp.refl c0
    unfold m_is_letters at e
    refine ⟨_, PSs.nox ((pss_cons (ps_if (pt_cmpR op_gt (pe_callB call_len_str (by rfl) g_len PySem.boot_len (pa_cons (pv 0) pa_nil)) (pv 1) (nomark _)) (pss_one (ps_ret pe_bl)) pss_nil) (pss_cons (ps_for PassesOwn.never rfl (pi_str (pv 0)) (pg_name (i := 2) sc_is_letters.nd rfl (by first | exact Or.inl rfl | exact Or.inr rfl)) (pss_one (ps_if (PW.pt (pw_or (pt_cmpR op_lt_str (pv 2) pe_str (nomark _)) (pw_or1 (pt_cmpR op_gt_str (pv 2) pe_str (nomark _))))) (pss_one (ps_ret pe_bl)) pss_nil))) (pss_one (ps_ret pe_bl))))), ?_⟩
    refine q_st (σ' := [some (tS x_text), some (V.int x_most), none]) rfl ?_
    refine q_seq ?_
    refine q_if ?_
    obtain ⟨q1, e⟩ := ask_some e
    by_cases hb : (decide ((x_text.length : Int) > x_most)) = true
    · have e := if_inv_t hb e
      refine goT (b := true) (Ans.to (v_tb (v_op (v_cb1 (v_var (by rfl)) (v_lenS q1)) (v_var (by rfl)) (fun _ q => ⟨_, _, rfl, rfl, q⟩))) hb) ?_
      refine if_t rfl ?_
      refine q_ret ?_
      refine go (v := (V.bl false)) v_c ?_
      obtain rfl := Option.some.inj e
      exact q _ _ _ st0 rfl
    · have hb := Bool.eq_false_iff.mpr hb
      have e := if_inv_f hb e
      refine goT (b := false) (Ans.to (v_tb (v_op (v_cb1 (v_var (by rfl)) (v_lenS q1)) (v_var (by rfl)) (fun _ q => ⟨_, _, rfl, rfl, q⟩))) hb) ?_
      refine if_f rfl ?_
      refine q_next ?_
      refine q_seq ?_
      refine q_for ?_
      refine q_its ?_
      refine go (v := (tS x_text)) (v_var (by rfl)) ?_
      refine ⟨_, rfl, ?_⟩
      obtain ⟨r_1, er1, e⟩ := bind_some e
      refine for_R (Inv := fun (s : Unit) σ H => ∃ (B : Hp) (y_letter : Option V), σ = [some (tS x_text), some (V.int x_most), y_letter] ∧ Ex B0 B ∧ Stp [] B0 H0 B H) er1 ?_ ?_ ?_ ?_ ?_
      · exact ⟨B0, _, rfl, (Ex.refl B0), st0⟩
      · exact str_st
      · exact str_go
      ·
        rintro i1 x1 _ t1 _ H1 hx1 ⟨B1, y1, rfl, ex1, st1⟩ ef1 v1 Hy1 hy1 N1 _ hN1
        change is_letters_b0  x1  = some t1 at ef1
        unfold is_letters_b0 at ef1
        obtain ⟨rfl, rfl⟩ := str_yld hy1 hx1
        refine q_gname ?_
        refine q_st (σ' := [some (tS x_text), some (V.int x_most), some (tS [x1])]) rfl ?_
        refine q_if ?_
        by_cases hb : ((decide ([x1] < ([97] : List Nat))) || (decide (([122] : List Nat) < [x1]))) = true
        · have ef1 := if_inv_t hb ef1
          refine goT (b := true) (Ans.to (v_orT (v_tb (v_op (v_var (by rfl)) v_c (fun _ q => ⟨_, _, rfl, rfl, q⟩))) (v_tb (v_op (v_var (by rfl)) v_c (fun _ q => ⟨_, _, rfl, rfl, q⟩)))) hb) ?_
          refine if_t rfl ?_
          refine q_ret ?_
          refine go (v := (V.bl false)) v_c ?_
          obtain rfl := Option.some.inj ef1
          rw [hN1] at e
          replace e := fin_rt e
          obtain rfl := Option.some.inj e
          exact q _ _ _ st1 rfl
        · have hb := Bool.eq_false_iff.mpr hb
          have ef1 := if_inv_f hb ef1
          refine goT (b := false) (Ans.to (v_orT (v_tb (v_op (v_var (by rfl)) v_c (fun _ q => ⟨_, _, rfl, rfl, q⟩))) (v_tb (v_op (v_var (by rfl)) v_c (fun _ q => ⟨_, _, rfl, rfl, q⟩)))) hb) ?_
          refine if_f rfl ?_
          refine q_next ?_
          obtain rfl := Option.some.inj ef1
          exact hN1 _ _ ⟨B1, _, rfl, ex1, st1⟩
      ·
        rintro s1 _ H2 hz1 ⟨B2, y2, rfl, ex2, st2⟩
        rw [hz1] at e
        replace e := fin_nx e
        refine q_ret ?_
        refine go (v := (V.bl true)) v_c ?_
        obtain rfl := Option.some.inj e
        exact q _ _ _ st2 rfl
end K79
/-! walk -/
namespace K79
open PySem PySem.Spec PyProof.Rows L2 Wk RZ ClX
def sp_is_word (K : PySem.W.Frag) : Sp := fun vs H Q _ => ∃ (B : Hp) (x_text : (List Nat)) (r : Bool), Ex B H ∧ vs = [(tS x_text)] ∧ m_is_word x_text = some r ∧ ∀ v B' H', Stp [] B H B' H' → rB B' v r → Q v H'
theorem ok_is_word {P : Program} {w : World} {K : PySem.W.Frag} {mg : Str → Option Value} {base : Heap} (E : Tx K mg) : Ok P w K mg base CX0 2 "is_word" ["text"] (sp_is_word K) := by
  obtain ⟨fd, F⟩ := E.def_ 1 (d := d_is_word) rfl
  replace F : FunD K "is_word" "is_word" (defArgs s_is_word) (defBody s_is_word) (defScope s_is_word) [] [] (He.ga K "is_word") fd := F
  obtain ⟨fd_is_letters, G_is_letters, b_is_letters, kp_is_letters, m_is_letters⟩ := ok_is_letters (P := P) (w := w) (base := base) E
  refine ⟨fd, F.ok sc_is_word (fun vs H Q E h => ?_) (fun cdv A outer s H0 vs Q X hr h => ?_), F.bindsN fun _ _ _ _ _ _ us hl => match us, hl with | [_], _ => rfl, F.kp, E.glo 1⟩
  · obtain ⟨_, _, _, _, rfl, _⟩ := h; rfl
  ·
    obtain ⟨B0, x_text, r, c0, rfl, e, q⟩ := h
    have st0 : Stp [] B0 H0 B0 H0 := Stp.refl c0
    unfold m_is_word at e
    refine ⟨_, PSs.nox ((pss_one (ps_ret (pe_call G_is_letters (hr.mono (by decide)) (by rfl) m_is_letters kp_is_letters b_is_letters .nil pass0 (pa_cons (pv 0) (pa_cons pe_int pa_nil)))))), ?_⟩
    refine q_st (σ' := [some (tS x_text)]) rfl ?_
    refine q_ret ?_
    refine q_call ?_
    refine q_cons ?_
    refine go (v := (tS x_text)) (v_var (by rfl)) ?_
    refine q_cons ?_
    refine go (v := (V.int (60 : Int))) v_c ?_
    refine q_nil ?_
    obtain ⟨r_1, e_r_1, e⟩ := bind_some e
    refine ⟨B0, x_text, (60 : Int), r_1, st0.c, rfl, e_r_1, ?_⟩
    intro v1 B1 H1 s1 h1
    obtain rfl := h1
    have s2 := s1.keepB st0.c (fun _ z => absurd z List.not_mem_nil)
    have st1 := st0.t0 s2
    obtain rfl := Option.some.inj e
    exact q _ _ _ st1 rfl
end K79
/-! walk -/
namespace K79
open PySem PySem.Spec PyProof.Rows L2 Wk RZ ClX
def sp_check_word (K : PySem.W.Frag) : Sp := fun vs H Q _ => ∃ (B : Hp) (x_word : (List Nat)) (r : Unit), Ex B H ∧ vs = [(tS x_word)] ∧ m_check_word x_word = some r ∧ ∀ v B' H', Stp [] B H B' H' → rN B' v r → Q v H'
theorem ok_check_word {P : Program} {w : World} {K : PySem.W.Frag} {mg : Str → Option Value} {base : Heap} (E : Tx K mg) : Ok P w K mg base CX0 3 "check_word" ["word"] (sp_check_word K) := by
  obtain ⟨fd, F⟩ := E.def_ 2 (d := d_check_word) rfl
  replace F : FunD K "check_word" "check_word" (defArgs s_check_word) (defBody s_check_word) (defScope s_check_word) [] [] (He.ga K "check_word") fd := F
  obtain ⟨fd_is_word, G_is_word, b_is_word, kp_is_word, m_is_word⟩ := ok_is_word (P := P) (w := w) (base := base) E
  refine ⟨fd, F.ok sc_check_word (fun vs H Q E h => ?_) (fun cdv A outer s H0 vs Q X hr h => ?_), F.bindsN fun _ _ _ _ _ _ us hl => match us, hl with | [_], _ => rfl, F.kp, E.glo 2⟩
  · obtain ⟨_, _, _, _, rfl, _⟩ := h; rfl
  ·
    obtain ⟨B0, x_word, r, c0, rfl, e, q⟩ := h
    have st0 : Stp [] B0 H0 B0 H0 := Stp.refl c0
    unfold m_check_word at e
    refine ⟨_, PSs.nox ((pss_one (ps_if (pt_not (pt_val (pe_call G_is_word (hr.mono (by decide)) (by rfl) m_is_word kp_is_word b_is_word .nil pass0 (pa_cons (pv 0) pa_nil)))) (pss_one ps_never) pss_nil))), ?_⟩
    refine q_st (σ' := [some (tS x_word)]) rfl ?_
    refine q_if ?_
    refine q_not ?_
    refine q_tB ?_
    refine q_call ?_
    refine q_cons ?_
    refine go (v := (tS x_word)) (v_var (by rfl)) ?_
    refine q_nil ?_
    obtain ⟨r_1, e_r_1, e⟩ := bind_some e
    refine ⟨B0, x_word, r_1, st0.c, rfl, e_r_1, ?_⟩
    intro v1 B1 H1 s1 h1
    obtain rfl := h1
    have s2 := s1.keepB st0.c (fun _ z => absurd z List.not_mem_nil)
    have st1 := st0.t0 s2
    by_cases hb : r_1 = true
    · have e := if_inv_t hb e
      refine ⟨true, by rw [hb], ?_⟩
      refine if_f rfl ?_
      refine q_next ?_
      obtain rfl := Option.some.inj e
      exact q _ _ _ st1 rfl
    · have hb := Bool.eq_false_iff.mpr hb
      have e := if_inv_f hb e
      refine ⟨false, by rw [hb], ?_⟩
      refine if_t rfl ?_
      cases e
end K79
/-! walk -/
namespace K79
open PySem PySem.Spec PyProof.Rows L2 Wk RZ ClX
def sp_longest_stretches (K : PySem.W.Frag) : Sp := fun vs H Q _ => ∃ (B : Hp) (x_word : (List Nat)) (x_period : Int) (r : (List (Int × Int))), Ex B H ∧ vs = [(tS x_word), (V.int x_period)] ∧ m_longest_stretches x_word x_period = some r ∧ ∀ v B' H', Stp [] B H B' H' → (rL (rT2 rI rI)) B' v r → Q v H'
theorem ok_longest_stretches {P : Program} {w : World} {K : PySem.W.Frag} {mg : Str → Option Value} {base : Heap} (E : Tx K mg) : Ok P w K mg base CX0 1 "_longest_stretches" ["word", "period"] (sp_longest_stretches K) := by
  obtain ⟨fd, F⟩ := E.def_ 4 (d := d_longest_stretches) rfl
  replace F : FunD K "_longest_stretches" "_longest_stretches" (defArgs s_longest_stretches) (defBody s_longest_stretches) (defScope s_longest_stretches) [] [] (He.ga K "_longest_stretches") fd := F
  have g_range : mg "range" = none := E.free 42
  have g_len : mg "len" = none := E.free 41
  refine ⟨fd, F.ok sc_longest_stretches (fun vs H Q E h => ?_) (fun cdv A outer s H0 vs Q X hr h => ?_), F.bindsN fun _ _ _ _ _ _ us hl => match us, hl with | [_, _], _ => rfl, F.kp, E.glo 4⟩
  · obtain ⟨_, _, _, _, _, rfl, _⟩ := h; rfl
  ·
    obtain ⟨B0, x_word, x_period, r, c0, rfl, e, q⟩ := h
    have st0 : Stp [] B0 H0 B0 H0 := Stp.refl c0
    unfold m_longest_stretches at e
    refine ⟨_, PSs.nox ((pss_cons (ps_set (i := 2) sc_longest_stretches.nd rfl (by first | exact Or.inl rfl | exact Or.inr rfl) (pe_lst pa_nil)) (pss_cons (ps_set (i := 3) sc_longest_stretches.nd rfl (by first | exact Or.inl rfl | exact Or.inr rfl) pe_int) (pss_cons (ps_for PassesOwn.never rfl (pi_range2 (by rfl) g_range (pa_cons (pv 1) (pa_cons (pe_op op_add (pe_callB call_len_str (by rfl) g_len PySem.boot_len (pa_cons (pv 0) pa_nil)) pe_int) pa_nil))) (pg_name (i := 4) sc_longest_stretches.nd rfl (by first | exact Or.inl rfl | exact Or.inr rfl)) (pss_cons (ps_if (PW.pt (pw_and (pt_cmpR op_lt (pv 4) (pe_callB call_len_str (by rfl) g_len PySem.boot_len (pa_cons (pv 0) pa_nil)) (nomark _)) (pw_and1 (pt_cmpR op_eq (pe_ix ix_str (pv 0) (pv 4) (fun _ _ => rfl)) (pe_ix ix_str (pv 0) (pe_op op_sub (pv 4) (pv 1)) (fun _ _ => rfl)) (nomark _))))) (pss_one ps_continue) pss_nil) (Evl.pss_cut (ps_if (pt_cmpR op_ge (pe_op op_sub (pv 4) (pv 3)) (pe_op op_mulW pe_int (pv 1)) (nomark _)) (pss_one (ps_expr (pe_bm PySem.F.plainAttrs_list PySem.F.slot_list_append PySem.F.type_list_append mt_append (pv 2) (pa_cons (pe_tup (pa_cons (pv 3) (pa_cons (pv 4) pa_nil))) pa_nil)))) pss_nil) (pss_one (ps_set (i := 3) sc_longest_stretches.nd rfl (by first | exact Or.inl rfl | exact Or.inr rfl) (pe_op op_add (pe_op op_sub (pv 4) (pv 1)) pe_int)))))) (pss_one (ps_ret (pv 2))))))), ?_⟩
    refine q_st (σ' := [some (tS x_word), some (V.int x_period), none, none, none]) rfl ?_
    refine q_seq ?_
    refine q_set ?_
    refine q_lst ?_
    refine q_nil ?_
    refine ⟨by show _ ≤ 16777216; simp, ?_⟩
    have hA1 : All2 ((rT2 rI rI) B0) [] ([] : (List (Int × Int))) := All2.nil
    refine al_own st0.c fun p1 np1 H1 s1 hB1 nb1 => ?_
    have z1 := st0.g _ np1
    have st1 := st0.t0 s1
    refine q_nx (σ' := [some (tS x_word), some (V.int x_period), some (V.ref p1), none, none]) rfl ?_
    refine q_seq ?_
    refine q_set ?_
    refine go (v := (V.int (0 : Int))) v_c ?_
    refine q_nx (σ' := [some (tS x_word), some (V.int x_period), some (V.ref p1), some (V.int (0 : Int)), none]) rfl ?_
    refine q_seq ?_
    refine q_for ?_
    refine q_rng2 ?_
    refine q_cons ?_
    refine go (v := (V.int x_period)) (v_var (by rfl)) ?_
    refine q_cons ?_
    obtain ⟨q1, e⟩ := ask_some e
    refine go (v := (V.int ((x_word.length : Int) + (1 : Int)))) (v_op (v_cb1 (v_var (by rfl)) (v_lenS q1)) v_c (fun _ q => ⟨_, _, rfl, rfl, q⟩)) ?_
    refine q_nil ?_
    obtain ⟨q2, e⟩ := ask_some e
    refine ⟨_, _, rfl, q2, ?_⟩
    obtain ⟨r_1, er1, e⟩ := bind_some e
    refine for_N (Inv := fun (s : ((List (Int × Int)) × Int)) σ H => ∃ (B : Hp) (y_place : Option V) (vs_found : List V), σ = [some (tS x_word), some (V.int x_period), some (V.ref p1), some (V.int s.2), y_place] ∧ Ex B0 B ∧ Stp [] B0 H0 B H ∧ B p1 = none ∧ H p1 = some (.lst vs_found) ∧ All2 ((rT2 rI rI) B) vs_found s.1) er1 ?_ ?_ ?_ ?_ ?_
    · exact ⟨B0, _, _, rfl, (Ex.refl B0), st1, nb1, hB1, hA1⟩
    · exact rng_st
    · exact rng_go
    ·
      rintro i1 x1 ⟨c_found1, c_start1⟩ t1 _ H2 hx1 ⟨B1, y1, vs1, rfl, ex1, st2, nb2, hp1, hA2⟩ ef1 v1 Hy1 hy1 N1 hN1
      replace hp1 : H2 p1 = some (.lst vs1) := hp1
      replace hA2 : All2 ((rT2 rI rI) B1) vs1 c_found1 := hA2
      change longest_stretches_b0 x_word x_period x1 c_found1 c_start1 = some t1 at ef1
      unfold longest_stretches_b0 at ef1
      obtain ⟨rfl, rfl⟩ := rng_yld hy1 hx1
      refine q_gname ?_
      refine q_st (σ' := [some (tS x_word), some (V.int x_period), some (V.ref p1), some (V.int c_start1), some (V.int x1)]) rfl ?_
      refine q_seq ?_
      refine q_if ?_
      obtain ⟨q3, ef1⟩ := ask_some ef1
      obtain ⟨c_3, e_c_3, ef1⟩ := bind_some ef1
      by_cases hb : c_3 = true
      · have ef1 := if_inv_t hb ef1
        refine goT (b := true) (Ans.to (v_and (v_tb (v_op (v_var (by rfl)) (v_cb1 (v_var (by rfl)) (v_lenS q3)) (fun _ q => ⟨_, _, rfl, rfl, q⟩))) e_c_3 (fun _ k1 => by obtain ⟨q4, k1⟩ := ask_some k1; obtain ⟨c_1, e_c_1, k1⟩ := bind_some k1; obtain ⟨q5, k1⟩ := ask_some k1; obtain ⟨c_2, e_c_2, k1⟩ := bind_some k1; obtain rfl := Option.some.inj k1; exact (v_tb (v_op (v_op (v_var (by rfl)) (v_var (by rfl)) (v_ixS q4 e_c_1)) (v_op (v_var (by rfl)) (v_op (v_var (by rfl)) (v_var (by rfl)) (fun _ q => ⟨_, _, rfl, rfl, q⟩)) (v_ixS q5 e_c_2)) v_eqS)))) hb) ?_
        refine if_t rfl ?_
        refine q_cont ?_
        obtain rfl := Option.some.inj ef1
        exact hN1 _ _ ⟨B1, _, _, rfl, ex1, st2, nb2, hp1, hA2⟩
      · have hb := Bool.eq_false_iff.mpr hb
        have ef1 := if_inv_f hb ef1
        refine goT (b := false) (Ans.to (v_and (v_tb (v_op (v_var (by rfl)) (v_cb1 (v_var (by rfl)) (v_lenS q3)) (fun _ q => ⟨_, _, rfl, rfl, q⟩))) e_c_3 (fun _ k1 => by obtain ⟨q4, k1⟩ := ask_some k1; obtain ⟨c_1, e_c_1, k1⟩ := bind_some k1; obtain ⟨q5, k1⟩ := ask_some k1; obtain ⟨c_2, e_c_2, k1⟩ := bind_some k1; obtain rfl := Option.some.inj k1; exact (v_tb (v_op (v_op (v_var (by rfl)) (v_var (by rfl)) (v_ixS q4 e_c_1)) (v_op (v_var (by rfl)) (v_op (v_var (by rfl)) (v_var (by rfl)) (fun _ q => ⟨_, _, rfl, rfl, q⟩)) (v_ixS q5 e_c_2)) v_eqS)))) hb) ?_
        refine if_f rfl ?_
        refine q_next ?_
        obtain ⟨j_1, ej1, ef1⟩ := bind_some ef1
        refine q_cut (Mid := MidP fun σ H => ∃ (B : Hp) (vs_found : List V), σ = [some (tS x_word), some (V.int x_period), some (V.ref p1), some (V.int c_start1), some (V.int x1)] ∧ Ex B1 B ∧ Stp [] B0 H0 B H ∧ B p1 = none ∧ H p1 = some (.lst vs_found) ∧ All2 ((rT2 rI rI) B) vs_found j_1) ?_ ?_
        ·
          refine q_if ?_
          obtain ⟨q6, ej1⟩ := ask_some ej1
          by_cases hb : (decide ((x1 - c_start1) ≥ ((2 : Int) * x_period))) = true
          · have ej1 := if_inv_t hb ej1
            refine goT (b := true) (Ans.to (v_tb (v_op (v_op (v_var (by rfl)) (v_var (by rfl)) (fun _ q => ⟨_, _, rfl, rfl, q⟩)) (v_op v_c (v_var (by rfl)) (fun _ q => ⟨_, _, rfl, rfl, smul_ok q6, q⟩)) (fun _ q => ⟨_, _, rfl, rfl, q⟩))) hb) ?_
            refine if_t rfl ?_
            refine q_drop ?_
            refine q_bm ?_
            refine go (v := (V.ref p1)) (v_var (by rfl)) ?_
            refine ⟨tyL (Or.inl (Or.inl hp1)), ?_⟩
            refine q_cons ?_
            refine q_tup ?_
            refine q_cons ?_
            refine go (v := (V.int c_start1)) (v_var (by rfl)) ?_
            refine q_cons ?_
            refine go (v := (V.int x1)) (v_var (by rfl)) ?_
            refine q_nil ?_
            refine ⟨by show _ ≤ 16777216; simp, ?_⟩
            refine al_giv st2.c fun p2 np2 B2 H3 s2 hB2 => ?_
            have nb2 := s2.out nb2 hp1
            have hp1 := s2.h _ _ List.not_mem_nil hp1
            have hA2 := hA2.imp fun _ _ h => mono s2.b h
            have st3 := st2.t0 s2
            refine q_nil ?_
            obtain ⟨q7, ej1⟩ := ask_some ej1
            have hA3 := hA2.snoc (show (rT2 rI rI) B2 (V.ref p2) (c_start1, x1) from ⟨p2, _, _, rfl, hB2, rfl, rfl⟩)
            refine ap_go st3 (Or.inl z1) nb2 hp1 (by rw [hA2.length]; exact q7) fun H4 st4 hp2 kp1 => ?_
            obtain rfl := Option.some.inj ej1
            exact ⟨B2, _, rfl, ((Ex.refl B1).trans s2.b), st4, nb2, hp2, hA3⟩
          · have hb := Bool.eq_false_iff.mpr hb
            have ej1 := if_inv_f hb ej1
            refine goT (b := false) (Ans.to (v_tb (v_op (v_op (v_var (by rfl)) (v_var (by rfl)) (fun _ q => ⟨_, _, rfl, rfl, q⟩)) (v_op v_c (v_var (by rfl)) (fun _ q => ⟨_, _, rfl, rfl, smul_ok q6, q⟩)) (fun _ q => ⟨_, _, rfl, rfl, q⟩))) hb) ?_
            refine if_f rfl ?_
            refine q_next ?_
            obtain rfl := Option.some.inj ej1
            exact ⟨B1, _, rfl, (Ex.refl B1), st2, nb2, hp1, hA2⟩
        ·
          rintro _ H5 ⟨B3, vs2, rfl, ex2, st5, nb3, hp3, hA4⟩
          replace hp3 : H5 p1 = some (.lst vs2) := hp3
          replace hA4 : All2 ((rT2 rI rI) B3) vs2 j_1 := hA4
          refine q_set ?_
          refine go (v := (V.int ((x1 - x_period) + (1 : Int)))) (v_op (v_op (v_var (by rfl)) (v_var (by rfl)) (fun _ q => ⟨_, _, rfl, rfl, q⟩)) v_c (fun _ q => ⟨_, _, rfl, rfl, q⟩)) ?_
          refine q_nx (σ' := [some (tS x_word), some (V.int x_period), some (V.ref p1), some (V.int ((x1 - x_period) + (1 : Int))), some (V.int x1)]) rfl ?_
          obtain rfl := Option.some.inj ef1
          exact hN1 _ _ ⟨B3, _, _, rfl, (ex1.trans ex2), st5, nb3, hp3, hA4⟩
    ·
      rintro _ H6 ⟨B4, y2, vs3, rfl, ex3, st6, nb4, hp4, hA5⟩
      replace hp4 : H6 p1 = some (.lst vs3) := hp4
      replace hA5 : All2 ((rT2 rI rI) B4) vs3 r_1.1 := hA5
      refine q_ret ?_
      refine go (v := (V.ref p1)) (v_var (by rfl)) ?_
      obtain ⟨B5, st7, ex4, hB3, out1⟩ := give st6 hp4 z1
      have hA5 := hA5.imp fun _ _ h => mono ex4 h
      obtain rfl := Option.some.inj e
      exact q _ _ _ st7 (⟨p1, _, rfl, hB3, hA5⟩)
end K79
/-! walk -/
namespace K79
open PySem PySem.Spec PyProof.Rows L2 Wk RZ ClX
def sp_is_power (K : PySem.W.Frag) : Sp := fun vs H Q _ => ∃ (B : Hp) (x_text : (List Nat)) (r : Bool), Ex B H ∧ vs = [(tS x_text)] ∧ m_is_power x_text = some r ∧ ∀ v B' H', Stp [] B H B' H' → rB B' v r → Q v H'
theorem ok_is_power {P : Program} {w : World} {K : PySem.W.Frag} {mg : Str → Option Value} {base : Heap} (E : Tx K mg) : Ok P w K mg base CX0 1 "_is_power" ["text"] (sp_is_power K) := by
  obtain ⟨fd, F⟩ := E.def_ 5 (d := d_is_power) rfl
  replace F : FunD K "_is_power" "_is_power" (defArgs s_is_power) (defBody s_is_power) (defScope s_is_power) [] [] (He.ga K "_is_power") fd := F
  have g_len : mg "len" = none := E.free 41
  refine ⟨fd, F.ok sc_is_power (fun vs H Q E h => ?_) (fun cdv A outer s H0 vs Q X hr h => ?_), F.bindsN fun _ _ _ _ _ _ us hl => match us, hl with | [_], _ => rfl, F.kp, E.glo 5⟩
  · obtain ⟨_, _, _, _, rfl, _⟩ := h; rfl
  ·
    obtain ⟨B0, x_text, r, c0, rfl, e, q⟩ := h
    have st0 : Stp [] B0 H0 B0 H0 := Stp.refl c0
    unfold m_is_power at e
    refine ⟨_, PSs.nox ((pss_one (ps_ret (pe_cmpR op_lt (pe_bm PySem.F.plainAttrs_str PySem.F.slot_str_find PySem.F.type_str_find mt_find3 (pe_op op_add_str (pv 0) (pv 0)) (pa_cons (pv 0) (pa_cons pe_int pa_nil))) (pe_callB call_len_str (by rfl) g_len PySem.boot_len (pa_cons (pv 0) pa_nil)) (nomark _))))), ?_⟩
    refine q_st (σ' := [some (tS x_text)]) rfl ?_
    refine q_ret ?_
    obtain ⟨q1, e⟩ := ask_some e
    obtain ⟨q2, e⟩ := ask_some e
    refine go (v := (V.bl (decide ((findT (x_text ++ x_text) x_text (1 : Int)) < (x_text.length : Int))))) (v_op (v_sm2 (v_op (v_var (by rfl)) (v_var (by rfl)) (v_addS q1)) (v_var (by rfl)) v_c v_find3) (v_cb1 (v_var (by rfl)) (v_lenS q2)) (fun _ q => ⟨_, _, rfl, rfl, q⟩)) ?_
    obtain rfl := Option.some.inj e
    exact q _ _ _ st0 rfl
end K79
/-! walk -/
namespace K79
open PySem PySem.Spec PyProof.Rows L2 Wk RZ ClX
def sp_runs_of (K : PySem.W.Frag) : Sp := fun vs H Q _ => ∃ (B : Hp) (x_word : (List Nat)) (r : (List (Int × Int × Int))), Ex B H ∧ vs = [(tS x_word)] ∧ m_runs_of x_word = some r ∧ ∀ p B' H' vs', Stp [] B H B' H' → H p = none → B' p = none → H' p = some (.lst vs') → All2 ((rT3 rI rI rI) B') vs' r → Q (.ref p) H'
theorem ok_runs_of {P : Program} {w : World} {K : PySem.W.Frag} {mg : Str → Option Value} {base : Heap} (E : Tx K mg) : Ok P w K mg base CX0 2 "runs_of" ["word"] (sp_runs_of K) := by
  obtain ⟨fd, F⟩ := E.def_ 12 (d := d_runs_of) rfl
  replace F : FunD K "runs_of" "runs_of" (defArgs s_runs_of) (defBody s_runs_of) (defScope s_runs_of) [] [] (He.ga K "runs_of") fd := F
  obtain ⟨fd_longest_stretches, G_longest_stretches, b_longest_stretches, kp_longest_stretches, m_longest_stretches⟩ := ok_longest_stretches (P := P) (w := w) (base := base) E
  obtain ⟨fd_is_power, G_is_power, b_is_power, kp_is_power, m_is_power⟩ := ok_is_power (P := P) (w := w) (base := base) E
  have g_range : mg "range" = none := E.free 42
  have g_len : mg "len" = none := E.free 41
  have g_sorted : mg "sorted" = none := E.free 44
  refine ⟨fd, F.ok sc_runs_of (fun vs H Q E h => ?_) (fun cdv A outer s H0 vs Q X hr h => ?_), F.bindsN fun _ _ _ _ _ _ us hl => match us, hl with | [_], _ => rfl, F.kp, E.glo 12⟩
  · obtain ⟨_, _, _, _, rfl, _⟩ := h; rfl
  ·
    obtain ⟨B0, x_word, r, c0, rfl, e, q⟩ := h
    have st0 : Stp [] B0 H0 B0 H0 := Stp.refl c0
    unfold m_runs_of at e
    refine ⟨_, PSs.nox ((pss_cons (ps_set (i := 1) sc_runs_of.nd rfl (by first | exact Or.inl rfl | exact Or.inr rfl) (pe_lst pa_nil)) (pss_cons (ps_for PassesOwn.never rfl (pi_range2 (by rfl) g_range (pa_cons pe_int (pa_cons (pe_op op_add (pe_op op_fdivW (pe_callB call_len_str (by rfl) g_len PySem.boot_len (pa_cons (pv 0) pa_nil)) pe_int) pe_int) pa_nil))) (pg_name (i := 2) sc_runs_of.nd rfl (by first | exact Or.inl rfl | exact Or.inr rfl)) (pss_one (ps_for PassesOwn.never rfl (pi_list (pe_call G_longest_stretches (hr.mono (by decide)) (by rfl) m_longest_stretches kp_longest_stretches b_longest_stretches .nil pass0 (pa_cons (pv 0) (pa_cons (pv 2) pa_nil)))) (pg_tup rfl (pgs_cons (pg_name (i := 3) sc_runs_of.nd rfl (by first | exact Or.inl rfl | exact Or.inr rfl)) (pgs_cons (pg_name (i := 4) sc_runs_of.nd rfl (by first | exact Or.inl rfl | exact Or.inr rfl)) pgs_nil))) (pss_one (ps_if (pt_not (pt_val (pe_call G_is_power (hr.mono (by decide)) (by rfl) m_is_power kp_is_power b_is_power .nil pass0 (pa_cons (pe_slice sl_str (pv 0) (po_some (pv 3)) (po_some (pe_op op_add (pv 3) (pv 2)))) pa_nil)))) (pss_one (ps_expr (pe_bm PySem.F.plainAttrs_list PySem.F.slot_list_append PySem.F.type_list_append mt_append (pv 1) (pa_cons (pe_tup (pa_cons (pv 3) (pa_cons (pv 4) (pa_cons (pv 2) pa_nil)))) pa_nil)))) pss_nil))))) (pss_one (ps_ret (pe_callB (cr_sortT 2) (by rfl) g_sorted (by decide +kernel) (pa_cons (pv 1) pa_nil))))))), ?_⟩
    refine q_st (σ' := [some (tS x_word), none, none, none, none]) rfl ?_
    refine q_seq ?_
    refine q_set ?_
    refine q_lst ?_
    refine q_nil ?_
    refine ⟨by show _ ≤ 16777216; simp, ?_⟩
    have hA1 : All2 ((rT3 rI rI rI) B0) [] ([] : (List (Int × Int × Int))) := All2.nil
    refine al_own st0.c fun p1 np1 H1 s1 hB1 nb1 => ?_
    have z1 := st0.g _ np1
    have st1 := st0.t0 s1
    refine q_nx (σ' := [some (tS x_word), some (V.ref p1), none, none, none]) rfl ?_
    refine q_seq ?_
    refine q_for ?_
    refine q_rng2 ?_
    refine q_cons ?_
    refine go (v := (V.int (1 : Int))) v_c ?_
    refine q_cons ?_
    obtain ⟨q1, e⟩ := ask_some e
    obtain ⟨q2, e⟩ := ask_some e
    refine go (v := (V.int (((x_word.length : Int) / (2 : Int)) + (1 : Int)))) (v_op (v_op (v_cb1 (v_var (by rfl)) (v_lenS q1)) v_c (fun _ q => ⟨_, _, rfl, rfl, sdiv_ok q2, q⟩)) v_c (fun _ q => ⟨_, _, rfl, rfl, q⟩)) ?_
    refine q_nil ?_
    obtain ⟨q3, e⟩ := ask_some e
    refine ⟨_, _, rfl, q3, ?_⟩
    obtain ⟨r_1, er1, e⟩ := bind_some e
    refine for_N (Inv := fun (s : (List (Int × Int × Int))) σ H => ∃ (B : Hp) (y_period : Option V) (y_start : Option V) (y_end : Option V) (vs_found : List V), σ = [some (tS x_word), some (V.ref p1), y_period, y_start, y_end] ∧ Ex B0 B ∧ Stp [] B0 H0 B H ∧ B p1 = none ∧ H p1 = some (.lst vs_found) ∧ All2 ((rT3 rI rI rI) B) vs_found s) er1 ?_ ?_ ?_ ?_ ?_
    · exact ⟨B0, _, _, _, _, rfl, (Ex.refl B0), st1, nb1, hB1, hA1⟩
    · exact rng_st
    · exact rng_go
    ·
      rintro i1 x1 c_found1 t1 _ H2 hx1 ⟨B1, y1, y2, y3, vs1, rfl, ex1, st2, nb2, hp1, hA2⟩ ef1 v1 Hy1 hy1 N1 hN1
      replace hp1 : H2 p1 = some (.lst vs1) := hp1
      replace hA2 : All2 ((rT3 rI rI rI) B1) vs1 c_found1 := hA2
      change runs_of_b0 x_word x1 c_found1 = some t1 at ef1
      unfold runs_of_b0 at ef1
      obtain ⟨rfl, rfl⟩ := rng_yld hy1 hx1
      refine q_gname ?_
      refine q_st (σ' := [some (tS x_word), some (V.ref p1), some (V.int x1), y2, y3]) rfl ?_
      refine q_for ?_
      refine q_itl ?_
      refine q_call ?_
      refine q_cons ?_
      refine go (v := (tS x_word)) (v_var (by rfl)) ?_
      refine q_cons ?_
      refine go (v := (V.int x1)) (v_var (by rfl)) ?_
      refine q_nil ?_
      obtain ⟨r_2, e_r_2, ef1⟩ := bind_some ef1
      refine ⟨B1, x_word, x1, r_2, st2.c, rfl, e_r_2, ?_⟩
      intro v2 B2 H3 s2 h1
      have nb2 := s2.out nb2 hp1
      have hp1 := s2.h _ _ List.not_mem_nil hp1
      have hA2 := hA2.imp fun _ _ h => mono s2.b h
      have st3 := st2.t0 s2
      obtain ⟨a_r1, vs_r1, rfl, hB_r1, hA_r1⟩ := h1
      refine ⟨_, rfl, ⟨_, (Or.inl (Or.inl (st3.c _ _ hB_r1)))⟩, ?_⟩
      obtain ⟨r_3, er2, ef1⟩ := bind_some ef1
      refine for_N (Inv := fun (s : (List (Int × Int × Int))) σ H => ∃ (B : Hp) (y_start : Option V) (y_end : Option V) (vs_found : List V), σ = [some (tS x_word), some (V.ref p1), some (V.int x1), y_start, y_end] ∧ Ex B2 B ∧ Stp [] B0 H0 B H ∧ B p1 = none ∧ H p1 = some (.lst vs_found) ∧ All2 ((rT3 rI rI rI) B) vs_found s) er2 ?_ ?_ ?_ ?_ ?_
      · exact ⟨B2, _, _, _, rfl, (Ex.refl B2), st3, nb2, hp1, hA2⟩
      · refine lst_st (vs := vs_r1) ?_ hA_r1.length
        rintro s σ H ⟨B, _, _, _, rfl, ex, st, _, _, _⟩
        exact Or.inl (Or.inl (st.c _ _ (ex _ _ hB_r1)))
      · refine lst_go (vs := vs_r1) ?_ hA_r1.length
        rintro s σ H ⟨B, _, _, _, rfl, ex, st, _, _, _⟩
        exact Or.inl (Or.inl (st.c _ _ (ex _ _ hB_r1)))
      ·
        rintro i2 x2 c_found2 t2 _ H4 hx2 ⟨B3, y4, y5, vs2, rfl, ex2, st4, nb3, hp2, hA3⟩ ef2 v3 Hy2 hy2 N2 hN2
        replace hp2 : H4 p1 = some (.lst vs2) := hp2
        replace hA3 : All2 ((rT3 rI rI rI) B3) vs2 c_found2 := hA3
        have hB_r1 := ex2 _ _ hB_r1
        have hA_r1 := hA_r1.imp fun _ _ h => mono ex2 h
        change runs_of_b1 x_word x1 x2 c_found2 = some t2 at ef2
        unfold runs_of_b1 at ef2
        obtain ⟨rfl, hv1⟩ := lst_yld hy2 (Or.inl (Or.inl (st4.c _ _ hB_r1)))
        have hr1 := hA_r1.get hv1 hx2
        obtain ⟨a_x1, w_x1, w_x2, rfl, hB_x1, h_x1, h_x2⟩ := hr1
        obtain rfl := h_x1
        obtain rfl := h_x2
        refine ⟨_, _, rfl, (Or.inl (Or.inl (st4.c _ _ hB_x1))), rfl, ?_⟩
        refine ⟨_, _, rfl, ?_⟩
        refine q_gname ?_
        refine ⟨_, _, rfl, ?_⟩
        refine q_gname ?_
        refine ⟨rfl, ?_⟩
        refine q_st (σ' := [some (tS x_word), some (V.ref p1), some (V.int x1), some (V.int x2.1), some (V.int x2.2)]) rfl ?_
        refine q_if ?_
        refine q_not ?_
        refine q_tB ?_
        refine q_call ?_
        refine q_cons ?_
        obtain ⟨q4, ef2⟩ := ask_some ef2
        refine go (v := (tS (cutT x_word (some x2.1) (some (x2.1 + x1))))) (v_cutS (v_var (by rfl)) (v_po1 (v_var (by rfl))) (v_po1 (v_op (v_var (by rfl)) (v_var (by rfl)) (fun _ q => ⟨_, _, rfl, rfl, q⟩))) q4) ?_
        refine q_nil ?_
        obtain ⟨r_4, e_r_4, ef2⟩ := bind_some ef2
        refine ⟨B3, (cutT x_word (some x2.1) (some (x2.1 + x1))), r_4, st4.c, rfl, e_r_4, ?_⟩
        intro v4 B4 H5 s3 h2
        obtain rfl := h2
        have s4 := s3.keepB st4.c (fun _ z => absurd z List.not_mem_nil)
        have hp2 := s4.h _ _ List.not_mem_nil hp2
        have st5 := st4.t0 s4
        by_cases hb : r_4 = true
        · have ef2 := if_inv_t hb ef2
          refine ⟨true, by rw [hb], ?_⟩
          refine if_f rfl ?_
          refine q_next ?_
          obtain rfl := Option.some.inj ef2
          exact hN2 _ _ ⟨B3, _, _, _, rfl, ex2, st5, nb3, hp2, hA3⟩
        · have hb := Bool.eq_false_iff.mpr hb
          have ef2 := if_inv_f hb ef2
          refine ⟨false, by rw [hb], ?_⟩
          refine if_t rfl ?_
          refine q_drop ?_
          refine q_bm ?_
          refine go (v := (V.ref p1)) (v_var (by rfl)) ?_
          refine ⟨tyL (Or.inl (Or.inl hp2)), ?_⟩
          refine q_cons ?_
          refine q_tup ?_
          refine q_cons ?_
          refine go (v := (V.int x2.1)) (v_var (by rfl)) ?_
          refine q_cons ?_
          refine go (v := (V.int x2.2)) (v_var (by rfl)) ?_
          refine q_cons ?_
          refine go (v := (V.int x1)) (v_var (by rfl)) ?_
          refine q_nil ?_
          refine ⟨by show _ ≤ 16777216; simp, ?_⟩
          refine al_giv st5.c fun p2 np2 B5 H6 s5 hB2 => ?_
          have nb3 := s5.out nb3 hp2
          have hp2 := s5.h _ _ List.not_mem_nil hp2
          have hA3 := hA3.imp fun _ _ h => mono s5.b h
          have hB_r1 := s5.b _ _ hB_r1
          have hA_r1 := hA_r1.imp fun _ _ h => mono s5.b h
          have st6 := st5.t0 s5
          refine q_nil ?_
          obtain ⟨q5, ef2⟩ := ask_some ef2
          have hA4 := hA3.snoc (show (rT3 rI rI rI) B5 (V.ref p2) (x2.1, x2.2, x1) from ⟨p2, _, _, _, rfl, hB2, rfl, rfl, rfl⟩)
          refine ap_go st6 (Or.inl z1) nb3 hp2 (by rw [hA3.length]; exact q5) fun H7 st7 hp3 kp1 => ?_
          obtain rfl := Option.some.inj ef2
          exact hN2 _ _ ⟨B5, _, _, _, rfl, (ex2.trans s5.b), st7, nb3, hp3, hA4⟩
      ·
        rintro _ H8 ⟨B6, y6, y7, vs3, rfl, ex3, st8, nb4, hp4, hA5⟩
        replace hp4 : H8 p1 = some (.lst vs3) := hp4
        replace hA5 : All2 ((rT3 rI rI rI) B6) vs3 r_3 := hA5
        have hB_r1 := ex3 _ _ hB_r1
        have hA_r1 := hA_r1.imp fun _ _ h => mono ex3 h
        obtain rfl := Option.some.inj ef1
        exact hN1 _ _ ⟨B6, _, _, _, _, rfl, ((ex1.trans s2.b).trans ex3), st8, nb4, hp4, hA5⟩
    ·
      rintro _ H9 ⟨B7, y8, y9, y10, vs4, rfl, ex4, st9, nb5, hp5, hA6⟩
      replace hp5 : H9 p1 = some (.lst vs4) := hp5
      replace hA6 : All2 ((rT3 rI rI rI) B7) vs4 r_1 := hA6
      refine q_ret ?_
      refine q_cbR ?_
      refine q_cons ?_
      refine go (v := (V.ref p1)) (v_var (by rfl)) ?_
      refine q_nil ?_
      refine sort_T st9.c (Or.inl (Or.inl hp5)) hA6 fun ys1 hA7 => ?_
      refine al_own st9.c fun p3 np3 H10 s6 hB3 nb6 => ?_
      have z2 := st9.g _ np3
      have ne1 : p1 ≠ p3 := ne_none hp5 np3
      have hp5 := s6.h _ _ List.not_mem_nil hp5
      have st10 := st9.t0 s6
      obtain rfl := Option.some.inj e
      exact q _ _ _ _ st10 z2 nb6 hB3 hA7
end K79
/-! walk -/
namespace K79
open PySem PySem.Spec PyProof.Rows L2 Wk RZ ClX
def sp_runs (K : PySem.W.Frag) : Sp := fun vs H Q _ => ∃ (B : Hp) (x_word : (List Nat)) (r : (List (Int × Int × Int))), Ex B H ∧ vs = [(tS x_word)] ∧ m_runs x_word = some r ∧ ∀ p B' H' vs', Stp [] B H B' H' → H p = none → B' p = none → H' p = some (.lst vs') → All2 ((rT3 rI rI rI) B') vs' r → Q (.ref p) H'
theorem ok_runs {P : Program} {w : World} {K : PySem.W.Frag} {mg : Str → Option Value} {base : Heap} (E : Tx K mg) : Ok P w K mg base CX0 4 "runs" ["word"] (sp_runs K) := by
  obtain ⟨fd, F⟩ := E.def_ 13 (d := d_runs) rfl
  replace F : FunD K "runs" "runs" (defArgs s_runs) (defBody s_runs) (defScope s_runs) [] [] (He.ga K "runs") fd := F
  obtain ⟨fd_check_word, G_check_word, b_check_word, kp_check_word, m_check_word⟩ := ok_check_word (P := P) (w := w) (base := base) E
  obtain ⟨fd_runs_of, G_runs_of, b_runs_of, kp_runs_of, m_runs_of⟩ := ok_runs_of (P := P) (w := w) (base := base) E
  refine ⟨fd, F.ok sc_runs (fun vs H Q E h => ?_) (fun cdv A outer s H0 vs Q X hr h => ?_), F.bindsN fun _ _ _ _ _ _ us hl => match us, hl with | [_], _ => rfl, F.kp, E.glo 13⟩
  · obtain ⟨_, _, _, _, rfl, _⟩ := h; rfl
  ·
    obtain ⟨B0, x_word, r, c0, rfl, e, q⟩ := h
    have st0 : Stp [] B0 H0 B0 H0 := Stp.refl c0
    unfold m_runs at e
    refine ⟨_, PSs.nox ((pss_cons (ps_expr (pe_call G_check_word (hr.mono (by decide)) (by rfl) m_check_word kp_check_word b_check_word .nil pass0 (pa_cons (pv 0) pa_nil))) (pss_one (ps_ret (pe_call G_runs_of (hr.mono (by decide)) (by rfl) m_runs_of kp_runs_of b_runs_of .nil pass0 (pa_cons (pv 0) pa_nil)))))), ?_⟩
    refine q_st (σ' := [some (tS x_word)]) rfl ?_
    refine q_seq ?_
    refine q_drop ?_
    refine q_call ?_
    refine q_cons ?_
    refine go (v := (tS x_word)) (v_var (by rfl)) ?_
    refine q_nil ?_
    obtain ⟨r_1, e_r_1, e⟩ := bind_some e
    refine ⟨B0, x_word, r_1, st0.c, rfl, e_r_1, ?_⟩
    intro v1 B1 H1 s1 h1
    obtain rfl := h1
    have s2 := s1.keepB st0.c (fun _ z => absurd z List.not_mem_nil)
    have st1 := st0.t0 s2
    refine q_ret ?_
    refine q_call ?_
    refine q_cons ?_
    refine go (v := (tS x_word)) (v_var (by rfl)) ?_
    refine q_nil ?_
    obtain ⟨r_2, e_r_2, e⟩ := bind_some e
    refine ⟨B0, x_word, r_2, st1.c, rfl, e_r_2, ?_⟩
    intro v2 B2 H2 vs1 s3 hz1 nb1 hB1 hA1
    have z1 := st1.g _ hz1
    have st2 := st1.t0 s3
    obtain rfl := Option.some.inj e
    exact q _ _ _ _ st2 z1 nb1 hB1 hA1
end K79
/-! walk -/
namespace K79
open PySem PySem.Spec PyProof.Rows L2 Wk RZ ClX
def sp_squares (K : PySem.W.Frag) : Sp := fun vs H Q _ => ∃ (B : Hp) (x_word : (List Nat)) (r : (List (Int × Int))), Ex B H ∧ vs = [(tS x_word)] ∧ m_squares x_word = some r ∧ ∀ v B' H', Stp [] B H B' H' → (rL (rT2 rI rI)) B' v r → Q v H'
theorem ok_squares {P : Program} {w : World} {K : PySem.W.Frag} {mg : Str → Option Value} {base : Heap} (E : Tx K mg) : Ok P w K mg base CX0 4 "squares" ["word"] (sp_squares K) := by
  obtain ⟨fd, F⟩ := E.def_ 14 (d := d_squares) rfl
  replace F : FunD K "squares" "squares" (defArgs s_squares) (defBody s_squares) (defScope s_squares) [] [] (He.ga K "squares") fd := F
  obtain ⟨fd_check_word, G_check_word, b_check_word, kp_check_word, m_check_word⟩ := ok_check_word (P := P) (w := w) (base := base) E
  have g_range : mg "range" = none := E.free 42
  have g_len : mg "len" = none := E.free 41
  have g_sorted : mg "sorted" = none := E.free 44
  refine ⟨fd, F.ok sc_squares (fun vs H Q E h => ?_) (fun cdv A outer s H0 vs Q X hr h => ?_), F.bindsN fun _ _ _ _ _ _ us hl => match us, hl with | [_], _ => rfl, F.kp, E.glo 14⟩
  · obtain ⟨_, _, _, _, rfl, _⟩ := h; rfl
  ·
    obtain ⟨B0, x_word, r, c0, rfl, e, q⟩ := h
    have st0 : Stp [] B0 H0 B0 H0 := Stp.refl c0
    unfold m_squares at e
    refine ⟨_, PSs.nox ((pss_cons (ps_expr (pe_call G_check_word (hr.mono (by decide)) (by rfl) m_check_word kp_check_word b_check_word .nil pass0 (pa_cons (pv 0) pa_nil))) (pss_cons (ps_set (i := 1) sc_squares.nd rfl (by first | exact Or.inl rfl | exact Or.inr rfl) (pe_lst pa_nil)) (pss_cons (ps_for PassesOwn.never rfl (pi_range2 (by rfl) g_range (pa_cons pe_int (pa_cons (pe_op op_add (pe_op op_fdivW (pe_callB call_len_str (by rfl) g_len PySem.boot_len (pa_cons (pv 0) pa_nil)) pe_int) pe_int) pa_nil))) (pg_name (i := 2) sc_squares.nd rfl (by first | exact Or.inl rfl | exact Or.inr rfl)) (pss_cons (ps_set (i := 3) sc_squares.nd rfl (by first | exact Or.inl rfl | exact Or.inr rfl) pe_int) (pss_one (ps_for PassesOwn.never rfl (pi_range1 (by rfl) g_range (pa_cons (pe_op op_sub (pe_callB call_len_str (by rfl) g_len PySem.boot_len (pa_cons (pv 0) pa_nil)) (pv 2)) pa_nil)) (pg_name (i := 4) sc_squares.nd rfl (by first | exact Or.inl rfl | exact Or.inr rfl)) (Evl.pss_cut (ps_if (pt_cmpR op_eq (pe_ix ix_str (pv 0) (pv 4) (fun _ _ => rfl)) (pe_ix ix_str (pv 0) (pe_op op_add (pv 4) (pv 2)) (fun _ _ => rfl)) (nomark _)) (pss_one (ps_aug (i := 3) sc_squares.nd rfl (by first | exact Or.inl rfl | exact Or.inr rfl) pe_int ip_add)) (pss_one (ps_set (i := 3) sc_squares.nd rfl (by first | exact Or.inl rfl | exact Or.inr rfl) pe_int))) (pss_one (ps_if (pt_cmpR op_ge (pv 3) (pv 2) (nomark _)) (pss_one (ps_expr (pe_bm PySem.F.plainAttrs_list PySem.F.slot_list_append PySem.F.type_list_append mt_append (pv 1) (pa_cons (pe_tup (pa_cons (pe_op op_sub (pe_op op_add (pv 4) pe_int) (pv 2)) (pa_cons (pv 2) pa_nil))) pa_nil)))) pss_nil))))))) (pss_one (ps_ret (pe_callB (cr_sortT 1) (by rfl) g_sorted (by decide +kernel) (pa_cons (pv 1) pa_nil)))))))), ?_⟩
    refine q_st (σ' := [some (tS x_word), none, none, none, none]) rfl ?_
    refine q_seq ?_
    refine q_drop ?_
    refine q_call ?_
    refine q_cons ?_
    refine go (v := (tS x_word)) (v_var (by rfl)) ?_
    refine q_nil ?_
    obtain ⟨r_1, e_r_1, e⟩ := bind_some e
    refine ⟨B0, x_word, r_1, st0.c, rfl, e_r_1, ?_⟩
    intro v1 B1 H1 s1 h1
    obtain rfl := h1
    have s2 := s1.keepB st0.c (fun _ z => absurd z List.not_mem_nil)
    have st1 := st0.t0 s2
    refine q_seq ?_
    refine q_set ?_
    refine q_lst ?_
    refine q_nil ?_
    refine ⟨by show _ ≤ 16777216; simp, ?_⟩
    have hA1 : All2 ((rT2 rI rI) B0) [] ([] : (List (Int × Int))) := All2.nil
    refine al_own st1.c fun p1 np1 H2 s3 hB1 nb1 => ?_
    have z1 := st1.g _ np1
    have st2 := st1.t0 s3
    refine q_nx (σ' := [some (tS x_word), some (V.ref p1), none, none, none]) rfl ?_
    refine q_seq ?_
    refine q_for ?_
    refine q_rng2 ?_
    refine q_cons ?_
    refine go (v := (V.int (1 : Int))) v_c ?_
    refine q_cons ?_
    obtain ⟨q1, e⟩ := ask_some e
    obtain ⟨q2, e⟩ := ask_some e
    refine go (v := (V.int (((x_word.length : Int) / (2 : Int)) + (1 : Int)))) (v_op (v_op (v_cb1 (v_var (by rfl)) (v_lenS q1)) v_c (fun _ q => ⟨_, _, rfl, rfl, sdiv_ok q2, q⟩)) v_c (fun _ q => ⟨_, _, rfl, rfl, q⟩)) ?_
    refine q_nil ?_
    obtain ⟨q3, e⟩ := ask_some e
    refine ⟨_, _, rfl, q3, ?_⟩
    obtain ⟨r_2, er1, e⟩ := bind_some e
    refine for_N (Inv := fun (s : (List (Int × Int))) σ H => ∃ (B : Hp) (y_period : Option V) (y_alike : Option V) (y_place : Option V) (vs_found : List V), σ = [some (tS x_word), some (V.ref p1), y_period, y_alike, y_place] ∧ Ex B0 B ∧ Stp [] B0 H0 B H ∧ B p1 = none ∧ H p1 = some (.lst vs_found) ∧ All2 ((rT2 rI rI) B) vs_found s) er1 ?_ ?_ ?_ ?_ ?_
    · exact ⟨B0, _, _, _, _, rfl, (Ex.refl B0), st2, nb1, hB1, hA1⟩
    · exact rng_st
    · exact rng_go
    ·
      rintro i1 x1 c_found1 t1 _ H3 hx1 ⟨B2, y1, y2, y3, vs1, rfl, ex1, st3, nb2, hp1, hA2⟩ ef1 v2 Hy1 hy1 N1 hN1
      replace hp1 : H3 p1 = some (.lst vs1) := hp1
      replace hA2 : All2 ((rT2 rI rI) B2) vs1 c_found1 := hA2
      change squares_b0 x_word x1 c_found1 = some t1 at ef1
      unfold squares_b0 at ef1
      obtain ⟨rfl, rfl⟩ := rng_yld hy1 hx1
      refine q_gname ?_
      refine q_st (σ' := [some (tS x_word), some (V.ref p1), some (V.int x1), y2, y3]) rfl ?_
      refine q_seq ?_
      refine q_set ?_
      refine go (v := (V.int (0 : Int))) v_c ?_
      refine q_nx (σ' := [some (tS x_word), some (V.ref p1), some (V.int x1), some (V.int (0 : Int)), y3]) rfl ?_
      refine q_for ?_
      refine q_rng1 ?_
      refine q_cons ?_
      obtain ⟨q4, ef1⟩ := ask_some ef1
      refine go (v := (V.int ((x_word.length : Int) - x1))) (v_op (v_cb1 (v_var (by rfl)) (v_lenS q4)) (v_var (by rfl)) (fun _ q => ⟨_, _, rfl, rfl, q⟩)) ?_
      refine q_nil ?_
      obtain ⟨q5, ef1⟩ := ask_some ef1
      refine ⟨_, rfl, q5.1, q5.2, ?_⟩
      obtain ⟨r_3, er2, ef1⟩ := bind_some ef1
      refine for_N (Inv := fun (s : ((List (Int × Int)) × Int)) σ H => ∃ (B : Hp) (y_place : Option V) (vs_found : List V), σ = [some (tS x_word), some (V.ref p1), some (V.int x1), some (V.int s.2), y_place] ∧ Ex B2 B ∧ Stp [] B0 H0 B H ∧ B p1 = none ∧ H p1 = some (.lst vs_found) ∧ All2 ((rT2 rI rI) B) vs_found s.1) er2 ?_ ?_ ?_ ?_ ?_
      · exact ⟨B2, _, _, rfl, (Ex.refl B2), st3, nb2, hp1, hA2⟩
      · exact rng0_st
      · exact rng0_go
      ·
        rintro i2 x2 ⟨c_found2, c_alike1⟩ t2 _ H4 hx2 ⟨B3, y4, vs2, rfl, ex2, st4, nb3, hp2, hA3⟩ ef2 v3 Hy2 hy2 N2 hN2
        replace hp2 : H4 p1 = some (.lst vs2) := hp2
        replace hA3 : All2 ((rT2 rI rI) B3) vs2 c_found2 := hA3
        change squares_b1 x_word x1 x2 c_found2 c_alike1 = some t2 at ef2
        unfold squares_b1 at ef2
        obtain ⟨rfl, rfl⟩ := rng0_yld hy2 hx2
        refine q_gname ?_
        refine q_st (σ' := [some (tS x_word), some (V.ref p1), some (V.int x1), some (V.int c_alike1), some (V.int x2)]) rfl ?_
        obtain ⟨j_1, ej1, ef2⟩ := bind_some ef2
        refine q_cut (Mid := MidP fun σ H => ∃ (B : Hp) (vs_found : List V), σ = [some (tS x_word), some (V.ref p1), some (V.int x1), some (V.int j_1), some (V.int x2)] ∧ Ex B3 B ∧ Stp [] B0 H0 B H ∧ B p1 = none ∧ H p1 = some (.lst vs_found) ∧ All2 ((rT2 rI rI) B) vs_found c_found2) ?_ ?_
        ·
          refine q_if ?_
          obtain ⟨q6, ej1⟩ := ask_some ej1
          obtain ⟨c_1, e_c_1, ej1⟩ := bind_some ej1
          obtain ⟨q7, ej1⟩ := ask_some ej1
          obtain ⟨c_2, e_c_2, ej1⟩ := bind_some ej1
          by_cases hb : (decide ([c_1] = [c_2])) = true
          · have ej1 := if_inv_t hb ej1
            refine goT (b := true) (Ans.to (v_tb (v_op (v_op (v_var (by rfl)) (v_var (by rfl)) (v_ixS q6 e_c_1)) (v_op (v_var (by rfl)) (v_op (v_var (by rfl)) (v_var (by rfl)) (fun _ q => ⟨_, _, rfl, rfl, q⟩)) (v_ixS q7 e_c_2)) v_eqS)) hb) ?_
            refine if_t rfl ?_
            refine q_aug (by rfl) ?_
            refine go (v := (V.int (1 : Int))) v_c ?_
            refine ⟨_, _, rfl, rfl, ?_⟩
            refine q_nx (σ' := [some (tS x_word), some (V.ref p1), some (V.int x1), some (V.int (c_alike1 + (1 : Int))), some (V.int x2)]) rfl ?_
            obtain rfl := Option.some.inj ej1
            exact ⟨B3, _, rfl, (Ex.refl B3), st4, nb3, hp2, hA3⟩
          · have hb := Bool.eq_false_iff.mpr hb
            have ej1 := if_inv_f hb ej1
            refine goT (b := false) (Ans.to (v_tb (v_op (v_op (v_var (by rfl)) (v_var (by rfl)) (v_ixS q6 e_c_1)) (v_op (v_var (by rfl)) (v_op (v_var (by rfl)) (v_var (by rfl)) (fun _ q => ⟨_, _, rfl, rfl, q⟩)) (v_ixS q7 e_c_2)) v_eqS)) hb) ?_
            refine if_f rfl ?_
            refine q_set ?_
            refine go (v := (V.int (0 : Int))) v_c ?_
            refine q_nx (σ' := [some (tS x_word), some (V.ref p1), some (V.int x1), some (V.int (0 : Int)), some (V.int x2)]) rfl ?_
            obtain rfl := Option.some.inj ej1
            exact ⟨B3, _, rfl, (Ex.refl B3), st4, nb3, hp2, hA3⟩
        ·
          rintro _ H5 ⟨B4, vs3, rfl, ex3, st5, nb4, hp3, hA4⟩
          replace hp3 : H5 p1 = some (.lst vs3) := hp3
          replace hA4 : All2 ((rT2 rI rI) B4) vs3 c_found2 := hA4
          refine q_if ?_
          by_cases hb : (decide (j_1 ≥ x1)) = true
          · have ef2 := if_inv_t hb ef2
            refine goT (b := true) (Ans.to (v_tb (v_op (v_var (by rfl)) (v_var (by rfl)) (fun _ q => ⟨_, _, rfl, rfl, q⟩))) hb) ?_
            refine if_t rfl ?_
            refine q_drop ?_
            refine q_bm ?_
            refine go (v := (V.ref p1)) (v_var (by rfl)) ?_
            refine ⟨tyL (Or.inl (Or.inl hp3)), ?_⟩
            refine q_cons ?_
            refine q_tup ?_
            refine q_cons ?_
            refine go (v := (V.int ((x2 + (1 : Int)) - x1))) (v_op (v_op (v_var (by rfl)) v_c (fun _ q => ⟨_, _, rfl, rfl, q⟩)) (v_var (by rfl)) (fun _ q => ⟨_, _, rfl, rfl, q⟩)) ?_
            refine q_cons ?_
            refine go (v := (V.int x1)) (v_var (by rfl)) ?_
            refine q_nil ?_
            refine ⟨by show _ ≤ 16777216; simp, ?_⟩
            refine al_giv st5.c fun p2 np2 B5 H6 s4 hB2 => ?_
            have nb4 := s4.out nb4 hp3
            have hp3 := s4.h _ _ List.not_mem_nil hp3
            have hA4 := hA4.imp fun _ _ h => mono s4.b h
            have st6 := st5.t0 s4
            refine q_nil ?_
            obtain ⟨q8, ef2⟩ := ask_some ef2
            have hA5 := hA4.snoc (show (rT2 rI rI) B5 (V.ref p2) (((x2 + (1 : Int)) - x1), x1) from ⟨p2, _, _, rfl, hB2, rfl, rfl⟩)
            refine ap_go st6 (Or.inl z1) nb4 hp3 (by rw [hA4.length]; exact q8) fun H7 st7 hp4 kp1 => ?_
            obtain rfl := Option.some.inj ef2
            exact hN2 _ _ ⟨B5, _, _, rfl, ((ex2.trans ex3).trans s4.b), st7, nb4, hp4, hA5⟩
          · have hb := Bool.eq_false_iff.mpr hb
            have ef2 := if_inv_f hb ef2
            refine goT (b := false) (Ans.to (v_tb (v_op (v_var (by rfl)) (v_var (by rfl)) (fun _ q => ⟨_, _, rfl, rfl, q⟩))) hb) ?_
            refine if_f rfl ?_
            refine q_next ?_
            obtain rfl := Option.some.inj ef2
            exact hN2 _ _ ⟨B4, _, _, rfl, (ex2.trans ex3), st5, nb4, hp3, hA4⟩
      ·
        rintro _ H8 ⟨B6, y5, vs4, rfl, ex4, st8, nb5, hp5, hA6⟩
        replace hp5 : H8 p1 = some (.lst vs4) := hp5
        replace hA6 : All2 ((rT2 rI rI) B6) vs4 r_3.1 := hA6
        obtain rfl := Option.some.inj ef1
        exact hN1 _ _ ⟨B6, _, _, _, _, rfl, (ex1.trans ex4), st8, nb5, hp5, hA6⟩
    ·
      rintro _ H9 ⟨B7, y6, y7, y8, vs5, rfl, ex5, st9, nb6, hp6, hA7⟩
      replace hp6 : H9 p1 = some (.lst vs5) := hp6
      replace hA7 : All2 ((rT2 rI rI) B7) vs5 r_2 := hA7
      refine q_ret ?_
      refine q_cbR ?_
      refine q_cons ?_
      refine go (v := (V.ref p1)) (v_var (by rfl)) ?_
      refine q_nil ?_
      refine sort_P st9.c (Or.inl (Or.inl hp6)) hA7 fun ys1 hA8 => ?_
      refine al_giv st9.c fun p3 np3 B8 H10 s5 hB3 => ?_
      have nb6 := s5.out nb6 hp6
      have hp6 := s5.h _ _ List.not_mem_nil hp6
      have hA7 := hA7.imp fun _ _ h => mono s5.b h
      have st10 := st9.t0 s5
      have hA8 := hA8.imp fun _ _ h => mono s5.b h
      obtain rfl := Option.some.inj e
      exact q _ _ _ st10 (⟨p3, _, rfl, hB3, hA8⟩)
end K79
/-! walk -/
namespace K79
open PySem PySem.Spec PyProof.Rows L2 Wk RZ ClX
def sp_l_intsT (K : PySem.W.Frag) : Sp := fun vs H Q _ => ∃ (B : Hp) (v_told : V) (x_told : (List Int)) (v_due : V) (x_due : (List Int)) (r : Bool), Ex B H ∧ vs = [v_told, v_due] ∧ (rL rI) B v_told x_told ∧ (rH rI) B v_due x_due ∧ m_l_intsT x_told x_due = some r ∧ ∀ v B' H', Stp [] B H B' H' → rB B' v r → Q v H'
theorem ok_l_intsT {P : Program} {w : World} {K : PySem.W.Frag} {mg : Str → Option Value} {base : Heap} (E : Tx K mg) : Ok P w K mg base CX0 1 "_law_ints" ["told", "due"] (sp_l_intsT K) := by
  obtain ⟨fd, F⟩ := E.def_ 30 (d := d_l_ints) rfl
  replace F : FunD K "_law_ints" "_law_ints" (defArgs s_l_ints) (defBody s_l_ints) (defScope s_l_ints) [] [] (He.ga K "_law_ints") fd := F
  have g_list : mg "list" = none := E.free 47
  have g_isinstance : mg "isinstance" = none := E.free 48
  have g_len : mg "len" = none := E.free 41
  have g_range : mg "range" = none := E.free 42
  have g_int : mg "int" = none := E.free 45
  have g_bool : mg "bool" = none := E.free 49
  refine ⟨fd, F.ok sc_l_ints (fun vs H Q E h => ?_) (fun cdv A outer s H0 vs Q X hr h => ?_), F.bindsN fun _ _ _ _ _ _ us hl => match us, hl with | [_, _], _ => rfl, F.kp, E.glo 30⟩
  · obtain ⟨_, _, _, _, _, _, _, rfl, _⟩ := h; rfl
  ·
    obtain ⟨B0, v_told, x_told, v_due, x_due, r, c0, rfl, h_told, h_due, e, q⟩ := h
    obtain ⟨a_told1, vs_told1, rfl, hB_told1, hA_told1⟩ := h_told
    obtain rfl := all2_I hA_told1
    obtain ⟨a_due1, vs_due1, rfl, hB_due1, hA_due1⟩ := h_due
    obtain rfl := all2_I hA_due1
    have st0 : Stp [] B0 H0 B0 H0 := Stp.refl c0
    unfold m_l_intsT at e
    refine ⟨_, PSs.nox ((pss_cons (ps_if (PW.pt (pw_or (pt_not (pt_val (pe_callB call_isi (by rfl) g_isinstance (by decide +kernel) (pa_cons (pv 0) (pa_cons (pe_bltn (v := .ty "list") (by rfl) g_list (by decide +kernel) rfl) pa_nil))))) (pw_or1 (pt_cmpR op_ne (pe_callB call_len_seq (by rfl) g_len PySem.boot_len (pa_cons (pv 0) pa_nil)) (pe_callB call_len_seq (by rfl) g_len PySem.boot_len (pa_cons (pv 1) pa_nil)) (nomark _))))) (pss_one (ps_ret pe_bl)) pss_nil) (pss_cons (ps_for PassesOwn.never rfl (pi_range1 (by rfl) g_range (pa_cons (pe_callB call_len_seq (by rfl) g_len PySem.boot_len (pa_cons (pv 1) pa_nil)) pa_nil)) (pg_name (i := 2) sc_l_ints.nd rfl (by first | exact Or.inl rfl | exact Or.inr rfl)) (pss_cons (ps_if (PW.pt (pw_or (pt_not (pt_val (pe_callB call_isi (by rfl) g_isinstance (by decide +kernel) (pa_cons (pe_ix ix_list (pv 0) (pv 2) (fun _ _ => rfl)) (pa_cons (pe_bltn (v := .ty "int") (by rfl) g_int (by decide +kernel) rfl) pa_nil))))) (pw_or1 (pt_val (pe_callB call_isi (by rfl) g_isinstance (by decide +kernel) (pa_cons (pe_ix ix_list (pv 0) (pv 2) (fun _ _ => rfl)) (pa_cons (pe_bltn (v := .ty "bool") (by rfl) g_bool (by decide +kernel) rfl) pa_nil))))))) (pss_one (ps_ret pe_bl)) pss_nil) (pss_one (ps_if (pt_cmpR op_ne (pe_ix ix_list (pv 0) (pv 2) (fun _ _ => rfl)) (pe_ix ix_tup (pv 1) (pv 2) (fun _ _ => rfl)) (nomark _)) (pss_one (ps_ret pe_bl)) pss_nil)))) (pss_one (ps_ret pe_bl))))), ?_⟩
    refine q_st (σ' := [some (V.ref a_told1), some (V.ref a_due1), none]) rfl ?_
    refine q_seq ?_
    refine q_if ?_
    by_cases hb : ((!true) || (decide ((x_told.length : Int) ≠ (x_due.length : Int)))) = true
    · have e := if_inv_t hb e
      refine goT (b := true) (Ans.to (v_orT (v_not (v_tB (v_cb2 (v_var (by rfl)) v_c (v_isi (.ty "list") (TyX.base (TyOf.lst (st0.c _ _ hB_told1))) kit_list_list)))) (v_tb (v_op (v_cb1 (v_var (by rfl)) (v_lenL (Or.inl (Or.inl (Or.inl (st0.c _ _ hB_told1)))) (by simp))) (v_cb1 (v_var (by rfl)) (v_lenL (Or.inr (Or.inl (Or.inl (st0.c _ _ hB_due1)))) (by simp))) v_neI))) hb) ?_
      refine if_t rfl ?_
      refine q_ret ?_
      refine go (v := (V.bl false)) v_c ?_
      obtain rfl := Option.some.inj e
      exact q _ _ _ st0 rfl
    · have hb := Bool.eq_false_iff.mpr hb
      have e := if_inv_f hb e
      refine goT (b := false) (Ans.to (v_orT (v_not (v_tB (v_cb2 (v_var (by rfl)) v_c (v_isi (.ty "list") (TyX.base (TyOf.lst (st0.c _ _ hB_told1))) kit_list_list)))) (v_tb (v_op (v_cb1 (v_var (by rfl)) (v_lenL (Or.inl (Or.inl (Or.inl (st0.c _ _ hB_told1)))) (by simp))) (v_cb1 (v_var (by rfl)) (v_lenL (Or.inr (Or.inl (Or.inl (st0.c _ _ hB_due1)))) (by simp))) v_neI))) hb) ?_
      refine if_f rfl ?_
      refine q_next ?_
      refine q_seq ?_
      refine q_for ?_
      refine q_rng1 ?_
      refine q_cons ?_
      refine go (v := (V.int (x_due.length : Int))) (v_cb1 (v_var (by rfl)) (v_lenL (Or.inr (Or.inl (Or.inl (st0.c _ _ hB_due1)))) (by simp))) ?_
      refine q_nil ?_
      obtain ⟨q1, e⟩ := ask_some e
      refine ⟨_, rfl, q1.1, q1.2, ?_⟩
      obtain ⟨r_1, er1, e⟩ := bind_some e
      refine for_R (Inv := fun (s : Unit) σ H => ∃ (B : Hp) (y_k : Option V), σ = [some (V.ref a_told1), some (V.ref a_due1), y_k] ∧ Ex B0 B ∧ Stp [] B0 H0 B H) er1 ?_ ?_ ?_ ?_ ?_
      · exact ⟨B0, _, rfl, (Ex.refl B0), st0⟩
      · exact rng0_st
      · exact rng0_go
      ·
        rintro i1 x1 _ t1 _ H1 hx1 ⟨B1, y1, rfl, ex1, st1⟩ ef1 v1 Hy1 hy1 N1 _ hN1
        have hB_told1 := ex1 _ _ hB_told1
        have hB_due1 := ex1 _ _ hB_due1
        change l_intsT_b0 x_told x_due x1  = some t1 at ef1
        unfold l_intsT_b0 at ef1
        obtain ⟨rfl, rfl⟩ := rng0_yld hy1 hx1
        refine q_gname ?_
        refine q_st (σ' := [some (V.ref a_told1), some (V.ref a_due1), some (V.int x1)]) rfl ?_
        refine q_seq ?_
        refine q_if ?_
        obtain ⟨x_1, e_x_1, ef1⟩ := bind_some ef1
        obtain ⟨c_1, e_c_1, ef1⟩ := bind_some ef1
        by_cases hb : c_1 = true
        · have ef1 := if_inv_t hb ef1
          refine goT (b := true) (Ans.to (v_or (v_not (v_tB (v_cb2 (v_op (v_var (by rfl)) (v_var (by rfl)) (v_ixL (Or.inl (Or.inl (st1.c _ _ hB_told1))) (atI_map e_x_1))) v_c (v_isi (.ty "int") (TyX.base (TyOf.int _)) kit_int_int)))) e_c_1 (fun _ k1 => by obtain ⟨x_2, e_x_2, k1⟩ := bind_some k1; obtain rfl := Option.some.inj k1; exact (v_tB (v_cb2 (v_op (v_var (by rfl)) (v_var (by rfl)) (v_ixL (Or.inl (Or.inl (st1.c _ _ hB_told1))) (atI_map e_x_2))) v_c (v_isi (.ty "bool") (TyX.base (TyOf.int _)) kit_int_bool))))) hb) ?_
          refine if_t rfl ?_
          refine q_ret ?_
          refine go (v := (V.bl false)) v_c ?_
          obtain rfl := Option.some.inj ef1
          rw [hN1] at e
          replace e := fin_rt e
          obtain rfl := Option.some.inj e
          exact q _ _ _ st1 rfl
        · have hb := Bool.eq_false_iff.mpr hb
          have ef1 := if_inv_f hb ef1
          refine goT (b := false) (Ans.to (v_or (v_not (v_tB (v_cb2 (v_op (v_var (by rfl)) (v_var (by rfl)) (v_ixL (Or.inl (Or.inl (st1.c _ _ hB_told1))) (atI_map e_x_1))) v_c (v_isi (.ty "int") (TyX.base (TyOf.int _)) kit_int_int)))) e_c_1 (fun _ k1 => by obtain ⟨x_2, e_x_2, k1⟩ := bind_some k1; obtain rfl := Option.some.inj k1; exact (v_tB (v_cb2 (v_op (v_var (by rfl)) (v_var (by rfl)) (v_ixL (Or.inl (Or.inl (st1.c _ _ hB_told1))) (atI_map e_x_2))) v_c (v_isi (.ty "bool") (TyX.base (TyOf.int _)) kit_int_bool))))) hb) ?_
          refine if_f rfl ?_
          refine q_next ?_
          refine q_if ?_
          obtain ⟨x_3, e_x_3, ef1⟩ := bind_some ef1
          obtain ⟨x_4, e_x_4, ef1⟩ := bind_some ef1
          by_cases hb : (decide (x_3 ≠ x_4)) = true
          · have ef1 := if_inv_t hb ef1
            refine goT (b := true) (Ans.to (v_tb (v_op (v_op (v_var (by rfl)) (v_var (by rfl)) (v_ixL (Or.inl (Or.inl (st1.c _ _ hB_told1))) (atI_map e_x_3))) (v_op (v_var (by rfl)) (v_var (by rfl)) (v_ixT (Or.inl (Or.inl (st1.c _ _ hB_due1))) (atI_map e_x_4))) v_neI)) hb) ?_
            refine if_t rfl ?_
            refine q_ret ?_
            refine go (v := (V.bl false)) v_c ?_
            obtain rfl := Option.some.inj ef1
            rw [hN1] at e
            replace e := fin_rt e
            obtain rfl := Option.some.inj e
            exact q _ _ _ st1 rfl
          · have hb := Bool.eq_false_iff.mpr hb
            have ef1 := if_inv_f hb ef1
            refine goT (b := false) (Ans.to (v_tb (v_op (v_op (v_var (by rfl)) (v_var (by rfl)) (v_ixL (Or.inl (Or.inl (st1.c _ _ hB_told1))) (atI_map e_x_3))) (v_op (v_var (by rfl)) (v_var (by rfl)) (v_ixT (Or.inl (Or.inl (st1.c _ _ hB_due1))) (atI_map e_x_4))) v_neI)) hb) ?_
            refine if_f rfl ?_
            refine q_next ?_
            obtain rfl := Option.some.inj ef1
            exact hN1 _ _ ⟨B1, _, rfl, ex1, st1⟩
      ·
        rintro s1 _ H2 hz1 ⟨B2, y2, rfl, ex2, st2⟩
        have hB_told1 := ex2 _ _ hB_told1
        have hB_due1 := ex2 _ _ hB_due1
        rw [hz1] at e
        replace e := fin_nx e
        refine q_ret ?_
        refine go (v := (V.bl true)) v_c ?_
        obtain rfl := Option.some.inj e
        exact q _ _ _ st2 rfl
end K79
/-! walk -/
namespace K79
open PySem PySem.Spec PyProof.Rows L2 Wk RZ ClX
def sp_l_rowsT (K : PySem.W.Frag) : Sp := fun vs H Q _ => ∃ (B : Hp) (v_told : V) (x_told : (List (Int × Int × Int))) (v_due : V) (x_due : (List (Int × Int × Int))) (r : Bool), Ex B H ∧ vs = [v_told, v_due] ∧ (rL (rT3 rI rI rI)) B v_told x_told ∧ (rL (rT3 rI rI rI)) B v_due x_due ∧ m_l_rowsT x_told x_due = some r ∧ ∀ v B' H', Stp [] B H B' H' → rB B' v r → Q v H'
theorem ok_l_rowsT {P : Program} {w : World} {K : PySem.W.Frag} {mg : Str → Option Value} {base : Heap} (E : Tx K mg) : Ok P w K mg base CX0 2 "_law_rows" ["told", "due"] (sp_l_rowsT K) := by
  obtain ⟨fd, F⟩ := E.def_ 37 (d := d_l_rowsT) rfl
  replace F : FunD K "_law_rows" "_law_rows" (defArgs s_l_rowsT) (defBody s_l_rowsT) (defScope s_l_rowsT) [] [] (He.ga K "_law_rows") fd := F
  obtain ⟨fd_l_intsT, G_l_intsT, b_l_intsT, kp_l_intsT, m_l_intsT⟩ := ok_l_intsT (P := P) (w := w) (base := base) E
  have g_list : mg "list" = none := E.free 47
  have g_isinstance : mg "isinstance" = none := E.free 48
  have g_len : mg "len" = none := E.free 41
  have g_range : mg "range" = none := E.free 42
  have g_tuple : mg "tuple" = none := E.free 50
  refine ⟨fd, F.ok sc_l_rowsT (fun vs H Q E h => ?_) (fun cdv A outer s H0 vs Q X hr h => ?_), F.bindsN fun _ _ _ _ _ _ us hl => match us, hl with | [_, _], _ => rfl, F.kp, E.glo 32⟩
  · obtain ⟨_, _, _, _, _, _, _, rfl, _⟩ := h; rfl
  ·
    obtain ⟨B0, v_told, x_told, v_due, x_due, r, c0, rfl, h_told, h_due, e, q⟩ := h
    obtain ⟨a_told1, vs_told1, rfl, hB_told1, hA_told1⟩ := h_told
    obtain ⟨a_due1, vs_due1, rfl, hB_due1, hA_due1⟩ := h_due
    have st0 : Stp [] B0 H0 B0 H0 := Stp.refl c0
    unfold m_l_rowsT at e
    refine ⟨_, PSs.nox ((pss_cons (ps_if (PW.pt (pw_or (pt_not (pt_val (pe_callB call_isi (by rfl) g_isinstance (by decide +kernel) (pa_cons (pv 0) (pa_cons (pe_bltn (v := .ty "list") (by rfl) g_list (by decide +kernel) rfl) pa_nil))))) (pw_or1 (pt_cmpR op_ne (pe_callB call_len_seq (by rfl) g_len PySem.boot_len (pa_cons (pv 0) pa_nil)) (pe_callB call_len_seq (by rfl) g_len PySem.boot_len (pa_cons (pv 1) pa_nil)) (nomark _))))) (pss_one (ps_ret pe_bl)) pss_nil) (pss_cons (ps_for PassesOwn.never rfl (pi_range1 (by rfl) g_range (pa_cons (pe_callB call_len_seq (by rfl) g_len PySem.boot_len (pa_cons (pv 1) pa_nil)) pa_nil)) (pg_name (i := 2) sc_l_rowsT.nd rfl (by first | exact Or.inl rfl | exact Or.inr rfl)) (pss_cons (ps_if (pt_not (pt_val (pe_callB call_isi (by rfl) g_isinstance (by decide +kernel) (pa_cons (pe_ix ix_list (pv 0) (pv 2) (fun _ _ => rfl)) (pa_cons (pe_bltn (v := .ty "tuple") (by rfl) g_tuple (by decide +kernel) rfl) pa_nil))))) (pss_one (ps_ret pe_bl)) pss_nil) (pss_one (ps_if (pt_not (pt_val (pe_call G_l_intsT (hr.mono (by decide)) (by rfl) m_l_intsT kp_l_intsT b_l_intsT .nil pass0 (pa_cons (pe_callTy call_list_of (by rfl) g_list (by decide +kernel) (pa_cons (pe_ix ix_list (pv 0) (pv 2) (fun _ _ => rfl)) pa_nil)) (pa_cons (pe_ix ix_list (pv 1) (pv 2) (fun _ _ => rfl)) pa_nil))))) (pss_one (ps_ret pe_bl)) pss_nil)))) (pss_one (ps_ret pe_bl))))), ?_⟩
    refine q_st (σ' := [some (V.ref a_told1), some (V.ref a_due1), none]) rfl ?_
    refine q_seq ?_
    refine q_if ?_
    by_cases hb : ((!true) || (decide ((x_told.length : Int) ≠ (x_due.length : Int)))) = true
    · have e := if_inv_t hb e
      refine goT (b := true) (Ans.to (v_orT (v_not (v_tB (v_cb2 (v_var (by rfl)) v_c (v_isi (.ty "list") (TyX.base (TyOf.lst (st0.c _ _ hB_told1))) kit_list_list)))) (v_tb (v_op (v_cb1 (v_var (by rfl)) (v_lenL (Or.inl (Or.inl (Or.inl (st0.c _ _ hB_told1)))) hA_told1.length)) (v_cb1 (v_var (by rfl)) (v_lenL (Or.inl (Or.inl (Or.inl (st0.c _ _ hB_due1)))) hA_due1.length)) v_neI))) hb) ?_
      refine if_t rfl ?_
      refine q_ret ?_
      refine go (v := (V.bl false)) v_c ?_
      obtain rfl := Option.some.inj e
      exact q _ _ _ st0 rfl
    · have hb := Bool.eq_false_iff.mpr hb
      have e := if_inv_f hb e
      refine goT (b := false) (Ans.to (v_orT (v_not (v_tB (v_cb2 (v_var (by rfl)) v_c (v_isi (.ty "list") (TyX.base (TyOf.lst (st0.c _ _ hB_told1))) kit_list_list)))) (v_tb (v_op (v_cb1 (v_var (by rfl)) (v_lenL (Or.inl (Or.inl (Or.inl (st0.c _ _ hB_told1)))) hA_told1.length)) (v_cb1 (v_var (by rfl)) (v_lenL (Or.inl (Or.inl (Or.inl (st0.c _ _ hB_due1)))) hA_due1.length)) v_neI))) hb) ?_
      refine if_f rfl ?_
      refine q_next ?_
      refine q_seq ?_
      refine q_for ?_
      refine q_rng1 ?_
      refine q_cons ?_
      refine go (v := (V.int (x_due.length : Int))) (v_cb1 (v_var (by rfl)) (v_lenL (Or.inl (Or.inl (Or.inl (st0.c _ _ hB_due1)))) hA_due1.length)) ?_
      refine q_nil ?_
      obtain ⟨q1, e⟩ := ask_some e
      refine ⟨_, rfl, q1.1, q1.2, ?_⟩
      obtain ⟨r_1, er1, e⟩ := bind_some e
      refine for_R (Inv := fun (s : Unit) σ H => ∃ (B : Hp) (y_k : Option V), σ = [some (V.ref a_told1), some (V.ref a_due1), y_k] ∧ Ex B0 B ∧ Stp [] B0 H0 B H) er1 ?_ ?_ ?_ ?_ ?_
      · exact ⟨B0, _, rfl, (Ex.refl B0), st0⟩
      · exact rng0_st
      · exact rng0_go
      ·
        rintro i1 x1 _ t1 _ H1 hx1 ⟨B1, y1, rfl, ex1, st1⟩ ef1 v1 Hy1 hy1 N1 _ hN1
        have hB_told1 := ex1 _ _ hB_told1
        have hA_told1 := hA_told1.imp fun _ _ h => mono ex1 h
        have hB_due1 := ex1 _ _ hB_due1
        have hA_due1 := hA_due1.imp fun _ _ h => mono ex1 h
        change l_rowsT_b0 x_told x_due x1  = some t1 at ef1
        unfold l_rowsT_b0 at ef1
        obtain ⟨rfl, rfl⟩ := rng0_yld hy1 hx1
        refine q_gname ?_
        refine q_st (σ' := [some (V.ref a_told1), some (V.ref a_due1), some (V.int x1)]) rfl ?_
        refine q_seq ?_
        refine q_if ?_
        obtain ⟨x_1, e_x_1, ef1⟩ := bind_some ef1
        obtain ⟨w1, hw1, kw1⟩ := all2_at hA_told1 e_x_1
        obtain ⟨a_x1, w_x1, w_x2, w_x3, rfl, hB_x1, h_x1, h_x2, h_x3⟩ := hw1
        obtain rfl := h_x1
        obtain rfl := h_x2
        obtain rfl := h_x3
        by_cases hb : (!true) = true
        · have ef1 := if_inv_t hb ef1
          refine goT (b := true) (Ans.to (v_not (v_tB (v_cb2 (v_op (v_var (by rfl)) (v_var (by rfl)) (v_ixL (Or.inl (Or.inl (st1.c _ _ hB_told1))) kw1)) v_c (v_isi (.ty "tuple") (TyX.base (TyOf.tup (st1.c _ _ hB_x1))) kit_tuple_tuple)))) hb) ?_
          refine if_t rfl ?_
          refine q_ret ?_
          refine go (v := (V.bl false)) v_c ?_
          obtain rfl := Option.some.inj ef1
          rw [hN1] at e
          replace e := fin_rt e
          obtain rfl := Option.some.inj e
          exact q _ _ _ st1 rfl
        · have hb := Bool.eq_false_iff.mpr hb
          have ef1 := if_inv_f hb ef1
          refine goT (b := false) (Ans.to (v_not (v_tB (v_cb2 (v_op (v_var (by rfl)) (v_var (by rfl)) (v_ixL (Or.inl (Or.inl (st1.c _ _ hB_told1))) kw1)) v_c (v_isi (.ty "tuple") (TyX.base (TyOf.tup (st1.c _ _ hB_x1))) kit_tuple_tuple)))) hb) ?_
          refine if_f rfl ?_
          refine q_next ?_
          refine q_if ?_
          refine q_not ?_
          refine q_tB ?_
          refine q_call ?_
          refine q_cons ?_
          refine q_cbR ?_
          refine q_cons ?_
          obtain ⟨x_2, e_x_2, ef1⟩ := bind_some ef1
          obtain ⟨w2, hw2, kw2⟩ := all2_at hA_told1 e_x_2
          obtain ⟨a_x2, w_x4, w_x5, w_x6, rfl, hB_x2, h_x4, h_x5, h_x6⟩ := hw2
          obtain rfl := h_x4
          obtain rfl := h_x5
          obtain rfl := h_x6
          refine go (v := (V.ref a_x2)) (v_op (v_var (by rfl)) (v_var (by rfl)) (v_ixL (Or.inl (Or.inl (st1.c _ _ hB_told1))) kw2)) ?_
          refine q_nil ?_
          refine rc_list (Or.inr (Or.inl (Or.inl (st1.c _ _ hB_x2)))) ?_
          refine al_giv st1.c fun p1 np1 B2 H2 s1 hB1 => ?_
          have hB_told1 := s1.b _ _ hB_told1
          have hA_told1 := hA_told1.imp fun _ _ h => mono s1.b h
          have hB_due1 := s1.b _ _ hB_due1
          have hA_due1 := hA_due1.imp fun _ _ h => mono s1.b h
          have hB_x1 := s1.b _ _ hB_x1
          have hB_x2 := s1.b _ _ hB_x2
          have st2 := st1.t0 s1
          replace hB1 : B2 p1 = some (.lst (([x_2.1, x_2.2.1, x_2.2.2] : (List Int)).map V.int)) := hB1
          refine q_cons ?_
          obtain ⟨x_3, e_x_3, ef1⟩ := bind_some ef1
          obtain ⟨w3, hw3, kw3⟩ := all2_at hA_due1 e_x_3
          obtain ⟨a_x3, w_x7, w_x8, w_x9, rfl, hB_x3, h_x7, h_x8, h_x9⟩ := hw3
          obtain rfl := h_x7
          obtain rfl := h_x8
          obtain rfl := h_x9
          refine go (v := (V.ref a_x3)) (v_op (v_var (by rfl)) (v_var (by rfl)) (v_ixL (Or.inl (Or.inl (st2.c _ _ hB_due1))) kw3)) ?_
          refine q_nil ?_
          obtain ⟨r_2, e_r_2, ef1⟩ := bind_some ef1
          refine ⟨B2, (V.ref p1), ([x_2.1, x_2.2.1, x_2.2.2] : (List Int)), (V.ref a_x3), ([x_3.1, x_3.2.1, x_3.2.2] : (List Int)), r_2, st2.c, rfl, ⟨p1, _, rfl, hB1, all2I ([x_2.1, x_2.2.1, x_2.2.2] : (List Int))⟩, ⟨a_x3, _, rfl, hB_x3, all2I ([x_3.1, x_3.2.1, x_3.2.2] : (List Int))⟩, e_r_2, ?_⟩
          intro v2 B3 H3 s2 h1
          obtain rfl := h1
          have s3 := s2.keepB st2.c (fun _ z => absurd z List.not_mem_nil)
          have st3 := st2.t0 s3
          by_cases hb : r_2 = true
          · have ef1 := if_inv_t hb ef1
            refine ⟨true, by rw [hb], ?_⟩
            refine if_f rfl ?_
            refine q_next ?_
            obtain rfl := Option.some.inj ef1
            exact hN1 _ _ ⟨B2, _, rfl, (ex1.trans s1.b), st3⟩
          · have hb := Bool.eq_false_iff.mpr hb
            have ef1 := if_inv_f hb ef1
            refine ⟨false, by rw [hb], ?_⟩
            refine if_t rfl ?_
            refine q_ret ?_
            refine go (v := (V.bl false)) v_c ?_
            obtain rfl := Option.some.inj ef1
            rw [hN1] at e
            replace e := fin_rt e
            obtain rfl := Option.some.inj e
            exact q _ _ _ st3 rfl
      ·
        rintro s4 _ H4 hz1 ⟨B4, y2, rfl, ex2, st4⟩
        have hB_told1 := ex2 _ _ hB_told1
        have hA_told1 := hA_told1.imp fun _ _ h => mono ex2 h
        have hB_due1 := ex2 _ _ hB_due1
        have hA_due1 := hA_due1.imp fun _ _ h => mono ex2 h
        rw [hz1] at e
        replace e := fin_nx e
        refine q_ret ?_
        refine go (v := (V.bl true)) v_c ?_
        obtain rfl := Option.some.inj e
        exact q _ _ _ st4 rfl
end K79
/-! walk -/
namespace K79
open PySem PySem.Spec PyProof.Rows L2 Wk RZ ClX
def sp_l_squares (K : PySem.W.Frag) : Sp := fun vs H Q _ => ∃ (B : Hp) (x_word : (List Nat)) (r : (List (Int × Int))), Ex B H ∧ vs = [(tS x_word)] ∧ m_l_squares x_word = some r ∧ ∀ v B' H', Stp [] B H B' H' → (rL (rT2 rI rI)) B' v r → Q v H'
theorem ok_l_squares {P : Program} {w : World} {K : PySem.W.Frag} {mg : Str → Option Value} {base : Heap} (E : Tx K mg) : Ok P w K mg base CX0 1 "_law_squares" ["word"] (sp_l_squares K) := by
  obtain ⟨fd, F⟩ := E.def_ 24 (d := d_l_squares) rfl
  replace F : FunD K "_law_squares" "_law_squares" (defArgs s_l_squares) (defBody s_l_squares) (defScope s_l_squares) [] [] (He.ga K "_law_squares") fd := F
  have g_range : mg "range" = none := E.free 42
  have g_len : mg "len" = none := E.free 41
  refine ⟨fd, F.ok sc_l_squares (fun vs H Q E h => ?_) (fun cdv A outer s H0 vs Q X hr h => ?_), F.bindsN fun _ _ _ _ _ _ us hl => match us, hl with | [_], _ => rfl, F.kp, E.glo 24⟩
  · obtain ⟨_, _, _, _, rfl, _⟩ := h; rfl
  ·
    obtain ⟨B0, x_word, r, c0, rfl, e, q⟩ := h
    have st0 : Stp [] B0 H0 B0 H0 := Stp.refl c0
    unfold m_l_squares at e
    refine ⟨_, PSs.nox ((pss_cons (ps_set (i := 1) sc_l_squares.nd rfl (by first | exact Or.inl rfl | exact Or.inr rfl) (pe_lst pa_nil)) (pss_cons (ps_for PassesOwn.never rfl (pi_range1 (by rfl) g_range (pa_cons (pe_callB call_len_str (by rfl) g_len PySem.boot_len (pa_cons (pv 0) pa_nil)) pa_nil)) (pg_name (i := 2) sc_l_squares.nd rfl (by first | exact Or.inl rfl | exact Or.inr rfl)) (pss_cons (ps_set (i := 3) sc_l_squares.nd rfl (by first | exact Or.inl rfl | exact Or.inr rfl) (pe_slice sl_str (pv 0) (po_some (pv 2)) po_none)) (pss_one (ps_for PassesOwn.never rfl (pi_range2 (by rfl) g_range (pa_cons pe_int (pa_cons (pe_op op_add (pe_op op_fdivW (pe_callB call_len_str (by rfl) g_len PySem.boot_len (pa_cons (pv 3) pa_nil)) pe_int) pe_int) pa_nil))) (pg_name (i := 4) sc_l_squares.nd rfl (by first | exact Or.inl rfl | exact Or.inr rfl)) (pss_one (ps_if (pt_cmpR op_eq (pe_slice sl_str (pv 3) po_none (po_some (pv 4))) (pe_slice sl_str (pv 3) (po_some (pv 4)) (po_some (pe_op op_mulW pe_int (pv 4)))) (nomark _)) (pss_one (ps_expr (pe_bm PySem.F.plainAttrs_list PySem.F.slot_list_append PySem.F.type_list_append mt_append (pv 1) (pa_cons (pe_tup (pa_cons (pv 2) (pa_cons (pv 4) pa_nil))) pa_nil)))) pss_nil)))))) (pss_one (ps_ret (pv 1)))))), ?_⟩
    refine q_st (σ' := [some (tS x_word), none, none, none, none]) rfl ?_
    refine q_seq ?_
    refine q_set ?_
    refine q_lst ?_
    refine q_nil ?_
    refine ⟨by show _ ≤ 16777216; simp, ?_⟩
    have hA1 : All2 ((rT2 rI rI) B0) [] ([] : (List (Int × Int))) := All2.nil
    refine al_own st0.c fun p1 np1 H1 s1 hB1 nb1 => ?_
    have z1 := st0.g _ np1
    have st1 := st0.t0 s1
    refine q_nx (σ' := [some (tS x_word), some (V.ref p1), none, none, none]) rfl ?_
    refine q_seq ?_
    refine q_for ?_
    refine q_rng1 ?_
    refine q_cons ?_
    obtain ⟨q1, e⟩ := ask_some e
    refine go (v := (V.int (x_word.length : Int))) (v_cb1 (v_var (by rfl)) (v_lenS q1)) ?_
    refine q_nil ?_
    obtain ⟨q2, e⟩ := ask_some e
    refine ⟨_, rfl, q2.1, q2.2, ?_⟩
    obtain ⟨r_1, er1, e⟩ := bind_some e
    refine for_N (Inv := fun (s : (List (Int × Int))) σ H => ∃ (B : Hp) (y_start : Option V) (y_text : Option V) (y_k : Option V) (vs_found : List V), σ = [some (tS x_word), some (V.ref p1), y_start, y_text, y_k] ∧ Ex B0 B ∧ Stp [] B0 H0 B H ∧ B p1 = none ∧ H p1 = some (.lst vs_found) ∧ All2 ((rT2 rI rI) B) vs_found s) er1 ?_ ?_ ?_ ?_ ?_
    · exact ⟨B0, _, _, _, _, rfl, (Ex.refl B0), st1, nb1, hB1, hA1⟩
    · exact rng0_st
    · exact rng0_go
    ·
      rintro i1 x1 c_found1 t1 _ H2 hx1 ⟨B1, y1, y2, y3, vs1, rfl, ex1, st2, nb2, hp1, hA2⟩ ef1 v1 Hy1 hy1 N1 hN1
      replace hp1 : H2 p1 = some (.lst vs1) := hp1
      replace hA2 : All2 ((rT2 rI rI) B1) vs1 c_found1 := hA2
      change l_squares_b0 x_word x1 c_found1 = some t1 at ef1
      unfold l_squares_b0 at ef1
      obtain ⟨rfl, rfl⟩ := rng0_yld hy1 hx1
      refine q_gname ?_
      refine q_st (σ' := [some (tS x_word), some (V.ref p1), some (V.int x1), y2, y3]) rfl ?_
      refine q_seq ?_
      refine q_set ?_
      obtain ⟨q3, ef1⟩ := ask_some ef1
      refine go (v := (tS (cutT x_word (some x1) none))) (v_cutS (v_var (by rfl)) (v_po1 (v_var (by rfl))) v_po0 q3) ?_
      refine q_nx (σ' := [some (tS x_word), some (V.ref p1), some (V.int x1), some (tS (cutT x_word (some x1) none)), y3]) rfl ?_
      refine q_for ?_
      refine q_rng2 ?_
      refine q_cons ?_
      refine go (v := (V.int (1 : Int))) v_c ?_
      refine q_cons ?_
      obtain ⟨q4, ef1⟩ := ask_some ef1
      obtain ⟨q5, ef1⟩ := ask_some ef1
      refine go (v := (V.int ((((cutT x_word (some x1) none).length : Int) / (2 : Int)) + (1 : Int)))) (v_op (v_op (v_cb1 (v_var (by rfl)) (v_lenS q4)) v_c (fun _ q => ⟨_, _, rfl, rfl, sdiv_ok q5, q⟩)) v_c (fun _ q => ⟨_, _, rfl, rfl, q⟩)) ?_
      refine q_nil ?_
      obtain ⟨q6, ef1⟩ := ask_some ef1
      refine ⟨_, _, rfl, q6, ?_⟩
      obtain ⟨r_2, er2, ef1⟩ := bind_some ef1
      refine for_N (Inv := fun (s : (List (Int × Int))) σ H => ∃ (B : Hp) (y_k : Option V) (vs_found : List V), σ = [some (tS x_word), some (V.ref p1), some (V.int x1), some (tS (cutT x_word (some x1) none)), y_k] ∧ Ex B1 B ∧ Stp [] B0 H0 B H ∧ B p1 = none ∧ H p1 = some (.lst vs_found) ∧ All2 ((rT2 rI rI) B) vs_found s) er2 ?_ ?_ ?_ ?_ ?_
      · exact ⟨B1, _, _, rfl, (Ex.refl B1), st2, nb2, hp1, hA2⟩
      · exact rng_st
      · exact rng_go
      ·
        rintro i2 x2 c_found2 t2 _ H3 hx2 ⟨B2, y4, vs2, rfl, ex2, st3, nb3, hp2, hA3⟩ ef2 v2 Hy2 hy2 N2 hN2
        replace hp2 : H3 p1 = some (.lst vs2) := hp2
        replace hA3 : All2 ((rT2 rI rI) B2) vs2 c_found2 := hA3
        change l_squares_b1 x_word x1 x2 c_found2 = some t2 at ef2
        unfold l_squares_b1 at ef2
        obtain ⟨rfl, rfl⟩ := rng_yld hy2 hx2
        refine q_gname ?_
        refine q_st (σ' := [some (tS x_word), some (V.ref p1), some (V.int x1), some (tS (cutT x_word (some x1) none)), some (V.int x2)]) rfl ?_
        refine q_if ?_
        obtain ⟨q7, ef2⟩ := ask_some ef2
        obtain ⟨q8, ef2⟩ := ask_some ef2
        obtain ⟨q9, ef2⟩ := ask_some ef2
        by_cases hb : (decide ((cutT (cutT x_word (some x1) none) none (some x2)) = (cutT (cutT x_word (some x1) none) (some x2) (some ((2 : Int) * x2))))) = true
        · have ef2 := if_inv_t hb ef2
          refine goT (b := true) (Ans.to (v_tb (v_op (v_cutS (v_var (by rfl)) v_po0 (v_po1 (v_var (by rfl))) q7) (v_cutS (v_var (by rfl)) (v_po1 (v_var (by rfl))) (v_po1 (v_op v_c (v_var (by rfl)) (fun _ q => ⟨_, _, rfl, rfl, smul_ok q9, q⟩))) q8) v_eqS)) hb) ?_
          refine if_t rfl ?_
          refine q_drop ?_
          refine q_bm ?_
          refine go (v := (V.ref p1)) (v_var (by rfl)) ?_
          refine ⟨tyL (Or.inl (Or.inl hp2)), ?_⟩
          refine q_cons ?_
          refine q_tup ?_
          refine q_cons ?_
          refine go (v := (V.int x1)) (v_var (by rfl)) ?_
          refine q_cons ?_
          refine go (v := (V.int x2)) (v_var (by rfl)) ?_
          refine q_nil ?_
          refine ⟨by show _ ≤ 16777216; simp, ?_⟩
          refine al_giv st3.c fun p2 np2 B3 H4 s2 hB2 => ?_
          have nb3 := s2.out nb3 hp2
          have hp2 := s2.h _ _ List.not_mem_nil hp2
          have hA3 := hA3.imp fun _ _ h => mono s2.b h
          have st4 := st3.t0 s2
          refine q_nil ?_
          obtain ⟨q10, ef2⟩ := ask_some ef2
          have hA4 := hA3.snoc (show (rT2 rI rI) B3 (V.ref p2) (x1, x2) from ⟨p2, _, _, rfl, hB2, rfl, rfl⟩)
          refine ap_go st4 (Or.inl z1) nb3 hp2 (by rw [hA3.length]; exact q10) fun H5 st5 hp3 kp1 => ?_
          obtain rfl := Option.some.inj ef2
          exact hN2 _ _ ⟨B3, _, _, rfl, (ex2.trans s2.b), st5, nb3, hp3, hA4⟩
        · have hb := Bool.eq_false_iff.mpr hb
          have ef2 := if_inv_f hb ef2
          refine goT (b := false) (Ans.to (v_tb (v_op (v_cutS (v_var (by rfl)) v_po0 (v_po1 (v_var (by rfl))) q7) (v_cutS (v_var (by rfl)) (v_po1 (v_var (by rfl))) (v_po1 (v_op v_c (v_var (by rfl)) (fun _ q => ⟨_, _, rfl, rfl, smul_ok q9, q⟩))) q8) v_eqS)) hb) ?_
          refine if_f rfl ?_
          refine q_next ?_
          obtain rfl := Option.some.inj ef2
          exact hN2 _ _ ⟨B2, _, _, rfl, ex2, st3, nb3, hp2, hA3⟩
      ·
        rintro _ H6 ⟨B4, y5, vs3, rfl, ex3, st6, nb4, hp4, hA5⟩
        replace hp4 : H6 p1 = some (.lst vs3) := hp4
        replace hA5 : All2 ((rT2 rI rI) B4) vs3 r_2 := hA5
        obtain rfl := Option.some.inj ef1
        exact hN1 _ _ ⟨B4, _, _, _, _, rfl, (ex1.trans ex3), st6, nb4, hp4, hA5⟩
    ·
      rintro _ H7 ⟨B5, y6, y7, y8, vs4, rfl, ex4, st7, nb5, hp5, hA6⟩
      replace hp5 : H7 p1 = some (.lst vs4) := hp5
      replace hA6 : All2 ((rT2 rI rI) B5) vs4 r_1 := hA6
      refine q_ret ?_
      refine go (v := (V.ref p1)) (v_var (by rfl)) ?_
      obtain ⟨B6, st8, ex5, hB3, out1⟩ := give st7 hp5 z1
      have hA6 := hA6.imp fun _ _ h => mono ex5 h
      obtain rfl := Option.some.inj e
      exact q _ _ _ st8 (⟨p1, _, rfl, hB3, hA6⟩)
end K79
/-! walk -/
namespace K79
open PySem PySem.Spec PyProof.Rows L2 Wk RZ ClX
def sp_l_rowsP (K : PySem.W.Frag) : Sp := fun vs H Q _ => ∃ (B : Hp) (v_told : V) (x_told : (List (Int × Int))) (v_due : V) (x_due : (List (Int × Int))) (r : Bool), Ex B H ∧ vs = [v_told, v_due] ∧ (rL (rT2 rI rI)) B v_told x_told ∧ (rL (rT2 rI rI)) B v_due x_due ∧ m_l_rowsP x_told x_due = some r ∧ ∀ v B' H', Stp [] B H B' H' → rB B' v r → Q v H'
theorem ok_l_rowsP {P : Program} {w : World} {K : PySem.W.Frag} {mg : Str → Option Value} {base : Heap} (E : Tx K mg) : Ok P w K mg base CX0 2 "_law_rows" ["told", "due"] (sp_l_rowsP K) := by
  obtain ⟨fd, F⟩ := E.def_ 37 (d := d_l_rowsT) rfl
  replace F : FunD K "_law_rows" "_law_rows" (defArgs s_l_rowsT) (defBody s_l_rowsT) (defScope s_l_rowsT) [] [] (He.ga K "_law_rows") fd := F
  obtain ⟨fd_l_intsT, G_l_intsT, b_l_intsT, kp_l_intsT, m_l_intsT⟩ := ok_l_intsT (P := P) (w := w) (base := base) E
  have g_list : mg "list" = none := E.free 47
  have g_isinstance : mg "isinstance" = none := E.free 48
  have g_len : mg "len" = none := E.free 41
  have g_range : mg "range" = none := E.free 42
  have g_tuple : mg "tuple" = none := E.free 50
  refine ⟨fd, F.ok sc_l_rowsT (fun vs H Q E h => ?_) (fun cdv A outer s H0 vs Q X hr h => ?_), F.bindsN fun _ _ _ _ _ _ us hl => match us, hl with | [_, _], _ => rfl, F.kp, E.glo 32⟩
  · obtain ⟨_, _, _, _, _, _, _, rfl, _⟩ := h; rfl
  ·
    obtain ⟨B0, v_told, x_told, v_due, x_due, r, c0, rfl, h_told, h_due, e, q⟩ := h
    obtain ⟨a_told1, vs_told1, rfl, hB_told1, hA_told1⟩ := h_told
    obtain ⟨a_due1, vs_due1, rfl, hB_due1, hA_due1⟩ := h_due
    have st0 : Stp [] B0 H0 B0 H0 := Stp.refl c0
    unfold m_l_rowsP at e
    refine ⟨_, PSs.nox ((pss_cons (ps_if (PW.pt (pw_or (pt_not (pt_val (pe_callB call_isi (by rfl) g_isinstance (by decide +kernel) (pa_cons (pv 0) (pa_cons (pe_bltn (v := .ty "list") (by rfl) g_list (by decide +kernel) rfl) pa_nil))))) (pw_or1 (pt_cmpR op_ne (pe_callB call_len_seq (by rfl) g_len PySem.boot_len (pa_cons (pv 0) pa_nil)) (pe_callB call_len_seq (by rfl) g_len PySem.boot_len (pa_cons (pv 1) pa_nil)) (nomark _))))) (pss_one (ps_ret pe_bl)) pss_nil) (pss_cons (ps_for PassesOwn.never rfl (pi_range1 (by rfl) g_range (pa_cons (pe_callB call_len_seq (by rfl) g_len PySem.boot_len (pa_cons (pv 1) pa_nil)) pa_nil)) (pg_name (i := 2) sc_l_rowsT.nd rfl (by first | exact Or.inl rfl | exact Or.inr rfl)) (pss_cons (ps_if (pt_not (pt_val (pe_callB call_isi (by rfl) g_isinstance (by decide +kernel) (pa_cons (pe_ix ix_list (pv 0) (pv 2) (fun _ _ => rfl)) (pa_cons (pe_bltn (v := .ty "tuple") (by rfl) g_tuple (by decide +kernel) rfl) pa_nil))))) (pss_one (ps_ret pe_bl)) pss_nil) (pss_one (ps_if (pt_not (pt_val (pe_call G_l_intsT (hr.mono (by decide)) (by rfl) m_l_intsT kp_l_intsT b_l_intsT .nil pass0 (pa_cons (pe_callTy call_list_of (by rfl) g_list (by decide +kernel) (pa_cons (pe_ix ix_list (pv 0) (pv 2) (fun _ _ => rfl)) pa_nil)) (pa_cons (pe_ix ix_list (pv 1) (pv 2) (fun _ _ => rfl)) pa_nil))))) (pss_one (ps_ret pe_bl)) pss_nil)))) (pss_one (ps_ret pe_bl))))), ?_⟩
    refine q_st (σ' := [some (V.ref a_told1), some (V.ref a_due1), none]) rfl ?_
    refine q_seq ?_
    refine q_if ?_
    by_cases hb : ((!true) || (decide ((x_told.length : Int) ≠ (x_due.length : Int)))) = true
    · have e := if_inv_t hb e
      refine goT (b := true) (Ans.to (v_orT (v_not (v_tB (v_cb2 (v_var (by rfl)) v_c (v_isi (.ty "list") (TyX.base (TyOf.lst (st0.c _ _ hB_told1))) kit_list_list)))) (v_tb (v_op (v_cb1 (v_var (by rfl)) (v_lenL (Or.inl (Or.inl (Or.inl (st0.c _ _ hB_told1)))) hA_told1.length)) (v_cb1 (v_var (by rfl)) (v_lenL (Or.inl (Or.inl (Or.inl (st0.c _ _ hB_due1)))) hA_due1.length)) v_neI))) hb) ?_
      refine if_t rfl ?_
      refine q_ret ?_
      refine go (v := (V.bl false)) v_c ?_
      obtain rfl := Option.some.inj e
      exact q _ _ _ st0 rfl
    · have hb := Bool.eq_false_iff.mpr hb
      have e := if_inv_f hb e
      refine goT (b := false) (Ans.to (v_orT (v_not (v_tB (v_cb2 (v_var (by rfl)) v_c (v_isi (.ty "list") (TyX.base (TyOf.lst (st0.c _ _ hB_told1))) kit_list_list)))) (v_tb (v_op (v_cb1 (v_var (by rfl)) (v_lenL (Or.inl (Or.inl (Or.inl (st0.c _ _ hB_told1)))) hA_told1.length)) (v_cb1 (v_var (by rfl)) (v_lenL (Or.inl (Or.inl (Or.inl (st0.c _ _ hB_due1)))) hA_due1.length)) v_neI))) hb) ?_
      refine if_f rfl ?_
      refine q_next ?_
      refine q_seq ?_
      refine q_for ?_
      refine q_rng1 ?_
      refine q_cons ?_
      refine go (v := (V.int (x_due.length : Int))) (v_cb1 (v_var (by rfl)) (v_lenL (Or.inl (Or.inl (Or.inl (st0.c _ _ hB_due1)))) hA_due1.length)) ?_
      refine q_nil ?_
      obtain ⟨q1, e⟩ := ask_some e
      refine ⟨_, rfl, q1.1, q1.2, ?_⟩
      obtain ⟨r_1, er1, e⟩ := bind_some e
      refine for_R (Inv := fun (s : Unit) σ H => ∃ (B : Hp) (y_k : Option V), σ = [some (V.ref a_told1), some (V.ref a_due1), y_k] ∧ Ex B0 B ∧ Stp [] B0 H0 B H) er1 ?_ ?_ ?_ ?_ ?_
      · exact ⟨B0, _, rfl, (Ex.refl B0), st0⟩
      · exact rng0_st
      · exact rng0_go
      ·
        rintro i1 x1 _ t1 _ H1 hx1 ⟨B1, y1, rfl, ex1, st1⟩ ef1 v1 Hy1 hy1 N1 _ hN1
        have hB_told1 := ex1 _ _ hB_told1
        have hA_told1 := hA_told1.imp fun _ _ h => mono ex1 h
        have hB_due1 := ex1 _ _ hB_due1
        have hA_due1 := hA_due1.imp fun _ _ h => mono ex1 h
        change l_rowsP_b0 x_told x_due x1  = some t1 at ef1
        unfold l_rowsP_b0 at ef1
        obtain ⟨rfl, rfl⟩ := rng0_yld hy1 hx1
        refine q_gname ?_
        refine q_st (σ' := [some (V.ref a_told1), some (V.ref a_due1), some (V.int x1)]) rfl ?_
        refine q_seq ?_
        refine q_if ?_
        obtain ⟨x_1, e_x_1, ef1⟩ := bind_some ef1
        obtain ⟨w1, hw1, kw1⟩ := all2_at hA_told1 e_x_1
        obtain ⟨a_x1, w_x1, w_x2, rfl, hB_x1, h_x1, h_x2⟩ := hw1
        obtain rfl := h_x1
        obtain rfl := h_x2
        by_cases hb : (!true) = true
        · have ef1 := if_inv_t hb ef1
          refine goT (b := true) (Ans.to (v_not (v_tB (v_cb2 (v_op (v_var (by rfl)) (v_var (by rfl)) (v_ixL (Or.inl (Or.inl (st1.c _ _ hB_told1))) kw1)) v_c (v_isi (.ty "tuple") (TyX.base (TyOf.tup (st1.c _ _ hB_x1))) kit_tuple_tuple)))) hb) ?_
          refine if_t rfl ?_
          refine q_ret ?_
          refine go (v := (V.bl false)) v_c ?_
          obtain rfl := Option.some.inj ef1
          rw [hN1] at e
          replace e := fin_rt e
          obtain rfl := Option.some.inj e
          exact q _ _ _ st1 rfl
        · have hb := Bool.eq_false_iff.mpr hb
          have ef1 := if_inv_f hb ef1
          refine goT (b := false) (Ans.to (v_not (v_tB (v_cb2 (v_op (v_var (by rfl)) (v_var (by rfl)) (v_ixL (Or.inl (Or.inl (st1.c _ _ hB_told1))) kw1)) v_c (v_isi (.ty "tuple") (TyX.base (TyOf.tup (st1.c _ _ hB_x1))) kit_tuple_tuple)))) hb) ?_
          refine if_f rfl ?_
          refine q_next ?_
          refine q_if ?_
          refine q_not ?_
          refine q_tB ?_
          refine q_call ?_
          refine q_cons ?_
          refine q_cbR ?_
          refine q_cons ?_
          obtain ⟨x_2, e_x_2, ef1⟩ := bind_some ef1
          obtain ⟨w2, hw2, kw2⟩ := all2_at hA_told1 e_x_2
          obtain ⟨a_x2, w_x3, w_x4, rfl, hB_x2, h_x3, h_x4⟩ := hw2
          obtain rfl := h_x3
          obtain rfl := h_x4
          refine go (v := (V.ref a_x2)) (v_op (v_var (by rfl)) (v_var (by rfl)) (v_ixL (Or.inl (Or.inl (st1.c _ _ hB_told1))) kw2)) ?_
          refine q_nil ?_
          refine rc_list (Or.inr (Or.inl (Or.inl (st1.c _ _ hB_x2)))) ?_
          refine al_giv st1.c fun p1 np1 B2 H2 s1 hB1 => ?_
          have hB_told1 := s1.b _ _ hB_told1
          have hA_told1 := hA_told1.imp fun _ _ h => mono s1.b h
          have hB_due1 := s1.b _ _ hB_due1
          have hA_due1 := hA_due1.imp fun _ _ h => mono s1.b h
          have hB_x1 := s1.b _ _ hB_x1
          have hB_x2 := s1.b _ _ hB_x2
          have st2 := st1.t0 s1
          replace hB1 : B2 p1 = some (.lst (([x_2.1, x_2.2] : (List Int)).map V.int)) := hB1
          refine q_cons ?_
          obtain ⟨x_3, e_x_3, ef1⟩ := bind_some ef1
          obtain ⟨w3, hw3, kw3⟩ := all2_at hA_due1 e_x_3
          obtain ⟨a_x3, w_x5, w_x6, rfl, hB_x3, h_x5, h_x6⟩ := hw3
          obtain rfl := h_x5
          obtain rfl := h_x6
          refine go (v := (V.ref a_x3)) (v_op (v_var (by rfl)) (v_var (by rfl)) (v_ixL (Or.inl (Or.inl (st2.c _ _ hB_due1))) kw3)) ?_
          refine q_nil ?_
          obtain ⟨r_2, e_r_2, ef1⟩ := bind_some ef1
          refine ⟨B2, (V.ref p1), ([x_2.1, x_2.2] : (List Int)), (V.ref a_x3), ([x_3.1, x_3.2] : (List Int)), r_2, st2.c, rfl, ⟨p1, _, rfl, hB1, all2I ([x_2.1, x_2.2] : (List Int))⟩, ⟨a_x3, _, rfl, hB_x3, all2I ([x_3.1, x_3.2] : (List Int))⟩, e_r_2, ?_⟩
          intro v2 B3 H3 s2 h1
          obtain rfl := h1
          have s3 := s2.keepB st2.c (fun _ z => absurd z List.not_mem_nil)
          have st3 := st2.t0 s3
          by_cases hb : r_2 = true
          · have ef1 := if_inv_t hb ef1
            refine ⟨true, by rw [hb], ?_⟩
            refine if_f rfl ?_
            refine q_next ?_
            obtain rfl := Option.some.inj ef1
            exact hN1 _ _ ⟨B2, _, rfl, (ex1.trans s1.b), st3⟩
          · have hb := Bool.eq_false_iff.mpr hb
            have ef1 := if_inv_f hb ef1
            refine ⟨false, by rw [hb], ?_⟩
            refine if_t rfl ?_
            refine q_ret ?_
            refine go (v := (V.bl false)) v_c ?_
            obtain rfl := Option.some.inj ef1
            rw [hN1] at e
            replace e := fin_rt e
            obtain rfl := Option.some.inj e
            exact q _ _ _ st3 rfl
      ·
        rintro s4 _ H4 hz1 ⟨B4, y2, rfl, ex2, st4⟩
        have hB_told1 := ex2 _ _ hB_told1
        have hA_told1 := hA_told1.imp fun _ _ h => mono ex2 h
        have hB_due1 := ex2 _ _ hB_due1
        have hA_due1 := hA_due1.imp fun _ _ h => mono ex2 h
        rw [hz1] at e
        replace e := fin_nx e
        refine q_ret ?_
        refine go (v := (V.bl true)) v_c ?_
        obtain rfl := Option.some.inj e
        exact q _ _ _ st4 rfl
end K79
/-! walk -/
namespace K79
open PySem PySem.Spec PyProof.Rows L2 Wk RZ ClX
def sp_periods (K : PySem.W.Frag) : Sp := fun vs H Q _ => ∃ (B : Hp) (x_word : (List Nat)) (r : (List Int)), Ex B H ∧ vs = [(tS x_word)] ∧ m_periods x_word = some r ∧ ∀ v B' H', Stp [] B H B' H' → (rL rI) B' v r → Q v H'
theorem ok_periods {P : Program} {w : World} {K : PySem.W.Frag} {mg : Str → Option Value} {base : Heap} (E : Tx K mg) : Ok P w K mg base CX0 4 "periods" ["word"] (sp_periods K) := by
  obtain ⟨fd, F⟩ := E.def_ 9 (d := d_periods) rfl
  replace F : FunD K "periods" "periods" (defArgs s_periods) (defBody s_periods) (defScope s_periods) [] [] (He.ga K "periods") fd := F
  obtain ⟨fd_check_word, G_check_word, b_check_word, kp_check_word, m_check_word⟩ := ok_check_word (P := P) (w := w) (base := base) E
  have g_range : mg "range" = none := E.free 42
  have g_len : mg "len" = none := E.free 41
  refine ⟨fd, F.ok sc_periods (fun vs H Q E h => ?_) (fun cdv A outer s H0 vs Q X hr h => ?_), F.bindsN fun _ _ _ _ _ _ us hl => match us, hl with | [_], _ => rfl, F.kp, E.glo 9⟩
  · obtain ⟨_, _, _, _, rfl, _⟩ := h; rfl
  ·
    obtain ⟨B0, x_word, r, c0, rfl, e, q⟩ := h
    have st0 : Stp [] B0 H0 B0 H0 := Stp.refl c0
    unfold m_periods at e
    refine ⟨_, PSs.nox ((pss_cons (ps_expr (pe_call G_check_word (hr.mono (by decide)) (by rfl) m_check_word kp_check_word b_check_word .nil pass0 (pa_cons (pv 0) pa_nil))) (pss_one (ps_ret (pe_lc (own := [("count", 1)]) (by rfl) sc_periods.nd (pi_range2 (by rfl) g_range (pa_cons pe_int (pa_cons (pe_callB call_len_str (by rfl) g_len PySem.boot_len (pa_cons (pv 0) pa_nil)) pa_nil))) (blkOk_by (own := [("count", 1)]) (N := ["word", "count"]) (sc := defScope s_periods) (by decide +kernel)) (fun _ _ _ _ _ => (pg_name (i := 1) sc_periods.nd rfl (by first | exact Or.inl rfl | exact Or.inr rfl))) (fun _ _ _ _ _ => pts_one (pt_cmpR op_eq (pe_slice sl_str (pv 0) (po_some (pv 1)) po_none) (pe_slice sl_str (pv 0) po_none (po_some (pe_op op_sub (pe_callB call_len_str (by rfl) g_len PySem.boot_len (pa_cons (pv 0) pa_nil)) (pv 1)))) (nomark _))) (fun _ _ _ _ _ => (pv 1))))))), ?_⟩
    refine q_st (σ' := [some (tS x_word), none]) rfl ?_
    refine q_seq ?_
    refine q_drop ?_
    refine q_call ?_
    refine q_cons ?_
    refine go (v := (tS x_word)) (v_var (by rfl)) ?_
    refine q_nil ?_
    obtain ⟨r_1, e_r_1, e⟩ := bind_some e
    refine ⟨B0, x_word, r_1, st0.c, rfl, e_r_1, ?_⟩
    intro v1 B1 H1 s1 h1
    obtain rfl := h1
    have s2 := s1.keepB st0.c (fun _ z => absurd z List.not_mem_nil)
    have st1 := st0.t0 s2
    refine q_ret ?_
    refine q_lc ?_
    refine q_rng2 ?_
    refine q_cons ?_
    refine go (v := (V.int (1 : Int))) v_c ?_
    refine q_cons ?_
    obtain ⟨q1, e⟩ := ask_some e
    refine go (v := (V.int (x_word.length : Int))) (v_cb1 (v_var (by rfl)) (v_lenS q1)) ?_
    refine q_nil ?_
    obtain ⟨q2, e⟩ := ask_some e
    refine ⟨_, _, rfl, q2, ?_⟩
    obtain ⟨q3, e⟩ := ask_some e
    obtain ⟨ys1, ey1, e⟩ := bind_some e
    refine fun D1 nD1 => ?_
    have z1 := st1.g _ nD1
    have nb1 := B_none st1.c nD1
    refine lc_F (Inv := fun (l : (List Int)) H => ∃ (B : Hp), Ex B0 B ∧ Stp [] B0 H0 B H ∧ B D1 = none ∧ H D1 = some (.lst (l.map V.int))) ey1 q3 ?_ ?_ ?_ ?_ ?_
    · exact ⟨B0, Ex.refl _, st1.newO nD1, nb1, upd_same⟩
    · exact lcrng_st
    · exact lcrng_go
    ·
      rintro i1 x1 b1 l1 H2 hx1 ⟨B2, ex1, st2, nb2, hD2⟩ hl1 eb1 v2 _ hy1 N1 hN1
      obtain ⟨rfl, rfl⟩ := rng_yld hy1 hx1
      refine q_gname ?_
      refine ⟨rfl, ?_⟩
      obtain ⟨q4, eb1⟩ := ask_some eb1
      obtain ⟨q5, eb1⟩ := ask_some eb1
      obtain ⟨q6, eb1⟩ := ask_some eb1
      by_cases hb : (decide ((cutT x_word (some x1) none) = (cutT x_word none (some ((x_word.length : Int) - x1))))) = true
      · have eb1 := if_inv_t hb eb1
        refine goT (b := true) (Ans.to (v_tb (v_op (v_cutS (v_var (by rfl)) (v_po1 (v_var (by rfl))) v_po0 q4) (v_cutS (v_var (by rfl)) v_po0 (v_po1 (v_op (v_cb1 (v_var (by rfl)) (v_lenS q6)) (v_var (by rfl)) (fun _ q => ⟨_, _, rfl, rfl, q⟩))) q5) v_eqS)) hb) ?_
        obtain rfl := Option.some.inj eb1
        obtain ⟨y1, ef1, hN1⟩ := hN1.1 rfl
        refine if_t rfl ?_
        refine go (v := (V.int x1)) (v_var (by rfl)) ?_
        obtain rfl := Option.some.inj ef1
        refine ⟨_, hD2, (lt_lenF hx1 hl1 q3 (by simp)), hN1 _ ⟨B2, ex1, st2.mut (Or.inl z1) nb2, nb2, (upd_snoc)⟩⟩
      · have hb := Bool.eq_false_iff.mpr hb
        have eb1 := if_inv_f hb eb1
        refine goT (b := false) (Ans.to (v_tb (v_op (v_cutS (v_var (by rfl)) (v_po1 (v_var (by rfl))) v_po0 q4) (v_cutS (v_var (by rfl)) v_po0 (v_po1 (v_op (v_cb1 (v_var (by rfl)) (v_lenS q6)) (v_var (by rfl)) (fun _ q => ⟨_, _, rfl, rfl, q⟩))) q5) v_eqS)) hb) ?_
        obtain rfl := Option.some.inj eb1
        refine if_f rfl ?_
        exact hN1.2 rfl _ ⟨B2, ex1, st2, nb2, hD2⟩
    ·
      rintro H3 ⟨B3, ex2, st3, nb3, hD3⟩
      obtain ⟨B4, st4, ex3, hB1, out1⟩ := give st3 hD3 z1
      obtain rfl := Option.some.inj e
      exact q _ _ _ st4 (⟨D1, _, rfl, hB1, all2I _⟩)
end K79
/-! walk -/
namespace K79
open PySem PySem.Spec PyProof.Rows L2 Wk RZ ClX
def sp_l_periods (K : PySem.W.Frag) : Sp := fun vs H Q _ => ∃ (B : Hp) (x_word : (List Nat)) (r : (List Int)), Ex B H ∧ vs = [(tS x_word)] ∧ m_l_periods x_word = some r ∧ ∀ v B' H', Stp [] B H B' H' → (rL rI) B' v r → Q v H'
theorem ok_l_periods {P : Program} {w : World} {K : PySem.W.Frag} {mg : Str → Option Value} {base : Heap} (E : Tx K mg) : Ok P w K mg base CX0 1 "_law_periods" ["word"] (sp_l_periods K) := by
  obtain ⟨fd, F⟩ := E.def_ 29 (d := d_l_periods) rfl
  replace F : FunD K "_law_periods" "_law_periods" (defArgs s_l_periods) (defBody s_l_periods) (defScope s_l_periods) [] [] (He.ga K "_law_periods") fd := F
  have g_range : mg "range" = none := E.free 42
  have g_len : mg "len" = none := E.free 41
  refine ⟨fd, F.ok sc_l_periods (fun vs H Q E h => ?_) (fun cdv A outer s H0 vs Q X hr h => ?_), F.bindsN fun _ _ _ _ _ _ us hl => match us, hl with | [_], _ => rfl, F.kp, E.glo 29⟩
  · obtain ⟨_, _, _, _, rfl, _⟩ := h; rfl
  ·
    obtain ⟨B0, x_word, r, c0, rfl, e, q⟩ := h
    have st0 : Stp [] B0 H0 B0 H0 := Stp.refl c0
    unfold m_l_periods at e
    refine ⟨_, PSs.nox ((pss_cons (ps_set (i := 1) sc_l_periods.nd rfl (by first | exact Or.inl rfl | exact Or.inr rfl) (pe_lst pa_nil)) (pss_cons (ps_for PassesOwn.never rfl (pi_range2 (by rfl) g_range (pa_cons pe_int (pa_cons (pe_callB call_len_str (by rfl) g_len PySem.boot_len (pa_cons (pv 0) pa_nil)) pa_nil))) (pg_name (i := 2) sc_l_periods.nd rfl (by first | exact Or.inl rfl | exact Or.inr rfl)) (pss_one (ps_if (pt_val (pe_bm PySem.F.plainAttrs_str PySem.F.slot_str_startswith PySem.F.type_str_startswith mt_startswith (pv 0) (pa_cons (pe_slice sl_str (pv 0) (po_some (pv 2)) po_none) pa_nil))) (pss_one (ps_expr (pe_bm PySem.F.plainAttrs_list PySem.F.slot_list_append PySem.F.type_list_append mt_append (pv 1) (pa_cons (pv 2) pa_nil)))) pss_nil))) (pss_one (ps_ret (pv 1)))))), ?_⟩
    refine q_st (σ' := [some (tS x_word), none, none]) rfl ?_
    refine q_seq ?_
    refine q_set ?_
    refine q_lst ?_
    refine q_nil ?_
    refine ⟨by show _ ≤ 16777216; simp, ?_⟩
    refine al_own st0.c fun p1 np1 H1 s1 hB1 nb1 => ?_
    have z1 := st0.g _ np1
    have st1 := st0.t0 s1
    replace hB1 : H1 p1 = some (.lst (([] : (List Int)).map V.int)) := hB1
    refine q_nx (σ' := [some (tS x_word), some (V.ref p1), none]) rfl ?_
    refine q_seq ?_
    refine q_for ?_
    refine q_rng2 ?_
    refine q_cons ?_
    refine go (v := (V.int (1 : Int))) v_c ?_
    refine q_cons ?_
    obtain ⟨q1, e⟩ := ask_some e
    refine go (v := (V.int (x_word.length : Int))) (v_cb1 (v_var (by rfl)) (v_lenS q1)) ?_
    refine q_nil ?_
    obtain ⟨q2, e⟩ := ask_some e
    refine ⟨_, _, rfl, q2, ?_⟩
    obtain ⟨r_1, er1, e⟩ := bind_some e
    refine for_N (Inv := fun (s : (List Int)) σ H => ∃ (B : Hp) (y_k : Option V), σ = [some (tS x_word), some (V.ref p1), y_k] ∧ Ex B0 B ∧ Stp [] B0 H0 B H ∧ B p1 = none ∧ H p1 = some (.lst (s.map V.int))) er1 ?_ ?_ ?_ ?_ ?_
    · exact ⟨B0, _, rfl, (Ex.refl B0), st1, nb1, hB1⟩
    · exact rng_st
    · exact rng_go
    ·
      rintro i1 x1 c_found1 t1 _ H2 hx1 ⟨B1, y1, rfl, ex1, st2, nb2, hp1⟩ ef1 v1 Hy1 hy1 N1 hN1
      replace hp1 : H2 p1 = some (.lst (c_found1.map V.int)) := hp1
      change l_periods_b0 x_word x1 c_found1 = some t1 at ef1
      unfold l_periods_b0 at ef1
      obtain ⟨rfl, rfl⟩ := rng_yld hy1 hx1
      refine q_gname ?_
      refine q_st (σ' := [some (tS x_word), some (V.ref p1), some (V.int x1)]) rfl ?_
      refine q_if ?_
      obtain ⟨q3, ef1⟩ := ask_some ef1
      by_cases hb : (prefB (cutT x_word (some x1) none) x_word) = true
      · have ef1 := if_inv_t hb ef1
        refine goT (b := true) (Ans.to (v_tB (v_sm1 (v_var (by rfl)) (v_cutS (v_var (by rfl)) (v_po1 (v_var (by rfl))) v_po0 q3) v_startswith)) hb) ?_
        refine if_t rfl ?_
        refine q_drop ?_
        refine q_bm ?_
        refine go (v := (V.ref p1)) (v_var (by rfl)) ?_
        refine ⟨tyL (Or.inl (Or.inl hp1)), ?_⟩
        refine q_cons ?_
        refine go (v := (V.int x1)) (v_var (by rfl)) ?_
        refine q_nil ?_
        obtain ⟨q4, ef1⟩ := ask_some ef1
        refine ap_goF (f := V.int) st2 (Or.inl z1) nb2 hp1 q4 fun H3 st3 hp2 kp1 => ?_
        obtain rfl := Option.some.inj ef1
        exact hN1 _ _ ⟨B1, _, rfl, ex1, st3, nb2, hp2⟩
      · have hb := Bool.eq_false_iff.mpr hb
        have ef1 := if_inv_f hb ef1
        refine goT (b := false) (Ans.to (v_tB (v_sm1 (v_var (by rfl)) (v_cutS (v_var (by rfl)) (v_po1 (v_var (by rfl))) v_po0 q3) v_startswith)) hb) ?_
        refine if_f rfl ?_
        refine q_next ?_
        obtain rfl := Option.some.inj ef1
        exact hN1 _ _ ⟨B1, _, rfl, ex1, st2, nb2, hp1⟩
    ·
      rintro _ H4 ⟨B2, y2, rfl, ex2, st4, nb3, hp3⟩
      replace hp3 : H4 p1 = some (.lst (r_1.map V.int)) := hp3
      refine q_ret ?_
      refine go (v := (V.ref p1)) (v_var (by rfl)) ?_
      obtain ⟨B3, st5, ex3, hB2, out1⟩ := give st4 hp3 z1
      obtain rfl := Option.some.inj e
      exact q _ _ _ st5 (⟨p1, _, rfl, hB2, all2I _⟩)
end K79
/-! walk -/
namespace K79
open PySem PySem.Spec PyProof.Rows L2 Wk RZ ClX
def sp_l_ints (K : PySem.W.Frag) : Sp := fun vs H Q _ => ∃ (B : Hp) (v_told : V) (x_told : (List Int)) (v_due : V) (x_due : (List Int)) (r : Bool), Ex B H ∧ vs = [v_told, v_due] ∧ (rL rI) B v_told x_told ∧ (rL rI) B v_due x_due ∧ m_l_ints x_told x_due = some r ∧ ∀ v B' H', Stp [] B H B' H' → rB B' v r → Q v H'
theorem ok_l_ints {P : Program} {w : World} {K : PySem.W.Frag} {mg : Str → Option Value} {base : Heap} (E : Tx K mg) : Ok P w K mg base CX0 1 "_law_ints" ["told", "due"] (sp_l_ints K) := by
  obtain ⟨fd, F⟩ := E.def_ 30 (d := d_l_ints) rfl
  replace F : FunD K "_law_ints" "_law_ints" (defArgs s_l_ints) (defBody s_l_ints) (defScope s_l_ints) [] [] (He.ga K "_law_ints") fd := F
  have g_list : mg "list" = none := E.free 47
  have g_isinstance : mg "isinstance" = none := E.free 48
  have g_len : mg "len" = none := E.free 41
  have g_range : mg "range" = none := E.free 42
  have g_int : mg "int" = none := E.free 45
  have g_bool : mg "bool" = none := E.free 49
  refine ⟨fd, F.ok sc_l_ints (fun vs H Q E h => ?_) (fun cdv A outer s H0 vs Q X hr h => ?_), F.bindsN fun _ _ _ _ _ _ us hl => match us, hl with | [_, _], _ => rfl, F.kp, E.glo 30⟩
  · obtain ⟨_, _, _, _, _, _, _, rfl, _⟩ := h; rfl
  ·
    obtain ⟨B0, v_told, x_told, v_due, x_due, r, c0, rfl, h_told, h_due, e, q⟩ := h
    obtain ⟨a_told1, vs_told1, rfl, hB_told1, hA_told1⟩ := h_told
    obtain rfl := all2_I hA_told1
    obtain ⟨a_due1, vs_due1, rfl, hB_due1, hA_due1⟩ := h_due
    obtain rfl := all2_I hA_due1
    have st0 : Stp [] B0 H0 B0 H0 := Stp.refl c0
    unfold m_l_ints at e
    refine ⟨_, PSs.nox ((pss_cons (ps_if (PW.pt (pw_or (pt_not (pt_val (pe_callB call_isi (by rfl) g_isinstance (by decide +kernel) (pa_cons (pv 0) (pa_cons (pe_bltn (v := .ty "list") (by rfl) g_list (by decide +kernel) rfl) pa_nil))))) (pw_or1 (pt_cmpR op_ne (pe_callB call_len_seq (by rfl) g_len PySem.boot_len (pa_cons (pv 0) pa_nil)) (pe_callB call_len_seq (by rfl) g_len PySem.boot_len (pa_cons (pv 1) pa_nil)) (nomark _))))) (pss_one (ps_ret pe_bl)) pss_nil) (pss_cons (ps_for PassesOwn.never rfl (pi_range1 (by rfl) g_range (pa_cons (pe_callB call_len_seq (by rfl) g_len PySem.boot_len (pa_cons (pv 1) pa_nil)) pa_nil)) (pg_name (i := 2) sc_l_ints.nd rfl (by first | exact Or.inl rfl | exact Or.inr rfl)) (pss_cons (ps_if (PW.pt (pw_or (pt_not (pt_val (pe_callB call_isi (by rfl) g_isinstance (by decide +kernel) (pa_cons (pe_ix ix_list (pv 0) (pv 2) (fun _ _ => rfl)) (pa_cons (pe_bltn (v := .ty "int") (by rfl) g_int (by decide +kernel) rfl) pa_nil))))) (pw_or1 (pt_val (pe_callB call_isi (by rfl) g_isinstance (by decide +kernel) (pa_cons (pe_ix ix_list (pv 0) (pv 2) (fun _ _ => rfl)) (pa_cons (pe_bltn (v := .ty "bool") (by rfl) g_bool (by decide +kernel) rfl) pa_nil))))))) (pss_one (ps_ret pe_bl)) pss_nil) (pss_one (ps_if (pt_cmpR op_ne (pe_ix ix_list (pv 0) (pv 2) (fun _ _ => rfl)) (pe_ix ix_list (pv 1) (pv 2) (fun _ _ => rfl)) (nomark _)) (pss_one (ps_ret pe_bl)) pss_nil)))) (pss_one (ps_ret pe_bl))))), ?_⟩
    refine q_st (σ' := [some (V.ref a_told1), some (V.ref a_due1), none]) rfl ?_
    refine q_seq ?_
    refine q_if ?_
    by_cases hb : ((!true) || (decide ((x_told.length : Int) ≠ (x_due.length : Int)))) = true
    · have e := if_inv_t hb e
      refine goT (b := true) (Ans.to (v_orT (v_not (v_tB (v_cb2 (v_var (by rfl)) v_c (v_isi (.ty "list") (TyX.base (TyOf.lst (st0.c _ _ hB_told1))) kit_list_list)))) (v_tb (v_op (v_cb1 (v_var (by rfl)) (v_lenL (Or.inl (Or.inl (Or.inl (st0.c _ _ hB_told1)))) (by simp))) (v_cb1 (v_var (by rfl)) (v_lenL (Or.inl (Or.inl (Or.inl (st0.c _ _ hB_due1)))) (by simp))) v_neI))) hb) ?_
      refine if_t rfl ?_
      refine q_ret ?_
      refine go (v := (V.bl false)) v_c ?_
      obtain rfl := Option.some.inj e
      exact q _ _ _ st0 rfl
    · have hb := Bool.eq_false_iff.mpr hb
      have e := if_inv_f hb e
      refine goT (b := false) (Ans.to (v_orT (v_not (v_tB (v_cb2 (v_var (by rfl)) v_c (v_isi (.ty "list") (TyX.base (TyOf.lst (st0.c _ _ hB_told1))) kit_list_list)))) (v_tb (v_op (v_cb1 (v_var (by rfl)) (v_lenL (Or.inl (Or.inl (Or.inl (st0.c _ _ hB_told1)))) (by simp))) (v_cb1 (v_var (by rfl)) (v_lenL (Or.inl (Or.inl (Or.inl (st0.c _ _ hB_due1)))) (by simp))) v_neI))) hb) ?_
      refine if_f rfl ?_
      refine q_next ?_
      refine q_seq ?_
      refine q_for ?_
      refine q_rng1 ?_
      refine q_cons ?_
      refine go (v := (V.int (x_due.length : Int))) (v_cb1 (v_var (by rfl)) (v_lenL (Or.inl (Or.inl (Or.inl (st0.c _ _ hB_due1)))) (by simp))) ?_
      refine q_nil ?_
      obtain ⟨q1, e⟩ := ask_some e
      refine ⟨_, rfl, q1.1, q1.2, ?_⟩
      obtain ⟨r_1, er1, e⟩ := bind_some e
      refine for_R (Inv := fun (s : Unit) σ H => ∃ (B : Hp) (y_k : Option V), σ = [some (V.ref a_told1), some (V.ref a_due1), y_k] ∧ Ex B0 B ∧ Stp [] B0 H0 B H) er1 ?_ ?_ ?_ ?_ ?_
      · exact ⟨B0, _, rfl, (Ex.refl B0), st0⟩
      · exact rng0_st
      · exact rng0_go
      ·
        rintro i1 x1 _ t1 _ H1 hx1 ⟨B1, y1, rfl, ex1, st1⟩ ef1 v1 Hy1 hy1 N1 _ hN1
        have hB_told1 := ex1 _ _ hB_told1
        have hB_due1 := ex1 _ _ hB_due1
        change l_ints_b0 x_told x_due x1  = some t1 at ef1
        unfold l_ints_b0 at ef1
        obtain ⟨rfl, rfl⟩ := rng0_yld hy1 hx1
        refine q_gname ?_
        refine q_st (σ' := [some (V.ref a_told1), some (V.ref a_due1), some (V.int x1)]) rfl ?_
        refine q_seq ?_
        refine q_if ?_
        obtain ⟨x_1, e_x_1, ef1⟩ := bind_some ef1
        obtain ⟨c_1, e_c_1, ef1⟩ := bind_some ef1
        by_cases hb : c_1 = true
        · have ef1 := if_inv_t hb ef1
          refine goT (b := true) (Ans.to (v_or (v_not (v_tB (v_cb2 (v_op (v_var (by rfl)) (v_var (by rfl)) (v_ixL (Or.inl (Or.inl (st1.c _ _ hB_told1))) (atI_map e_x_1))) v_c (v_isi (.ty "int") (TyX.base (TyOf.int _)) kit_int_int)))) e_c_1 (fun _ k1 => by obtain ⟨x_2, e_x_2, k1⟩ := bind_some k1; obtain rfl := Option.some.inj k1; exact (v_tB (v_cb2 (v_op (v_var (by rfl)) (v_var (by rfl)) (v_ixL (Or.inl (Or.inl (st1.c _ _ hB_told1))) (atI_map e_x_2))) v_c (v_isi (.ty "bool") (TyX.base (TyOf.int _)) kit_int_bool))))) hb) ?_
          refine if_t rfl ?_
          refine q_ret ?_
          refine go (v := (V.bl false)) v_c ?_
          obtain rfl := Option.some.inj ef1
          rw [hN1] at e
          replace e := fin_rt e
          obtain rfl := Option.some.inj e
          exact q _ _ _ st1 rfl
        · have hb := Bool.eq_false_iff.mpr hb
          have ef1 := if_inv_f hb ef1
          refine goT (b := false) (Ans.to (v_or (v_not (v_tB (v_cb2 (v_op (v_var (by rfl)) (v_var (by rfl)) (v_ixL (Or.inl (Or.inl (st1.c _ _ hB_told1))) (atI_map e_x_1))) v_c (v_isi (.ty "int") (TyX.base (TyOf.int _)) kit_int_int)))) e_c_1 (fun _ k1 => by obtain ⟨x_2, e_x_2, k1⟩ := bind_some k1; obtain rfl := Option.some.inj k1; exact (v_tB (v_cb2 (v_op (v_var (by rfl)) (v_var (by rfl)) (v_ixL (Or.inl (Or.inl (st1.c _ _ hB_told1))) (atI_map e_x_2))) v_c (v_isi (.ty "bool") (TyX.base (TyOf.int _)) kit_int_bool))))) hb) ?_
          refine if_f rfl ?_
          refine q_next ?_
          refine q_if ?_
          obtain ⟨x_3, e_x_3, ef1⟩ := bind_some ef1
          obtain ⟨x_4, e_x_4, ef1⟩ := bind_some ef1
          by_cases hb : (decide (x_3 ≠ x_4)) = true
          · have ef1 := if_inv_t hb ef1
            refine goT (b := true) (Ans.to (v_tb (v_op (v_op (v_var (by rfl)) (v_var (by rfl)) (v_ixL (Or.inl (Or.inl (st1.c _ _ hB_told1))) (atI_map e_x_3))) (v_op (v_var (by rfl)) (v_var (by rfl)) (v_ixL (Or.inl (Or.inl (st1.c _ _ hB_due1))) (atI_map e_x_4))) v_neI)) hb) ?_
            refine if_t rfl ?_
            refine q_ret ?_
            refine go (v := (V.bl false)) v_c ?_
            obtain rfl := Option.some.inj ef1
            rw [hN1] at e
            replace e := fin_rt e
            obtain rfl := Option.some.inj e
            exact q _ _ _ st1 rfl
          · have hb := Bool.eq_false_iff.mpr hb
            have ef1 := if_inv_f hb ef1
            refine goT (b := false) (Ans.to (v_tb (v_op (v_op (v_var (by rfl)) (v_var (by rfl)) (v_ixL (Or.inl (Or.inl (st1.c _ _ hB_told1))) (atI_map e_x_3))) (v_op (v_var (by rfl)) (v_var (by rfl)) (v_ixL (Or.inl (Or.inl (st1.c _ _ hB_due1))) (atI_map e_x_4))) v_neI)) hb) ?_
            refine if_f rfl ?_
            refine q_next ?_
            obtain rfl := Option.some.inj ef1
            exact hN1 _ _ ⟨B1, _, rfl, ex1, st1⟩
      ·
        rintro s1 _ H2 hz1 ⟨B2, y2, rfl, ex2, st2⟩
        have hB_told1 := ex2 _ _ hB_told1
        have hB_due1 := ex2 _ _ hB_due1
        rw [hz1] at e
        replace e := fin_nx e
        refine q_ret ?_
        refine go (v := (V.bl true)) v_c ?_
        obtain rfl := Option.some.inj e
        exact q _ _ _ st2 rfl
end K79
/-! walk -/
namespace K79
open PySem PySem.Spec PyProof.Rows L2 Wk RZ ClX
def sp_prefix_table (K : PySem.W.Frag) : Sp := fun vs H Q _ => ∃ (B : Hp) (x_word : (List Nat)) (r : (List Int)), Ex B H ∧ vs = [(tS x_word)] ∧ m_prefix_table x_word = some r ∧ ∀ v B' H', Stp [] B H B' H' → (rL rI) B' v r → Q v H'
theorem ok_prefix_table {P : Program} {w : World} {K : PySem.W.Frag} {mg : Str → Option Value} {base : Heap} (E : Tx K mg) : Ok P w K mg base CX0 4 "prefix_table" ["word"] (sp_prefix_table K) := by
  obtain ⟨fd, F⟩ := E.def_ 7 (d := d_prefix_table) rfl
  replace F : FunD K "prefix_table" "prefix_table" (defArgs s_prefix_table) (defBody s_prefix_table) (defScope s_prefix_table) [] [] (He.ga K "prefix_table") fd := F
  obtain ⟨fd_check_word, G_check_word, b_check_word, kp_check_word, m_check_word⟩ := ok_check_word (P := P) (w := w) (base := base) E
  have g_range : mg "range" = none := E.free 42
  have g_len : mg "len" = none := E.free 41
  have g_min : mg "min" = none := E.free 43
  refine ⟨fd, F.ok sc_prefix_table (fun vs H Q E h => ?_) (fun cdv A outer s H0 vs Q X hr h => ?_), F.bindsN fun _ _ _ _ _ _ us hl => match us, hl with | [_], _ => rfl, F.kp, E.glo 7⟩
  · obtain ⟨_, _, _, _, rfl, _⟩ := h; rfl
  ·
    obtain ⟨B0, x_word, r, c0, rfl, e, q⟩ := h
    have st0 : Stp [] B0 H0 B0 H0 := Stp.refl c0
    unfold m_prefix_table at e
    refine ⟨_, PSs.nox ((pss_cons (ps_expr (pe_call G_check_word (hr.mono (by decide)) (by rfl) m_check_word kp_check_word b_check_word .nil pass0 (pa_cons (pv 0) pa_nil))) (pss_cons (ps_set (i := 1) sc_prefix_table.nd rfl (by first | exact Or.inl rfl | exact Or.inr rfl) (pe_lst pa_nil)) (pss_cons (ps_asg2 pe_int (pg_name (i := 2) sc_prefix_table.nd rfl (by first | exact Or.inl rfl | exact Or.inr rfl)) (pg_name (i := 3) sc_prefix_table.nd rfl (by first | exact Or.inl rfl | exact Or.inr rfl))) (pss_cons (ps_for PassesOwn.never rfl (pi_range1 (by rfl) g_range (pa_cons (pe_callB call_len_str (by rfl) g_len PySem.boot_len (pa_cons (pv 0) pa_nil)) pa_nil)) (pg_name (i := 4) sc_prefix_table.nd rfl (by first | exact Or.inl rfl | exact Or.inr rfl)) (pss_cons (ps_set (i := 5) sc_prefix_table.nd rfl (by first | exact Or.inl rfl | exact Or.inr rfl) pe_int) (Evl.pss_cut (ps_if (pt_cmpR op_eq (pv 4) pe_int (nomark _)) (pss_one (ps_set (i := 5) sc_prefix_table.nd rfl (by first | exact Or.inl rfl | exact Or.inr rfl) (pe_callB call_len_str (by rfl) g_len PySem.boot_len (pa_cons (pv 0) pa_nil)))) (pss_one (ps_if (pt_cmpR op_lt (pv 4) (pv 3) (nomark _)) (pss_one (ps_set (i := 5) sc_prefix_table.nd rfl (by first | exact Or.inl rfl | exact Or.inr rfl) (pe_callB (call_min2 rfl) (by rfl) g_min (by decide +kernel) (pa_cons (pe_op op_sub (pv 3) (pv 4)) (pa_cons (pe_ix ix_list (pv 1) (pe_op op_sub (pv 4) (pv 2)) (fun _ _ => rfl)) pa_nil))))) pss_nil))) (pss_cons (ps_while PassesOwn.never (PW.pt (pw_and (pt_cmpR op_lt (pe_op op_add (pv 4) (pv 5)) (pe_callB call_len_str (by rfl) g_len PySem.boot_len (pa_cons (pv 0) pa_nil)) (nomark _)) (pw_and1 (pt_cmpR op_eq (pe_ix ix_str (pv 0) (pv 5) (fun _ _ => rfl)) (pe_ix ix_str (pv 0) (pe_op op_add (pv 4) (pv 5)) (fun _ _ => rfl)) (nomark _))))) (pss_one (ps_aug (i := 5) sc_prefix_table.nd rfl (by first | exact Or.inl rfl | exact Or.inr rfl) pe_int ip_add))) (Evl.pss_cut (ps_if (PW.pt (pw_and (pt_cmpR op_gt (pv 4) pe_int (nomark _)) (pw_and1 (pt_cmpR op_gt (pe_op op_add (pv 4) (pv 5)) (pv 3) (nomark _))))) (pss_cons (ps_set (i := 2) sc_prefix_table.nd rfl (by first | exact Or.inl rfl | exact Or.inr rfl) (pv 4)) (pss_one (ps_set (i := 3) sc_prefix_table.nd rfl (by first | exact Or.inl rfl | exact Or.inr rfl) (pe_op op_add (pv 4) (pv 5))))) pss_nil) (pss_one (ps_expr (pe_bm PySem.F.plainAttrs_list PySem.F.slot_list_append PySem.F.type_list_append mt_append (pv 1) (pa_cons (pv 5) pa_nil))))))))) (pss_one (ps_ret (pv 1)))))))), ?_⟩
    refine q_st (σ' := [some (tS x_word), none, none, none, none, none]) rfl ?_
    refine q_seq ?_
    refine q_drop ?_
    refine q_call ?_
    refine q_cons ?_
    refine go (v := (tS x_word)) (v_var (by rfl)) ?_
    refine q_nil ?_
    obtain ⟨r_1, e_r_1, e⟩ := bind_some e
    refine ⟨B0, x_word, r_1, st0.c, rfl, e_r_1, ?_⟩
    intro v1 B1 H1 s1 h1
    obtain rfl := h1
    have s2 := s1.keepB st0.c (fun _ z => absurd z List.not_mem_nil)
    have st1 := st0.t0 s2
    refine q_seq ?_
    refine q_set ?_
    refine q_lst ?_
    refine q_nil ?_
    refine ⟨by show _ ≤ 16777216; simp, ?_⟩
    refine al_own st1.c fun p1 np1 H2 s3 hB1 nb1 => ?_
    have z1 := st1.g _ np1
    have st2 := st1.t0 s3
    replace hB1 : H2 p1 = some (.lst (([] : (List Int)).map V.int)) := hB1
    refine q_nx (σ' := [some (tS x_word), some (V.ref p1), none, none, none, none]) rfl ?_
    refine q_seq ?_
    refine q_set2 ?_
    refine go (v := (V.int (0 : Int))) v_c ?_
    refine q_nx (σ' := [some (tS x_word), some (V.ref p1), some (V.int (0 : Int)), some (V.int (0 : Int)), none, none]) rfl ?_
    refine q_seq ?_
    refine q_for ?_
    refine q_rng1 ?_
    refine q_cons ?_
    obtain ⟨q1, e⟩ := ask_some e
    refine go (v := (V.int (x_word.length : Int))) (v_cb1 (v_var (by rfl)) (v_lenS q1)) ?_
    refine q_nil ?_
    obtain ⟨q2, e⟩ := ask_some e
    refine ⟨_, rfl, q2.1, q2.2, ?_⟩
    obtain ⟨r_2, er1, e⟩ := bind_some e
    refine for_N (Inv := fun (s : ((List Int) × Int × Int)) σ H => ∃ (B : Hp) (y_place : Option V) (y_count : Option V), σ = [some (tS x_word), some (V.ref p1), some (V.int s.2.1), some (V.int s.2.2), y_place, y_count] ∧ Ex B0 B ∧ Stp [] B0 H0 B H ∧ B p1 = none ∧ H p1 = some (.lst (s.1.map V.int))) er1 ?_ ?_ ?_ ?_ ?_
    · exact ⟨B0, _, _, rfl, (Ex.refl B0), st2, nb1, hB1⟩
    · exact rng0_st
    · exact rng0_go
    ·
      rintro i1 x1 ⟨c_table1, c_left1, c_right1⟩ t1 _ H3 hx1 ⟨B2, y1, y2, rfl, ex1, st3, nb2, hp1⟩ ef1 v2 Hy1 hy1 N1 hN1
      replace hp1 : H3 p1 = some (.lst (c_table1.map V.int)) := hp1
      change prefix_table_b0 x_word x1 c_table1 c_left1 c_right1 = some t1 at ef1
      unfold prefix_table_b0 at ef1
      obtain ⟨rfl, rfl⟩ := rng0_yld hy1 hx1
      refine q_gname ?_
      refine q_st (σ' := [some (tS x_word), some (V.ref p1), some (V.int c_left1), some (V.int c_right1), some (V.int x1), y2]) rfl ?_
      refine q_seq ?_
      refine q_set ?_
      refine go (v := (V.int (0 : Int))) v_c ?_
      refine q_nx (σ' := [some (tS x_word), some (V.ref p1), some (V.int c_left1), some (V.int c_right1), some (V.int x1), some (V.int (0 : Int))]) rfl ?_
      obtain ⟨j_1, ej1, ef1⟩ := bind_some ef1
      refine q_cut (Mid := MidP fun σ H => ∃ (B : Hp), σ = [some (tS x_word), some (V.ref p1), some (V.int c_left1), some (V.int c_right1), some (V.int x1), some (V.int j_1)] ∧ Ex B2 B ∧ Stp [] B0 H0 B H ∧ B p1 = none ∧ H p1 = some (.lst (c_table1.map V.int))) ?_ ?_
      ·
        refine q_if ?_
        by_cases hb : (decide (x1 = (0 : Int))) = true
        · have ej1 := if_inv_t hb ej1
          refine goT (b := true) (Ans.to (v_tb (v_op (v_var (by rfl)) v_c v_eqI)) hb) ?_
          refine if_t rfl ?_
          refine q_set ?_
          obtain ⟨q3, ej1⟩ := ask_some ej1
          refine go (v := (V.int (x_word.length : Int))) (v_cb1 (v_var (by rfl)) (v_lenS q3)) ?_
          refine q_nx (σ' := [some (tS x_word), some (V.ref p1), some (V.int c_left1), some (V.int c_right1), some (V.int x1), some (V.int (x_word.length : Int))]) rfl ?_
          obtain rfl := Option.some.inj ej1
          exact ⟨B2, rfl, (Ex.refl B2), st3, nb2, hp1⟩
        · have hb := Bool.eq_false_iff.mpr hb
          have ej1 := if_inv_f hb ej1
          refine goT (b := false) (Ans.to (v_tb (v_op (v_var (by rfl)) v_c v_eqI)) hb) ?_
          refine if_f rfl ?_
          refine q_if ?_
          by_cases hb : (decide (x1 < c_right1)) = true
          · have ej1 := if_inv_t hb ej1
            refine goT (b := true) (Ans.to (v_tb (v_op (v_var (by rfl)) (v_var (by rfl)) (fun _ q => ⟨_, _, rfl, rfl, q⟩))) hb) ?_
            refine if_t rfl ?_
            refine q_set ?_
            obtain ⟨x_1, e_x_1, ej1⟩ := bind_some ej1
            refine go (v := (V.int (minI (c_right1 - x1) x_1))) (v_cb2 (v_op (v_var (by rfl)) (v_var (by rfl)) (fun _ q => ⟨_, _, rfl, rfl, q⟩)) (v_op (v_var (by rfl)) (v_op (v_var (by rfl)) (v_var (by rfl)) (fun _ q => ⟨_, _, rfl, rfl, q⟩)) (v_ixL (Or.inl (Or.inl hp1)) (atI_map e_x_1))) v_min2) ?_
            refine q_nx (σ' := [some (tS x_word), some (V.ref p1), some (V.int c_left1), some (V.int c_right1), some (V.int x1), some (V.int (minI (c_right1 - x1) x_1))]) rfl ?_
            obtain rfl := Option.some.inj ej1
            exact ⟨B2, rfl, (Ex.refl B2), st3, nb2, hp1⟩
          · have hb := Bool.eq_false_iff.mpr hb
            have ej1 := if_inv_f hb ej1
            refine goT (b := false) (Ans.to (v_tb (v_op (v_var (by rfl)) (v_var (by rfl)) (fun _ q => ⟨_, _, rfl, rfl, q⟩))) hb) ?_
            refine if_f rfl ?_
            refine q_next ?_
            obtain rfl := Option.some.inj ej1
            exact ⟨B2, rfl, (Ex.refl B2), st3, nb2, hp1⟩
      ·
        rintro _ H4 ⟨B3, rfl, ex2, st4, nb3, hp2⟩
        replace hp2 : H4 p1 = some (.lst (c_table1.map V.int)) := hp2
        refine q_seq ?_
        obtain ⟨r_3, er2, ef1⟩ := bind_some ef1
        refine while_N (Inv := fun (s : Int) σ H => ∃ (B : Hp), σ = [some (tS x_word), some (V.ref p1), some (V.int c_left1), some (V.int c_right1), some (V.int x1), some (V.int s)] ∧ Ex B3 B ∧ Stp [] B0 H0 B H ∧ B p1 = none ∧ H p1 = some (.lst (c_table1.map V.int))) er2 ?_ ?_ ?_ ?_
        · exact ⟨B3, rfl, (Ex.refl B3), st4, nb3, hp2⟩
        ·
          rintro c_count1 b1 _ H5 ⟨B4, rfl, ex3, st5, nb4, hp3⟩ ec1 Q1 q4
          replace hp3 : H5 p1 = some (.lst (c_table1.map V.int)) := hp3
          change prefix_table_c1 x_word x1 c_count1 = some b1 at ec1
          unfold prefix_table_c1 at ec1
          obtain ⟨q5, ec1⟩ := ask_some ec1
          obtain ⟨c_3, e_c_3, ec1⟩ := bind_some ec1
          obtain rfl := Option.some.inj ec1
          exact (v_and (v_tb (v_op (v_op (v_var (by rfl)) (v_var (by rfl)) (fun _ q => ⟨_, _, rfl, rfl, q⟩)) (v_cb1 (v_var (by rfl)) (v_lenS q5)) (fun _ q => ⟨_, _, rfl, rfl, q⟩))) e_c_3 (fun _ k1 => by obtain ⟨q6, k1⟩ := ask_some k1; obtain ⟨c_1, e_c_1, k1⟩ := bind_some k1; obtain ⟨q7, k1⟩ := ask_some k1; obtain ⟨c_2, e_c_2, k1⟩ := bind_some k1; obtain rfl := Option.some.inj k1; exact (v_tb (v_op (v_op (v_var (by rfl)) (v_var (by rfl)) (v_ixS q6 e_c_1)) (v_op (v_var (by rfl)) (v_op (v_var (by rfl)) (v_var (by rfl)) (fun _ q => ⟨_, _, rfl, rfl, q⟩)) (v_ixS q7 e_c_2)) v_eqS)))) _ (q4 _ ⟨B4, rfl, ex3, st5, nb4, hp3⟩)
        ·
          rintro c_count1 t2 _ H6 ⟨B5, rfl, ex4, st6, nb5, hp4⟩ ec2 ef2 N2 hN2
          replace hp4 : H6 p1 = some (.lst (c_table1.map V.int)) := hp4
          change prefix_table_b1  c_count1 = some t2 at ef2
          unfold prefix_table_b1 at ef2
          refine q_aug (by rfl) ?_
          refine go (v := (V.int (1 : Int))) v_c ?_
          refine ⟨_, _, rfl, rfl, ?_⟩
          refine q_nx (σ' := [some (tS x_word), some (V.ref p1), some (V.int c_left1), some (V.int c_right1), some (V.int x1), some (V.int (c_count1 + (1 : Int)))]) rfl ?_
          obtain rfl := Option.some.inj ef2
          exact hN2 _ _ ⟨B5, rfl, ex4, st6, nb5, hp4⟩
        ·
          rintro _ H7 ⟨B6, rfl, ex5, st7, nb6, hp5⟩
          replace hp5 : H7 p1 = some (.lst (c_table1.map V.int)) := hp5
          obtain ⟨j_2, ej2, ef1⟩ := bind_some ef1
          refine q_cut (Mid := MidP fun σ H => ∃ (B : Hp), σ = [some (tS x_word), some (V.ref p1), some (V.int j_2.1), some (V.int j_2.2), some (V.int x1), some (V.int r_3)] ∧ Ex B6 B ∧ Stp [] B0 H0 B H ∧ B p1 = none ∧ H p1 = some (.lst (c_table1.map V.int))) ?_ ?_
          ·
            refine q_if ?_
            by_cases hb : ((decide (x1 > (0 : Int))) && (decide ((x1 + r_3) > c_right1))) = true
            · have ej2 := if_inv_t hb ej2
              refine goT (b := true) (Ans.to (v_andT (v_tb (v_op (v_var (by rfl)) v_c (fun _ q => ⟨_, _, rfl, rfl, q⟩))) (v_tb (v_op (v_op (v_var (by rfl)) (v_var (by rfl)) (fun _ q => ⟨_, _, rfl, rfl, q⟩)) (v_var (by rfl)) (fun _ q => ⟨_, _, rfl, rfl, q⟩)))) hb) ?_
              refine if_t rfl ?_
              refine q_seq ?_
              refine q_set ?_
              refine go (v := (V.int x1)) (v_var (by rfl)) ?_
              refine q_nx (σ' := [some (tS x_word), some (V.ref p1), some (V.int x1), some (V.int c_right1), some (V.int x1), some (V.int r_3)]) rfl ?_
              refine q_set ?_
              refine go (v := (V.int (x1 + r_3))) (v_op (v_var (by rfl)) (v_var (by rfl)) (fun _ q => ⟨_, _, rfl, rfl, q⟩)) ?_
              refine q_nx (σ' := [some (tS x_word), some (V.ref p1), some (V.int x1), some (V.int (x1 + r_3)), some (V.int x1), some (V.int r_3)]) rfl ?_
              obtain rfl := Option.some.inj ej2
              exact ⟨B6, rfl, (Ex.refl B6), st7, nb6, hp5⟩
            · have hb := Bool.eq_false_iff.mpr hb
              have ej2 := if_inv_f hb ej2
              refine goT (b := false) (Ans.to (v_andT (v_tb (v_op (v_var (by rfl)) v_c (fun _ q => ⟨_, _, rfl, rfl, q⟩))) (v_tb (v_op (v_op (v_var (by rfl)) (v_var (by rfl)) (fun _ q => ⟨_, _, rfl, rfl, q⟩)) (v_var (by rfl)) (fun _ q => ⟨_, _, rfl, rfl, q⟩)))) hb) ?_
              refine if_f rfl ?_
              refine q_next ?_
              obtain rfl := Option.some.inj ej2
              exact ⟨B6, rfl, (Ex.refl B6), st7, nb6, hp5⟩
          ·
            rintro _ H8 ⟨B7, rfl, ex6, st8, nb7, hp6⟩
            replace hp6 : H8 p1 = some (.lst (c_table1.map V.int)) := hp6
            refine q_drop ?_
            refine q_bm ?_
            refine go (v := (V.ref p1)) (v_var (by rfl)) ?_
            refine ⟨tyL (Or.inl (Or.inl hp6)), ?_⟩
            refine q_cons ?_
            refine go (v := (V.int r_3)) (v_var (by rfl)) ?_
            refine q_nil ?_
            obtain ⟨q8, ef1⟩ := ask_some ef1
            refine ap_goF (f := V.int) st8 (Or.inl z1) nb7 hp6 q8 fun H9 st9 hp7 kp1 => ?_
            obtain rfl := Option.some.inj ef1
            exact hN1 _ _ ⟨B7, _, _, rfl, (((ex1.trans ex2).trans ex5).trans ex6), st9, nb7, hp7⟩
    ·
      rintro _ H10 ⟨B8, y3, y4, rfl, ex7, st10, nb8, hp8⟩
      replace hp8 : H10 p1 = some (.lst (r_2.1.map V.int)) := hp8
      refine q_ret ?_
      refine go (v := (V.ref p1)) (v_var (by rfl)) ?_
      obtain ⟨B9, st11, ex8, hB2, out1⟩ := give st10 hp8 z1
      obtain rfl := Option.some.inj e
      exact q _ _ _ st11 (⟨p1, _, rfl, hB2, all2I _⟩)
end K79
/-! walk -/
namespace K79
open PySem PySem.Spec PyProof.Rows L2 Wk RZ ClX
def sp_is_covering (K : PySem.W.Frag) : Sp := fun vs H Q _ => ∃ (B : Hp) (v_table : V) (x_table : (List Int)) (x_count : Int) (r : Bool), Ex B H ∧ vs = [v_table, (V.int x_count)] ∧ (rL rI) B v_table x_table ∧ m_is_covering x_table x_count = some r ∧ ∀ v B' H', Stp [] B H B' H' → rB B' v r → Q v H'
theorem ok_is_covering {P : Program} {w : World} {K : PySem.W.Frag} {mg : Str → Option Value} {base : Heap} (E : Tx K mg) : Ok P w K mg base CX0 1 "is_covering" ["table", "count"] (sp_is_covering K) := by
  obtain ⟨fd, F⟩ := E.def_ 10 (d := d_is_covering) rfl
  replace F : FunD K "is_covering" "is_covering" (defArgs s_is_covering) (defBody s_is_covering) (defScope s_is_covering) [] [] (He.ga K "is_covering") fd := F
  have g_range : mg "range" = none := E.free 42
  have g_len : mg "len" = none := E.free 41
  refine ⟨fd, F.ok sc_is_covering (fun vs H Q E h => ?_) (fun cdv A outer s H0 vs Q X hr h => ?_), F.bindsN fun _ _ _ _ _ _ us hl => match us, hl with | [_, _], _ => rfl, F.kp, E.glo 10⟩
  · obtain ⟨_, _, _, _, _, _, rfl, _⟩ := h; rfl
  ·
    obtain ⟨B0, v_table, x_table, x_count, r, c0, rfl, h_table, e, q⟩ := h
    obtain ⟨a_table1, vs_table1, rfl, hB_table1, hA_table1⟩ := h_table
    obtain rfl := all2_I hA_table1
    have st0 : Stp [] B0 H0 B0 H0 := Stp.refl c0
    unfold m_is_covering at e
    refine ⟨_, PSs.nox ((pss_cons (ps_set (i := 2) sc_is_covering.nd rfl (by first | exact Or.inl rfl | exact Or.inr rfl) pe_int) (pss_cons (ps_for PassesOwn.never rfl (pi_range1 (by rfl) g_range (pa_cons (pe_callB call_len_seq (by rfl) g_len PySem.boot_len (pa_cons (pv 0) pa_nil)) pa_nil)) (pg_name (i := 3) sc_is_covering.nd rfl (by first | exact Or.inl rfl | exact Or.inr rfl)) (pss_cons (ps_if (pt_cmpR op_gt (pv 3) (pv 2) (nomark _)) (pss_one (ps_ret pe_bl)) pss_nil) (pss_one (ps_if (pt_cmpR op_ge (pe_ix ix_list (pv 0) (pv 3) (fun _ _ => rfl)) (pv 1) (nomark _)) (pss_one (ps_set (i := 2) sc_is_covering.nd rfl (by first | exact Or.inl rfl | exact Or.inr rfl) (pe_op op_add (pv 3) (pv 1)))) pss_nil)))) (pss_one (ps_ret (pe_cmpR op_eq (pv 2) (pe_callB call_len_seq (by rfl) g_len PySem.boot_len (pa_cons (pv 0) pa_nil)) (nomark _))))))), ?_⟩
    refine q_st (σ' := [some (V.ref a_table1), some (V.int x_count), none, none]) rfl ?_
    refine q_seq ?_
    refine q_set ?_
    refine go (v := (V.int (0 : Int))) v_c ?_
    refine q_nx (σ' := [some (V.ref a_table1), some (V.int x_count), some (V.int (0 : Int)), none]) rfl ?_
    refine q_seq ?_
    refine q_for ?_
    refine q_rng1 ?_
    refine q_cons ?_
    refine go (v := (V.int (x_table.length : Int))) (v_cb1 (v_var (by rfl)) (v_lenL (Or.inl (Or.inl (Or.inl (st0.c _ _ hB_table1)))) (by simp))) ?_
    refine q_nil ?_
    obtain ⟨q1, e⟩ := ask_some e
    refine ⟨_, rfl, q1.1, q1.2, ?_⟩
    obtain ⟨r_1, er1, e⟩ := bind_some e
    refine for_R (Inv := fun (s : Int) σ H => ∃ (B : Hp) (y_place : Option V), σ = [some (V.ref a_table1), some (V.int x_count), some (V.int s), y_place] ∧ Ex B0 B ∧ Stp [] B0 H0 B H) er1 ?_ ?_ ?_ ?_ ?_
    · exact ⟨B0, _, rfl, (Ex.refl B0), st0⟩
    · exact rng0_st
    · exact rng0_go
    ·
      rintro i1 x1 c_reach1 t1 _ H1 hx1 ⟨B1, y1, rfl, ex1, st1⟩ ef1 v1 Hy1 hy1 N1 _ hN1
      have hB_table1 := ex1 _ _ hB_table1
      change is_covering_b0 x_table x_count x1 c_reach1 = some t1 at ef1
      unfold is_covering_b0 at ef1
      obtain ⟨rfl, rfl⟩ := rng0_yld hy1 hx1
      refine q_gname ?_
      refine q_st (σ' := [some (V.ref a_table1), some (V.int x_count), some (V.int c_reach1), some (V.int x1)]) rfl ?_
      refine q_seq ?_
      refine q_if ?_
      by_cases hb : (decide (x1 > c_reach1)) = true
      · have ef1 := if_inv_t hb ef1
        refine goT (b := true) (Ans.to (v_tb (v_op (v_var (by rfl)) (v_var (by rfl)) (fun _ q => ⟨_, _, rfl, rfl, q⟩))) hb) ?_
        refine if_t rfl ?_
        refine q_ret ?_
        refine go (v := (V.bl false)) v_c ?_
        obtain rfl := Option.some.inj ef1
        rw [hN1] at e
        replace e := fin_rt e
        obtain rfl := Option.some.inj e
        exact q _ _ _ st1 rfl
      · have hb := Bool.eq_false_iff.mpr hb
        have ef1 := if_inv_f hb ef1
        refine goT (b := false) (Ans.to (v_tb (v_op (v_var (by rfl)) (v_var (by rfl)) (fun _ q => ⟨_, _, rfl, rfl, q⟩))) hb) ?_
        refine if_f rfl ?_
        refine q_next ?_
        refine q_if ?_
        obtain ⟨x_1, e_x_1, ef1⟩ := bind_some ef1
        by_cases hb : (decide (x_1 ≥ x_count)) = true
        · have ef1 := if_inv_t hb ef1
          refine goT (b := true) (Ans.to (v_tb (v_op (v_op (v_var (by rfl)) (v_var (by rfl)) (v_ixL (Or.inl (Or.inl (st1.c _ _ hB_table1))) (atI_map e_x_1))) (v_var (by rfl)) (fun _ q => ⟨_, _, rfl, rfl, q⟩))) hb) ?_
          refine if_t rfl ?_
          refine q_set ?_
          refine go (v := (V.int (x1 + x_count))) (v_op (v_var (by rfl)) (v_var (by rfl)) (fun _ q => ⟨_, _, rfl, rfl, q⟩)) ?_
          refine q_nx (σ' := [some (V.ref a_table1), some (V.int x_count), some (V.int (x1 + x_count)), some (V.int x1)]) rfl ?_
          obtain rfl := Option.some.inj ef1
          exact hN1 _ _ ⟨B1, _, rfl, ex1, st1⟩
        · have hb := Bool.eq_false_iff.mpr hb
          have ef1 := if_inv_f hb ef1
          refine goT (b := false) (Ans.to (v_tb (v_op (v_op (v_var (by rfl)) (v_var (by rfl)) (v_ixL (Or.inl (Or.inl (st1.c _ _ hB_table1))) (atI_map e_x_1))) (v_var (by rfl)) (fun _ q => ⟨_, _, rfl, rfl, q⟩))) hb) ?_
          refine if_f rfl ?_
          refine q_next ?_
          obtain rfl := Option.some.inj ef1
          exact hN1 _ _ ⟨B1, _, rfl, ex1, st1⟩
    ·
      rintro s1 _ H2 hz1 ⟨B2, y2, rfl, ex2, st2⟩
      have hB_table1 := ex2 _ _ hB_table1
      rw [hz1] at e
      replace e := fin_nx e
      refine q_ret ?_
      refine go (v := (V.bl (decide (s1 = (x_table.length : Int))))) (v_op (v_var (by rfl)) (v_cb1 (v_var (by rfl)) (v_lenL (Or.inl (Or.inl (Or.inl (st2.c _ _ hB_table1)))) (by simp))) v_eqI) ?_
      obtain rfl := Option.some.inj e
      exact q _ _ _ st2 rfl
end K79
/-! walk -/
namespace K79
open PySem PySem.Spec PyProof.Rows L2 Wk RZ ClX
def sp_covers (K : PySem.W.Frag) : Sp := fun vs H Q _ => ∃ (B : Hp) (x_word : (List Nat)) (r : (List Int)), Ex B H ∧ vs = [(tS x_word)] ∧ m_covers x_word = some r ∧ ∀ v B' H', Stp [] B H B' H' → (rL rI) B' v r → Q v H'
theorem ok_covers {P : Program} {w : World} {K : PySem.W.Frag} {mg : Str → Option Value} {base : Heap} (E : Tx K mg) : Ok P w K mg base CX0 5 "covers" ["word"] (sp_covers K) := by
  obtain ⟨fd, F⟩ := E.def_ 11 (d := d_covers) rfl
  replace F : FunD K "covers" "covers" (defArgs s_covers) (defBody s_covers) (defScope s_covers) [] [] (He.ga K "covers") fd := F
  obtain ⟨fd_prefix_table, G_prefix_table, b_prefix_table, kp_prefix_table, m_prefix_table⟩ := ok_prefix_table (P := P) (w := w) (base := base) E
  obtain ⟨fd_is_covering, G_is_covering, b_is_covering, kp_is_covering, m_is_covering⟩ := ok_is_covering (P := P) (w := w) (base := base) E
  have g_range : mg "range" = none := E.free 42
  have g_len : mg "len" = none := E.free 41
  refine ⟨fd, F.ok sc_covers (fun vs H Q E h => ?_) (fun cdv A outer s H0 vs Q X hr h => ?_), F.bindsN fun _ _ _ _ _ _ us hl => match us, hl with | [_], _ => rfl, F.kp, E.glo 11⟩
  · obtain ⟨_, _, _, _, rfl, _⟩ := h; rfl
  ·
    obtain ⟨B0, x_word, r, c0, rfl, e, q⟩ := h
    have st0 : Stp [] B0 H0 B0 H0 := Stp.refl c0
    unfold m_covers at e
    refine ⟨_, PSs.nox ((pss_cons (ps_set (i := 1) sc_covers.nd rfl (by first | exact Or.inl rfl | exact Or.inr rfl) (pe_call G_prefix_table (hr.mono (by decide)) (by rfl) m_prefix_table kp_prefix_table b_prefix_table .nil pass0 (pa_cons (pv 0) pa_nil))) (pss_one (ps_ret (pe_lc (own := [("count", 2)]) (by rfl) sc_covers.nd (pi_range2 (by rfl) g_range (pa_cons pe_int (pa_cons (pe_op op_add (pe_callB call_len_str (by rfl) g_len PySem.boot_len (pa_cons (pv 0) pa_nil)) pe_int) pa_nil))) (blkOk_by (own := [("count", 2)]) (N := ["word", "table", "count"]) (sc := defScope s_covers) (by decide +kernel)) (fun _ _ _ _ _ => (pg_name (i := 2) sc_covers.nd rfl (by first | exact Or.inl rfl | exact Or.inr rfl))) (fun _ _ _ _ _ => pts_one (pt_val (pe_call G_is_covering (hr.mono (by decide)) (by rfl) m_is_covering kp_is_covering b_is_covering .nil pass0 (pa_cons (pv 1) (pa_cons (pv 2) pa_nil))))) (fun _ _ _ _ _ => (pv 2))))))), ?_⟩
    refine q_st (σ' := [some (tS x_word), none, none]) rfl ?_
    refine q_seq ?_
    refine q_set ?_
    refine q_call ?_
    refine q_cons ?_
    refine go (v := (tS x_word)) (v_var (by rfl)) ?_
    refine q_nil ?_
    obtain ⟨r_1, e_r_1, e⟩ := bind_some e
    refine ⟨B0, x_word, r_1, st0.c, rfl, e_r_1, ?_⟩
    intro v1 B1 H1 s1 h1
    have st1 := st0.t0 s1
    obtain ⟨a_r1, vs_r1, rfl, hB_r1, hA_r1⟩ := h1
    obtain rfl := all2_I hA_r1
    refine q_nx (σ' := [some (tS x_word), some (V.ref a_r1), none]) rfl ?_
    refine q_ret ?_
    refine q_lc ?_
    refine q_rng2 ?_
    refine q_cons ?_
    refine go (v := (V.int (1 : Int))) v_c ?_
    refine q_cons ?_
    obtain ⟨q1, e⟩ := ask_some e
    refine go (v := (V.int ((x_word.length : Int) + (1 : Int)))) (v_op (v_cb1 (v_var (by rfl)) (v_lenS q1)) v_c (fun _ q => ⟨_, _, rfl, rfl, q⟩)) ?_
    refine q_nil ?_
    obtain ⟨q2, e⟩ := ask_some e
    refine ⟨_, _, rfl, q2, ?_⟩
    obtain ⟨q3, e⟩ := ask_some e
    obtain ⟨ys1, ey1, e⟩ := bind_some e
    refine fun D1 nD1 => ?_
    have z1 := st1.g _ nD1
    have nb1 := B_none st1.c nD1
    refine lc_F (Inv := fun (l : (List Int)) H => ∃ (B : Hp), Ex B1 B ∧ Stp [] B0 H0 B H ∧ B D1 = none ∧ H D1 = some (.lst (l.map V.int))) ey1 q3 ?_ ?_ ?_ ?_ ?_
    · exact ⟨B1, Ex.refl _, st1.newO nD1, nb1, upd_same⟩
    · exact lcrng_st
    · exact lcrng_go
    ·
      rintro i1 x1 b1 l1 H2 hx1 ⟨B2, ex1, st2, nb2, hD2⟩ hl1 eb1 v2 _ hy1 N1 hN1
      have hB_r1 := ex1 _ _ hB_r1
      obtain ⟨rfl, rfl⟩ := rng_yld hy1 hx1
      refine q_gname ?_
      refine ⟨rfl, ?_⟩
      refine q_tB ?_
      refine q_call ?_
      refine q_cons ?_
      refine go (v := (V.ref a_r1)) (v_var (by rfl)) ?_
      refine q_cons ?_
      refine go (v := (V.int x1)) (v_var (by rfl)) ?_
      refine q_nil ?_
      obtain ⟨r_2, e_r_2, eb1⟩ := bind_some eb1
      refine ⟨B2, (V.ref a_r1), r_1, x1, r_2, st2.c, rfl, ⟨a_r1, _, rfl, hB_r1, all2I _⟩, e_r_2, ?_⟩
      intro v3 B3 H3 s2 h2
      obtain rfl := h2
      have s3 := s2.keepB st2.c (fun _ z => absurd z List.not_mem_nil)
      have hD2 := s3.h _ _ List.not_mem_nil hD2
      have st3 := st2.t0 s3
      by_cases hb : r_2 = true
      · have eb1 := if_inv_t hb eb1
        refine ⟨true, by rw [hb], ?_⟩
        obtain rfl := Option.some.inj eb1
        obtain ⟨y1, ef1, hN1⟩ := hN1.1 rfl
        refine if_t rfl ?_
        refine go (v := (V.int x1)) (v_var (by rfl)) ?_
        obtain rfl := Option.some.inj ef1
        refine ⟨_, hD2, (lt_lenF hx1 hl1 q3 (by simp)), hN1 _ ⟨B2, ex1, st3.mut (Or.inl z1) nb2, nb2, (upd_snoc)⟩⟩
      · have hb := Bool.eq_false_iff.mpr hb
        have eb1 := if_inv_f hb eb1
        refine ⟨false, by rw [hb], ?_⟩
        obtain rfl := Option.some.inj eb1
        refine if_f rfl ?_
        exact hN1.2 rfl _ ⟨B2, ex1, st3, nb2, hD2⟩
    ·
      rintro H4 ⟨B4, ex2, st4, nb3, hD3⟩
      have hB_r1 := ex2 _ _ hB_r1
      obtain ⟨B5, st5, ex3, hB1, out1⟩ := give st4 hD3 z1
      have hB_r1 := ex3 _ _ hB_r1
      obtain rfl := Option.some.inj e
      exact q _ _ _ st5 (⟨D1, _, rfl, hB1, all2I _⟩)
end K79
/-! walk -/
namespace K79
open PySem PySem.Spec PyProof.Rows L2 Wk RZ ClX
def sp_l_covers (K : PySem.W.Frag) : Sp := fun vs H Q _ => ∃ (B : Hp) (x_word : (List Nat)) (r : (List Int)), Ex B H ∧ vs = [(tS x_word)] ∧ m_l_covers x_word = some r ∧ ∀ v B' H', Stp [] B H B' H' → (rL rI) B' v r → Q v H'
theorem ok_l_covers {P : Program} {w : World} {K : PySem.W.Frag} {mg : Str → Option Value} {base : Heap} (E : Tx K mg) : Ok P w K mg base CX0 1 "_law_covers" ["word"] (sp_l_covers K) := by
  obtain ⟨fd, F⟩ := E.def_ 28 (d := d_l_covers) rfl
  replace F : FunD K "_law_covers" "_law_covers" (defArgs s_l_covers) (defBody s_l_covers) (defScope s_l_covers) [] [] (He.ga K "_law_covers") fd := F
  have g_len : mg "len" = none := E.free 41
  have g_range : mg "range" = none := E.free 42
  refine ⟨fd, F.ok sc_l_covers (fun vs H Q E h => ?_) (fun cdv A outer s H0 vs Q X hr h => ?_), F.bindsN fun _ _ _ _ _ _ us hl => match us, hl with | [_], _ => rfl, F.kp, E.glo 28⟩
  · obtain ⟨_, _, _, _, rfl, _⟩ := h; rfl
  ·
    obtain ⟨B0, x_word, r, c0, rfl, e, q⟩ := h
    have st0 : Stp [] B0 H0 B0 H0 := Stp.refl c0
    unfold m_l_covers at e
    refine ⟨_, PSs.nox ((pss_cons (ps_set (i := 1) sc_l_covers.nd rfl (by first | exact Or.inl rfl | exact Or.inr rfl) (pe_lst pa_nil)) (pss_cons (ps_set (i := 2) sc_l_covers.nd rfl (by first | exact Or.inl rfl | exact Or.inr rfl) (pe_callB call_len_str (by rfl) g_len PySem.boot_len (pa_cons (pv 0) pa_nil))) (pss_cons (ps_for PassesOwn.never rfl (pi_range2 (by rfl) g_range (pa_cons pe_int (pa_cons (pe_op op_add (pv 2) pe_int) pa_nil))) (pg_name (i := 3) sc_l_covers.nd rfl (by first | exact Or.inl rfl | exact Or.inr rfl)) (pss_cons (ps_set (i := 4) sc_l_covers.nd rfl (by first | exact Or.inl rfl | exact Or.inr rfl) pe_int) (pss_cons (ps_for PassesOwn.never rfl (pi_range1 (by rfl) g_range (pa_cons (pe_op op_add (pe_op op_sub (pv 2) (pv 3)) pe_int) pa_nil)) (pg_name (i := 5) sc_l_covers.nd rfl (by first | exact Or.inl rfl | exact Or.inr rfl)) (pss_one (ps_if (PW.pt (pw_and (pt_cmpR op_eq (pe_slice sl_str (pv 0) (po_some (pv 5)) (po_some (pe_op op_add (pv 5) (pv 3)))) (pe_slice sl_str (pv 0) po_none (po_some (pv 3))) (nomark _)) (pw_and1 (pt_cmpR op_le (pv 5) (pv 4) (nomark _))))) (pss_one (ps_set (i := 4) sc_l_covers.nd rfl (by first | exact Or.inl rfl | exact Or.inr rfl) (pe_op op_add (pv 5) (pv 3)))) pss_nil))) (pss_one (ps_if (pt_cmpR op_eq (pv 4) (pv 2) (nomark _)) (pss_one (ps_expr (pe_bm PySem.F.plainAttrs_list PySem.F.slot_list_append PySem.F.type_list_append mt_append (pv 1) (pa_cons (pv 3) pa_nil)))) pss_nil))))) (pss_one (ps_ret (pv 1))))))), ?_⟩
    refine q_st (σ' := [some (tS x_word), none, none, none, none, none]) rfl ?_
    refine q_seq ?_
    refine q_set ?_
    refine q_lst ?_
    refine q_nil ?_
    refine ⟨by show _ ≤ 16777216; simp, ?_⟩
    refine al_own st0.c fun p1 np1 H1 s1 hB1 nb1 => ?_
    have z1 := st0.g _ np1
    have st1 := st0.t0 s1
    replace hB1 : H1 p1 = some (.lst (([] : (List Int)).map V.int)) := hB1
    refine q_nx (σ' := [some (tS x_word), some (V.ref p1), none, none, none, none]) rfl ?_
    refine q_seq ?_
    refine q_set ?_
    obtain ⟨q1, e⟩ := ask_some e
    refine go (v := (V.int (x_word.length : Int))) (v_cb1 (v_var (by rfl)) (v_lenS q1)) ?_
    refine q_nx (σ' := [some (tS x_word), some (V.ref p1), some (V.int (x_word.length : Int)), none, none, none]) rfl ?_
    refine q_seq ?_
    refine q_for ?_
    refine q_rng2 ?_
    refine q_cons ?_
    refine go (v := (V.int (1 : Int))) v_c ?_
    refine q_cons ?_
    refine go (v := (V.int ((x_word.length : Int) + (1 : Int)))) (v_op (v_var (by rfl)) v_c (fun _ q => ⟨_, _, rfl, rfl, q⟩)) ?_
    refine q_nil ?_
    obtain ⟨q2, e⟩ := ask_some e
    refine ⟨_, _, rfl, q2, ?_⟩
    obtain ⟨r_1, er1, e⟩ := bind_some e
    refine for_N (Inv := fun (s : (List Int)) σ H => ∃ (B : Hp) (y_count : Option V) (y_reach : Option V) (y_k : Option V), σ = [some (tS x_word), some (V.ref p1), some (V.int (x_word.length : Int)), y_count, y_reach, y_k] ∧ Ex B0 B ∧ Stp [] B0 H0 B H ∧ B p1 = none ∧ H p1 = some (.lst (s.map V.int))) er1 ?_ ?_ ?_ ?_ ?_
    · exact ⟨B0, _, _, _, rfl, (Ex.refl B0), st1, nb1, hB1⟩
    · exact rng_st
    · exact rng_go
    ·
      rintro i1 x1 c_found1 t1 _ H2 hx1 ⟨B1, y1, y2, y3, rfl, ex1, st2, nb2, hp1⟩ ef1 v1 Hy1 hy1 N1 hN1
      replace hp1 : H2 p1 = some (.lst (c_found1.map V.int)) := hp1
      change l_covers_b0 x_word x1 c_found1 = some t1 at ef1
      unfold l_covers_b0 at ef1
      obtain ⟨rfl, rfl⟩ := rng_yld hy1 hx1
      refine q_gname ?_
      refine q_st (σ' := [some (tS x_word), some (V.ref p1), some (V.int (x_word.length : Int)), some (V.int x1), y2, y3]) rfl ?_
      refine q_seq ?_
      refine q_set ?_
      refine go (v := (V.int (0 : Int))) v_c ?_
      refine q_nx (σ' := [some (tS x_word), some (V.ref p1), some (V.int (x_word.length : Int)), some (V.int x1), some (V.int (0 : Int)), y3]) rfl ?_
      refine q_seq ?_
      refine q_for ?_
      refine q_rng1 ?_
      refine q_cons ?_
      refine go (v := (V.int (((x_word.length : Int) - x1) + (1 : Int)))) (v_op (v_op (v_var (by rfl)) (v_var (by rfl)) (fun _ q => ⟨_, _, rfl, rfl, q⟩)) v_c (fun _ q => ⟨_, _, rfl, rfl, q⟩)) ?_
      refine q_nil ?_
      obtain ⟨q3, ef1⟩ := ask_some ef1
      refine ⟨_, rfl, q3.1, q3.2, ?_⟩
      obtain ⟨r_2, er2, ef1⟩ := bind_some ef1
      refine for_N (Inv := fun (s : Int) σ H => ∃ (B : Hp) (y_k : Option V), σ = [some (tS x_word), some (V.ref p1), some (V.int (x_word.length : Int)), some (V.int x1), some (V.int s), y_k] ∧ Ex B1 B ∧ Stp [] B0 H0 B H ∧ B p1 = none ∧ H p1 = some (.lst (c_found1.map V.int))) er2 ?_ ?_ ?_ ?_ ?_
      · exact ⟨B1, _, rfl, (Ex.refl B1), st2, nb2, hp1⟩
      · exact rng0_st
      · exact rng0_go
      ·
        rintro i2 x2 c_reach1 t2 _ H3 hx2 ⟨B2, y4, rfl, ex2, st3, nb3, hp2⟩ ef2 v2 Hy2 hy2 N2 hN2
        replace hp2 : H3 p1 = some (.lst (c_found1.map V.int)) := hp2
        change l_covers_b1 x_word x1 x2 c_reach1 = some t2 at ef2
        unfold l_covers_b1 at ef2
        obtain ⟨rfl, rfl⟩ := rng0_yld hy2 hx2
        refine q_gname ?_
        refine q_st (σ' := [some (tS x_word), some (V.ref p1), some (V.int (x_word.length : Int)), some (V.int x1), some (V.int c_reach1), some (V.int x2)]) rfl ?_
        refine q_if ?_
        obtain ⟨q4, ef2⟩ := ask_some ef2
        obtain ⟨q5, ef2⟩ := ask_some ef2
        by_cases hb : ((decide ((cutT x_word (some x2) (some (x2 + x1))) = (cutT x_word none (some x1)))) && (decide (x2 ≤ c_reach1))) = true
        · have ef2 := if_inv_t hb ef2
          refine goT (b := true) (Ans.to (v_andT (v_tb (v_op (v_cutS (v_var (by rfl)) (v_po1 (v_var (by rfl))) (v_po1 (v_op (v_var (by rfl)) (v_var (by rfl)) (fun _ q => ⟨_, _, rfl, rfl, q⟩))) q4) (v_cutS (v_var (by rfl)) v_po0 (v_po1 (v_var (by rfl))) q5) v_eqS)) (v_tb (v_op (v_var (by rfl)) (v_var (by rfl)) (fun _ q => ⟨_, _, rfl, rfl, q⟩)))) hb) ?_
          refine if_t rfl ?_
          refine q_set ?_
          refine go (v := (V.int (x2 + x1))) (v_op (v_var (by rfl)) (v_var (by rfl)) (fun _ q => ⟨_, _, rfl, rfl, q⟩)) ?_
          refine q_nx (σ' := [some (tS x_word), some (V.ref p1), some (V.int (x_word.length : Int)), some (V.int x1), some (V.int (x2 + x1)), some (V.int x2)]) rfl ?_
          obtain rfl := Option.some.inj ef2
          exact hN2 _ _ ⟨B2, _, rfl, ex2, st3, nb3, hp2⟩
        · have hb := Bool.eq_false_iff.mpr hb
          have ef2 := if_inv_f hb ef2
          refine goT (b := false) (Ans.to (v_andT (v_tb (v_op (v_cutS (v_var (by rfl)) (v_po1 (v_var (by rfl))) (v_po1 (v_op (v_var (by rfl)) (v_var (by rfl)) (fun _ q => ⟨_, _, rfl, rfl, q⟩))) q4) (v_cutS (v_var (by rfl)) v_po0 (v_po1 (v_var (by rfl))) q5) v_eqS)) (v_tb (v_op (v_var (by rfl)) (v_var (by rfl)) (fun _ q => ⟨_, _, rfl, rfl, q⟩)))) hb) ?_
          refine if_f rfl ?_
          refine q_next ?_
          obtain rfl := Option.some.inj ef2
          exact hN2 _ _ ⟨B2, _, rfl, ex2, st3, nb3, hp2⟩
      ·
        rintro _ H4 ⟨B3, y5, rfl, ex3, st4, nb4, hp3⟩
        replace hp3 : H4 p1 = some (.lst (c_found1.map V.int)) := hp3
        refine q_if ?_
        by_cases hb : (decide (r_2 = (x_word.length : Int))) = true
        · have ef1 := if_inv_t hb ef1
          refine goT (b := true) (Ans.to (v_tb (v_op (v_var (by rfl)) (v_var (by rfl)) v_eqI)) hb) ?_
          refine if_t rfl ?_
          refine q_drop ?_
          refine q_bm ?_
          refine go (v := (V.ref p1)) (v_var (by rfl)) ?_
          refine ⟨tyL (Or.inl (Or.inl hp3)), ?_⟩
          refine q_cons ?_
          refine go (v := (V.int x1)) (v_var (by rfl)) ?_
          refine q_nil ?_
          obtain ⟨q6, ef1⟩ := ask_some ef1
          refine ap_goF (f := V.int) st4 (Or.inl z1) nb4 hp3 q6 fun H5 st5 hp4 kp1 => ?_
          obtain rfl := Option.some.inj ef1
          exact hN1 _ _ ⟨B3, _, _, _, rfl, (ex1.trans ex3), st5, nb4, hp4⟩
        · have hb := Bool.eq_false_iff.mpr hb
          have ef1 := if_inv_f hb ef1
          refine goT (b := false) (Ans.to (v_tb (v_op (v_var (by rfl)) (v_var (by rfl)) v_eqI)) hb) ?_
          refine if_f rfl ?_
          refine q_next ?_
          obtain rfl := Option.some.inj ef1
          exact hN1 _ _ ⟨B3, _, _, _, rfl, (ex1.trans ex3), st4, nb4, hp3⟩
    ·
      rintro _ H6 ⟨B4, y6, y7, y8, rfl, ex4, st6, nb5, hp5⟩
      replace hp5 : H6 p1 = some (.lst (r_1.map V.int)) := hp5
      refine q_ret ?_
      refine go (v := (V.ref p1)) (v_var (by rfl)) ?_
      obtain ⟨B5, st7, ex5, hB2, out1⟩ := give st6 hp5 z1
      obtain rfl := Option.some.inj e
      exact q _ _ _ st7 (⟨p1, _, rfl, hB2, all2I _⟩)
end K79
/-! walk -/
namespace K79
open PySem PySem.Spec PyProof.Rows L2 Wk RZ ClX
def sp_border_table (K : PySem.W.Frag) : Sp := fun vs H Q _ => ∃ (B : Hp) (x_word : (List Nat)) (r : (List Int)), Ex B H ∧ vs = [(tS x_word)] ∧ m_border_table x_word = some r ∧ ∀ v B' H', Stp [] B H B' H' → (rL rI) B' v r → Q v H'
theorem ok_border_table {P : Program} {w : World} {K : PySem.W.Frag} {mg : Str → Option Value} {base : Heap} (E : Tx K mg) : Ok P w K mg base CX0 4 "border_table" ["word"] (sp_border_table K) := by
  obtain ⟨fd, F⟩ := E.def_ 6 (d := d_border_table) rfl
  replace F : FunD K "border_table" "border_table" (defArgs s_border_table) (defBody s_border_table) (defScope s_border_table) [] [] (He.ga K "border_table") fd := F
  obtain ⟨fd_check_word, G_check_word, b_check_word, kp_check_word, m_check_word⟩ := ok_check_word (P := P) (w := w) (base := base) E
  have g_range : mg "range" = none := E.free 42
  have g_len : mg "len" = none := E.free 41
  refine ⟨fd, F.ok sc_border_table (fun vs H Q E h => ?_) (fun cdv A outer s H0 vs Q X hr h => ?_), F.bindsN fun _ _ _ _ _ _ us hl => match us, hl with | [_], _ => rfl, F.kp, E.glo 6⟩
  · obtain ⟨_, _, _, _, rfl, _⟩ := h; rfl
  ·
    obtain ⟨B0, x_word, r, c0, rfl, e, q⟩ := h
    have st0 : Stp [] B0 H0 B0 H0 := Stp.refl c0
    unfold m_border_table at e
    refine ⟨_, PSs.nox ((pss_cons (ps_expr (pe_call G_check_word (hr.mono (by decide)) (by rfl) m_check_word kp_check_word b_check_word .nil pass0 (pa_cons (pv 0) pa_nil))) (pss_cons (ps_set (i := 1) sc_border_table.nd rfl (by first | exact Or.inl rfl | exact Or.inr rfl) (pe_lst pa_nil)) (pss_cons (ps_set (i := 2) sc_border_table.nd rfl (by first | exact Or.inl rfl | exact Or.inr rfl) pe_int) (pss_cons (ps_for PassesOwn.never rfl (pi_range1 (by rfl) g_range (pa_cons (pe_callB call_len_str (by rfl) g_len PySem.boot_len (pa_cons (pv 0) pa_nil)) pa_nil)) (pg_name (i := 3) sc_border_table.nd rfl (by first | exact Or.inl rfl | exact Or.inr rfl)) (pss_cons (ps_while PassesOwn.never (PW.pt (pw_and (pt_cmpR op_gt (pv 2) pe_int (nomark _)) (pw_and1 (pt_cmpR op_ne (pe_ix ix_str (pv 0) (pv 2) (fun _ _ => rfl)) (pe_ix ix_str (pv 0) (pv 3) (fun _ _ => rfl)) (nomark _))))) (pss_one (ps_set (i := 2) sc_border_table.nd rfl (by first | exact Or.inl rfl | exact Or.inr rfl) (pe_ix ix_list (pv 1) (pe_op op_sub (pv 2) pe_int) (fun _ _ => rfl))))) (Evl.pss_cut (ps_if (PW.pt (pw_and (pt_cmpR op_lt (pv 2) (pv 3) (nomark _)) (pw_and1 (pt_cmpR op_eq (pe_ix ix_str (pv 0) (pv 2) (fun _ _ => rfl)) (pe_ix ix_str (pv 0) (pv 3) (fun _ _ => rfl)) (nomark _))))) (pss_one (ps_aug (i := 2) sc_border_table.nd rfl (by first | exact Or.inl rfl | exact Or.inr rfl) pe_int ip_add)) pss_nil) (pss_one (ps_expr (pe_bm PySem.F.plainAttrs_list PySem.F.slot_list_append PySem.F.type_list_append mt_append (pv 1) (pa_cons (pv 2) pa_nil))))))) (pss_one (ps_ret (pv 1)))))))), ?_⟩
    refine q_st (σ' := [some (tS x_word), none, none, none]) rfl ?_
    refine q_seq ?_
    refine q_drop ?_
    refine q_call ?_
    refine q_cons ?_
    refine go (v := (tS x_word)) (v_var (by rfl)) ?_
    refine q_nil ?_
    obtain ⟨r_1, e_r_1, e⟩ := bind_some e
    refine ⟨B0, x_word, r_1, st0.c, rfl, e_r_1, ?_⟩
    intro v1 B1 H1 s1 h1
    obtain rfl := h1
    have s2 := s1.keepB st0.c (fun _ z => absurd z List.not_mem_nil)
    have st1 := st0.t0 s2
    refine q_seq ?_
    refine q_set ?_
    refine q_lst ?_
    refine q_nil ?_
    refine ⟨by show _ ≤ 16777216; simp, ?_⟩
    refine al_own st1.c fun p1 np1 H2 s3 hB1 nb1 => ?_
    have z1 := st1.g _ np1
    have st2 := st1.t0 s3
    replace hB1 : H2 p1 = some (.lst (([] : (List Int)).map V.int)) := hB1
    refine q_nx (σ' := [some (tS x_word), some (V.ref p1), none, none]) rfl ?_
    refine q_seq ?_
    refine q_set ?_
    refine go (v := (V.int (0 : Int))) v_c ?_
    refine q_nx (σ' := [some (tS x_word), some (V.ref p1), some (V.int (0 : Int)), none]) rfl ?_
    refine q_seq ?_
    refine q_for ?_
    refine q_rng1 ?_
    refine q_cons ?_
    obtain ⟨q1, e⟩ := ask_some e
    refine go (v := (V.int (x_word.length : Int))) (v_cb1 (v_var (by rfl)) (v_lenS q1)) ?_
    refine q_nil ?_
    obtain ⟨q2, e⟩ := ask_some e
    refine ⟨_, rfl, q2.1, q2.2, ?_⟩
    obtain ⟨r_2, er1, e⟩ := bind_some e
    refine for_N (Inv := fun (s : ((List Int) × Int)) σ H => ∃ (B : Hp) (y_place : Option V), σ = [some (tS x_word), some (V.ref p1), some (V.int s.2), y_place] ∧ Ex B0 B ∧ Stp [] B0 H0 B H ∧ B p1 = none ∧ H p1 = some (.lst (s.1.map V.int))) er1 ?_ ?_ ?_ ?_ ?_
    · exact ⟨B0, _, rfl, (Ex.refl B0), st2, nb1, hB1⟩
    · exact rng0_st
    · exact rng0_go
    ·
      rintro i1 x1 ⟨c_table1, c_border1⟩ t1 _ H3 hx1 ⟨B2, y1, rfl, ex1, st3, nb2, hp1⟩ ef1 v2 Hy1 hy1 N1 hN1
      replace hp1 : H3 p1 = some (.lst (c_table1.map V.int)) := hp1
      change border_table_b0 x_word x1 c_table1 c_border1 = some t1 at ef1
      unfold border_table_b0 at ef1
      obtain ⟨rfl, rfl⟩ := rng0_yld hy1 hx1
      refine q_gname ?_
      refine q_st (σ' := [some (tS x_word), some (V.ref p1), some (V.int c_border1), some (V.int x1)]) rfl ?_
      refine q_seq ?_
      obtain ⟨r_3, er2, ef1⟩ := bind_some ef1
      refine while_N (Inv := fun (s : Int) σ H => ∃ (B : Hp), σ = [some (tS x_word), some (V.ref p1), some (V.int s), some (V.int x1)] ∧ Ex B2 B ∧ Stp [] B0 H0 B H ∧ B p1 = none ∧ H p1 = some (.lst (c_table1.map V.int))) er2 ?_ ?_ ?_ ?_
      · exact ⟨B2, rfl, (Ex.refl B2), st3, nb2, hp1⟩
      ·
        rintro c_border2 b1 _ H4 ⟨B3, rfl, ex2, st4, nb3, hp2⟩ ec1 Q1 q3
        replace hp2 : H4 p1 = some (.lst (c_table1.map V.int)) := hp2
        change border_table_c1 x_word x1 c_border2 = some b1 at ec1
        unfold border_table_c1 at ec1
        obtain ⟨c_3, e_c_3, ec1⟩ := bind_some ec1
        obtain rfl := Option.some.inj ec1
        exact (v_and (v_tb (v_op (v_var (by rfl)) v_c (fun _ q => ⟨_, _, rfl, rfl, q⟩))) e_c_3 (fun _ k1 => by obtain ⟨q4, k1⟩ := ask_some k1; obtain ⟨c_1, e_c_1, k1⟩ := bind_some k1; obtain ⟨q5, k1⟩ := ask_some k1; obtain ⟨c_2, e_c_2, k1⟩ := bind_some k1; obtain rfl := Option.some.inj k1; exact (v_tb (v_op (v_op (v_var (by rfl)) (v_var (by rfl)) (v_ixS q4 e_c_1)) (v_op (v_var (by rfl)) (v_var (by rfl)) (v_ixS q5 e_c_2)) v_neS)))) _ (q3 _ ⟨B3, rfl, ex2, st4, nb3, hp2⟩)
      ·
        rintro c_border2 t2 _ H5 ⟨B4, rfl, ex3, st5, nb4, hp3⟩ ec2 ef2 N2 hN2
        replace hp3 : H5 p1 = some (.lst (c_table1.map V.int)) := hp3
        change border_table_b1 c_table1 c_border2 = some t2 at ef2
        unfold border_table_b1 at ef2
        refine q_set ?_
        obtain ⟨x_1, e_x_1, ef2⟩ := bind_some ef2
        refine go (v := (V.int x_1)) (v_op (v_var (by rfl)) (v_op (v_var (by rfl)) v_c (fun _ q => ⟨_, _, rfl, rfl, q⟩)) (v_ixL (Or.inl (Or.inl hp3)) (atI_map e_x_1))) ?_
        refine q_nx (σ' := [some (tS x_word), some (V.ref p1), some (V.int x_1), some (V.int x1)]) rfl ?_
        obtain rfl := Option.some.inj ef2
        exact hN2 _ _ ⟨B4, rfl, ex3, st5, nb4, hp3⟩
      ·
        rintro _ H6 ⟨B5, rfl, ex4, st6, nb5, hp4⟩
        replace hp4 : H6 p1 = some (.lst (c_table1.map V.int)) := hp4
        obtain ⟨j_1, ej1, ef1⟩ := bind_some ef1
        refine q_cut (Mid := MidP fun σ H => ∃ (B : Hp), σ = [some (tS x_word), some (V.ref p1), some (V.int j_1), some (V.int x1)] ∧ Ex B5 B ∧ Stp [] B0 H0 B H ∧ B p1 = none ∧ H p1 = some (.lst (c_table1.map V.int))) ?_ ?_
        ·
          refine q_if ?_
          obtain ⟨c_6, e_c_6, ej1⟩ := bind_some ej1
          by_cases hb : c_6 = true
          · have ej1 := if_inv_t hb ej1
            refine goT (b := true) (Ans.to (v_and (v_tb (v_op (v_var (by rfl)) (v_var (by rfl)) (fun _ q => ⟨_, _, rfl, rfl, q⟩))) e_c_6 (fun _ k1 => by obtain ⟨q6, k1⟩ := ask_some k1; obtain ⟨c_4, e_c_4, k1⟩ := bind_some k1; obtain ⟨q7, k1⟩ := ask_some k1; obtain ⟨c_5, e_c_5, k1⟩ := bind_some k1; obtain rfl := Option.some.inj k1; exact (v_tb (v_op (v_op (v_var (by rfl)) (v_var (by rfl)) (v_ixS q6 e_c_4)) (v_op (v_var (by rfl)) (v_var (by rfl)) (v_ixS q7 e_c_5)) v_eqS)))) hb) ?_
            refine if_t rfl ?_
            refine q_aug (by rfl) ?_
            refine go (v := (V.int (1 : Int))) v_c ?_
            refine ⟨_, _, rfl, rfl, ?_⟩
            refine q_nx (σ' := [some (tS x_word), some (V.ref p1), some (V.int (r_3 + (1 : Int))), some (V.int x1)]) rfl ?_
            obtain rfl := Option.some.inj ej1
            exact ⟨B5, rfl, (Ex.refl B5), st6, nb5, hp4⟩
          · have hb := Bool.eq_false_iff.mpr hb
            have ej1 := if_inv_f hb ej1
            refine goT (b := false) (Ans.to (v_and (v_tb (v_op (v_var (by rfl)) (v_var (by rfl)) (fun _ q => ⟨_, _, rfl, rfl, q⟩))) e_c_6 (fun _ k1 => by obtain ⟨q6, k1⟩ := ask_some k1; obtain ⟨c_4, e_c_4, k1⟩ := bind_some k1; obtain ⟨q7, k1⟩ := ask_some k1; obtain ⟨c_5, e_c_5, k1⟩ := bind_some k1; obtain rfl := Option.some.inj k1; exact (v_tb (v_op (v_op (v_var (by rfl)) (v_var (by rfl)) (v_ixS q6 e_c_4)) (v_op (v_var (by rfl)) (v_var (by rfl)) (v_ixS q7 e_c_5)) v_eqS)))) hb) ?_
            refine if_f rfl ?_
            refine q_next ?_
            obtain rfl := Option.some.inj ej1
            exact ⟨B5, rfl, (Ex.refl B5), st6, nb5, hp4⟩
        ·
          rintro _ H7 ⟨B6, rfl, ex5, st7, nb6, hp5⟩
          replace hp5 : H7 p1 = some (.lst (c_table1.map V.int)) := hp5
          refine q_drop ?_
          refine q_bm ?_
          refine go (v := (V.ref p1)) (v_var (by rfl)) ?_
          refine ⟨tyL (Or.inl (Or.inl hp5)), ?_⟩
          refine q_cons ?_
          refine go (v := (V.int j_1)) (v_var (by rfl)) ?_
          refine q_nil ?_
          obtain ⟨q8, ef1⟩ := ask_some ef1
          refine ap_goF (f := V.int) st7 (Or.inl z1) nb6 hp5 q8 fun H8 st8 hp6 kp1 => ?_
          obtain rfl := Option.some.inj ef1
          exact hN1 _ _ ⟨B6, _, rfl, ((ex1.trans ex4).trans ex5), st8, nb6, hp6⟩
    ·
      rintro _ H9 ⟨B7, y2, rfl, ex6, st9, nb7, hp7⟩
      replace hp7 : H9 p1 = some (.lst (r_2.1.map V.int)) := hp7
      refine q_ret ?_
      refine go (v := (V.ref p1)) (v_var (by rfl)) ?_
      obtain ⟨B8, st10, ex7, hB2, out1⟩ := give st9 hp7 z1
      obtain rfl := Option.some.inj e
      exact q _ _ _ st10 (⟨p1, _, rfl, hB2, all2I _⟩)
end K79
/-! walk -/
namespace K79
open PySem PySem.Spec PyProof.Rows L2 Wk RZ ClX
def sp_l_borders (K : PySem.W.Frag) : Sp := fun vs H Q _ => ∃ (B : Hp) (x_word : (List Nat)) (r : (List Int)), Ex B H ∧ vs = [(tS x_word)] ∧ m_l_borders x_word = some r ∧ ∀ v B' H', Stp [] B H B' H' → (rL rI) B' v r → Q v H'
theorem ok_l_borders {P : Program} {w : World} {K : PySem.W.Frag} {mg : Str → Option Value} {base : Heap} (E : Tx K mg) : Ok P w K mg base CX0 1 "_law_borders" ["word"] (sp_l_borders K) := by
  obtain ⟨fd, F⟩ := E.def_ 25 (d := d_l_borders) rfl
  replace F : FunD K "_law_borders" "_law_borders" (defArgs s_l_borders) (defBody s_l_borders) (defScope s_l_borders) [] [] (He.ga K "_law_borders") fd := F
  have g_range : mg "range" = none := E.free 42
  have g_len : mg "len" = none := E.free 41
  refine ⟨fd, F.ok sc_l_borders (fun vs H Q E h => ?_) (fun cdv A outer s H0 vs Q X hr h => ?_), F.bindsN fun _ _ _ _ _ _ us hl => match us, hl with | [_], _ => rfl, F.kp, E.glo 25⟩
  · obtain ⟨_, _, _, _, rfl, _⟩ := h; rfl
  ·
    obtain ⟨B0, x_word, r, c0, rfl, e, q⟩ := h
    have st0 : Stp [] B0 H0 B0 H0 := Stp.refl c0
    unfold m_l_borders at e
    refine ⟨_, PSs.nox ((pss_cons (ps_set (i := 1) sc_l_borders.nd rfl (by first | exact Or.inl rfl | exact Or.inr rfl) (pe_lst pa_nil)) (pss_cons (ps_for PassesOwn.never rfl (pi_range2 (by rfl) g_range (pa_cons pe_int (pa_cons (pe_op op_add (pe_callB call_len_str (by rfl) g_len PySem.boot_len (pa_cons (pv 0) pa_nil)) pe_int) pa_nil))) (pg_name (i := 2) sc_l_borders.nd rfl (by first | exact Or.inl rfl | exact Or.inr rfl)) (pss_cons (ps_set (i := 3) sc_l_borders.nd rfl (by first | exact Or.inl rfl | exact Or.inr rfl) pe_int) (pss_cons (ps_for PassesOwn.never rfl (pi_range2 (by rfl) g_range (pa_cons pe_int (pa_cons (pv 2) pa_nil))) (pg_name (i := 4) sc_l_borders.nd rfl (by first | exact Or.inl rfl | exact Or.inr rfl)) (pss_one (ps_if (pt_cmpR op_eq (pe_slice sl_str (pv 0) po_none (po_some (pv 4))) (pe_slice sl_str (pv 0) (po_some (pe_op op_sub (pv 2) (pv 4))) (po_some (pv 2))) (nomark _)) (pss_one (ps_set (i := 3) sc_l_borders.nd rfl (by first | exact Or.inl rfl | exact Or.inr rfl) (pv 4))) pss_nil))) (pss_one (ps_expr (pe_bm PySem.F.plainAttrs_list PySem.F.slot_list_append PySem.F.type_list_append mt_append (pv 1) (pa_cons (pv 3) pa_nil))))))) (pss_one (ps_ret (pv 1)))))), ?_⟩
    refine q_st (σ' := [some (tS x_word), none, none, none, none]) rfl ?_
    refine q_seq ?_
    refine q_set ?_
    refine q_lst ?_
    refine q_nil ?_
    refine ⟨by show _ ≤ 16777216; simp, ?_⟩
    refine al_own st0.c fun p1 np1 H1 s1 hB1 nb1 => ?_
    have z1 := st0.g _ np1
    have st1 := st0.t0 s1
    replace hB1 : H1 p1 = some (.lst (([] : (List Int)).map V.int)) := hB1
    refine q_nx (σ' := [some (tS x_word), some (V.ref p1), none, none, none]) rfl ?_
    refine q_seq ?_
    refine q_for ?_
    refine q_rng2 ?_
    refine q_cons ?_
    refine go (v := (V.int (1 : Int))) v_c ?_
    refine q_cons ?_
    obtain ⟨q1, e⟩ := ask_some e
    refine go (v := (V.int ((x_word.length : Int) + (1 : Int)))) (v_op (v_cb1 (v_var (by rfl)) (v_lenS q1)) v_c (fun _ q => ⟨_, _, rfl, rfl, q⟩)) ?_
    refine q_nil ?_
    obtain ⟨q2, e⟩ := ask_some e
    refine ⟨_, _, rfl, q2, ?_⟩
    obtain ⟨r_1, er1, e⟩ := bind_some e
    refine for_N (Inv := fun (s : (List Int)) σ H => ∃ (B : Hp) (y_end : Option V) (y_best : Option V) (y_k : Option V), σ = [some (tS x_word), some (V.ref p1), y_end, y_best, y_k] ∧ Ex B0 B ∧ Stp [] B0 H0 B H ∧ B p1 = none ∧ H p1 = some (.lst (s.map V.int))) er1 ?_ ?_ ?_ ?_ ?_
    · exact ⟨B0, _, _, _, rfl, (Ex.refl B0), st1, nb1, hB1⟩
    · exact rng_st
    · exact rng_go
    ·
      rintro i1 x1 c_table1 t1 _ H2 hx1 ⟨B1, y1, y2, y3, rfl, ex1, st2, nb2, hp1⟩ ef1 v1 Hy1 hy1 N1 hN1
      replace hp1 : H2 p1 = some (.lst (c_table1.map V.int)) := hp1
      change l_borders_b0 x_word x1 c_table1 = some t1 at ef1
      unfold l_borders_b0 at ef1
      obtain ⟨rfl, rfl⟩ := rng_yld hy1 hx1
      refine q_gname ?_
      refine q_st (σ' := [some (tS x_word), some (V.ref p1), some (V.int x1), y2, y3]) rfl ?_
      refine q_seq ?_
      refine q_set ?_
      refine go (v := (V.int (0 : Int))) v_c ?_
      refine q_nx (σ' := [some (tS x_word), some (V.ref p1), some (V.int x1), some (V.int (0 : Int)), y3]) rfl ?_
      refine q_seq ?_
      refine q_for ?_
      refine q_rng2 ?_
      refine q_cons ?_
      refine go (v := (V.int (1 : Int))) v_c ?_
      refine q_cons ?_
      refine go (v := (V.int x1)) (v_var (by rfl)) ?_
      refine q_nil ?_
      obtain ⟨q3, ef1⟩ := ask_some ef1
      refine ⟨_, _, rfl, q3, ?_⟩
      obtain ⟨r_2, er2, ef1⟩ := bind_some ef1
      refine for_N (Inv := fun (s : Int) σ H => ∃ (B : Hp) (y_k : Option V), σ = [some (tS x_word), some (V.ref p1), some (V.int x1), some (V.int s), y_k] ∧ Ex B1 B ∧ Stp [] B0 H0 B H ∧ B p1 = none ∧ H p1 = some (.lst (c_table1.map V.int))) er2 ?_ ?_ ?_ ?_ ?_
      · exact ⟨B1, _, rfl, (Ex.refl B1), st2, nb2, hp1⟩
      · exact rng_st
      · exact rng_go
      ·
        rintro i2 x2 c_best1 t2 _ H3 hx2 ⟨B2, y4, rfl, ex2, st3, nb3, hp2⟩ ef2 v2 Hy2 hy2 N2 hN2
        replace hp2 : H3 p1 = some (.lst (c_table1.map V.int)) := hp2
        change l_borders_b1 x_word x1 x2 c_best1 = some t2 at ef2
        unfold l_borders_b1 at ef2
        obtain ⟨rfl, rfl⟩ := rng_yld hy2 hx2
        refine q_gname ?_
        refine q_st (σ' := [some (tS x_word), some (V.ref p1), some (V.int x1), some (V.int c_best1), some (V.int x2)]) rfl ?_
        refine q_if ?_
        obtain ⟨q4, ef2⟩ := ask_some ef2
        obtain ⟨q5, ef2⟩ := ask_some ef2
        by_cases hb : (decide ((cutT x_word none (some x2)) = (cutT x_word (some (x1 - x2)) (some x1)))) = true
        · have ef2 := if_inv_t hb ef2
          refine goT (b := true) (Ans.to (v_tb (v_op (v_cutS (v_var (by rfl)) v_po0 (v_po1 (v_var (by rfl))) q4) (v_cutS (v_var (by rfl)) (v_po1 (v_op (v_var (by rfl)) (v_var (by rfl)) (fun _ q => ⟨_, _, rfl, rfl, q⟩))) (v_po1 (v_var (by rfl))) q5) v_eqS)) hb) ?_
          refine if_t rfl ?_
          refine q_set ?_
          refine go (v := (V.int x2)) (v_var (by rfl)) ?_
          refine q_nx (σ' := [some (tS x_word), some (V.ref p1), some (V.int x1), some (V.int x2), some (V.int x2)]) rfl ?_
          obtain rfl := Option.some.inj ef2
          exact hN2 _ _ ⟨B2, _, rfl, ex2, st3, nb3, hp2⟩
        · have hb := Bool.eq_false_iff.mpr hb
          have ef2 := if_inv_f hb ef2
          refine goT (b := false) (Ans.to (v_tb (v_op (v_cutS (v_var (by rfl)) v_po0 (v_po1 (v_var (by rfl))) q4) (v_cutS (v_var (by rfl)) (v_po1 (v_op (v_var (by rfl)) (v_var (by rfl)) (fun _ q => ⟨_, _, rfl, rfl, q⟩))) (v_po1 (v_var (by rfl))) q5) v_eqS)) hb) ?_
          refine if_f rfl ?_
          refine q_next ?_
          obtain rfl := Option.some.inj ef2
          exact hN2 _ _ ⟨B2, _, rfl, ex2, st3, nb3, hp2⟩
      ·
        rintro _ H4 ⟨B3, y5, rfl, ex3, st4, nb4, hp3⟩
        replace hp3 : H4 p1 = some (.lst (c_table1.map V.int)) := hp3
        refine q_drop ?_
        refine q_bm ?_
        refine go (v := (V.ref p1)) (v_var (by rfl)) ?_
        refine ⟨tyL (Or.inl (Or.inl hp3)), ?_⟩
        refine q_cons ?_
        refine go (v := (V.int r_2)) (v_var (by rfl)) ?_
        refine q_nil ?_
        obtain ⟨q6, ef1⟩ := ask_some ef1
        refine ap_goF (f := V.int) st4 (Or.inl z1) nb4 hp3 q6 fun H5 st5 hp4 kp1 => ?_
        obtain rfl := Option.some.inj ef1
        exact hN1 _ _ ⟨B3, _, _, _, rfl, (ex1.trans ex3), st5, nb4, hp4⟩
    ·
      rintro _ H6 ⟨B4, y6, y7, y8, rfl, ex4, st6, nb5, hp5⟩
      replace hp5 : H6 p1 = some (.lst (r_1.map V.int)) := hp5
      refine q_ret ?_
      refine go (v := (V.ref p1)) (v_var (by rfl)) ?_
      obtain ⟨B5, st7, ex5, hB2, out1⟩ := give st6 hp5 z1
      obtain rfl := Option.some.inj e
      exact q _ _ _ st7 (⟨p1, _, rfl, hB2, all2I _⟩)
end K79
/-! walk -/
namespace K79
open PySem PySem.Spec PyProof.Rows L2 Wk RZ ClX
def sp_l_prefixes (K : PySem.W.Frag) : Sp := fun vs H Q _ => ∃ (B : Hp) (x_word : (List Nat)) (r : (List Int)), Ex B H ∧ vs = [(tS x_word)] ∧ m_l_prefixes x_word = some r ∧ ∀ v B' H', Stp [] B H B' H' → (rL rI) B' v r → Q v H'
theorem ok_l_prefixes {P : Program} {w : World} {K : PySem.W.Frag} {mg : Str → Option Value} {base : Heap} (E : Tx K mg) : Ok P w K mg base CX0 1 "_law_prefixes" ["word"] (sp_l_prefixes K) := by
  obtain ⟨fd, F⟩ := E.def_ 26 (d := d_l_prefixes) rfl
  replace F : FunD K "_law_prefixes" "_law_prefixes" (defArgs s_l_prefixes) (defBody s_l_prefixes) (defScope s_l_prefixes) [] [] (He.ga K "_law_prefixes") fd := F
  have g_range : mg "range" = none := E.free 42
  have g_len : mg "len" = none := E.free 41
  refine ⟨fd, F.ok sc_l_prefixes (fun vs H Q E h => ?_) (fun cdv A outer s H0 vs Q X hr h => ?_), F.bindsN fun _ _ _ _ _ _ us hl => match us, hl with | [_], _ => rfl, F.kp, E.glo 26⟩
  · obtain ⟨_, _, _, _, rfl, _⟩ := h; rfl
  ·
    obtain ⟨B0, x_word, r, c0, rfl, e, q⟩ := h
    have st0 : Stp [] B0 H0 B0 H0 := Stp.refl c0
    unfold m_l_prefixes at e
    refine ⟨_, PSs.nox ((pss_cons (ps_set (i := 1) sc_l_prefixes.nd rfl (by first | exact Or.inl rfl | exact Or.inr rfl) (pe_lst pa_nil)) (pss_cons (ps_for PassesOwn.never rfl (pi_range1 (by rfl) g_range (pa_cons (pe_callB call_len_str (by rfl) g_len PySem.boot_len (pa_cons (pv 0) pa_nil)) pa_nil)) (pg_name (i := 2) sc_l_prefixes.nd rfl (by first | exact Or.inl rfl | exact Or.inr rfl)) (pss_cons (ps_set (i := 3) sc_l_prefixes.nd rfl (by first | exact Or.inl rfl | exact Or.inr rfl) pe_int) (pss_cons (ps_for PassesOwn.never rfl (pi_range2 (by rfl) g_range (pa_cons pe_int (pa_cons (pe_op op_add (pe_op op_sub (pe_callB call_len_str (by rfl) g_len PySem.boot_len (pa_cons (pv 0) pa_nil)) (pv 2)) pe_int) pa_nil))) (pg_name (i := 4) sc_l_prefixes.nd rfl (by first | exact Or.inl rfl | exact Or.inr rfl)) (pss_one (ps_if (pt_cmpR op_eq (pe_slice sl_str (pv 0) (po_some (pv 2)) (po_some (pe_op op_add (pv 2) (pv 4)))) (pe_slice sl_str (pv 0) po_none (po_some (pv 4))) (nomark _)) (pss_one (ps_set (i := 3) sc_l_prefixes.nd rfl (by first | exact Or.inl rfl | exact Or.inr rfl) (pv 4))) pss_nil))) (pss_one (ps_expr (pe_bm PySem.F.plainAttrs_list PySem.F.slot_list_append PySem.F.type_list_append mt_append (pv 1) (pa_cons (pv 3) pa_nil))))))) (pss_one (ps_ret (pv 1)))))), ?_⟩
    refine q_st (σ' := [some (tS x_word), none, none, none, none]) rfl ?_
    refine q_seq ?_
    refine q_set ?_
    refine q_lst ?_
    refine q_nil ?_
    refine ⟨by show _ ≤ 16777216; simp, ?_⟩
    refine al_own st0.c fun p1 np1 H1 s1 hB1 nb1 => ?_
    have z1 := st0.g _ np1
    have st1 := st0.t0 s1
    replace hB1 : H1 p1 = some (.lst (([] : (List Int)).map V.int)) := hB1
    refine q_nx (σ' := [some (tS x_word), some (V.ref p1), none, none, none]) rfl ?_
    refine q_seq ?_
    refine q_for ?_
    refine q_rng1 ?_
    refine q_cons ?_
    obtain ⟨q1, e⟩ := ask_some e
    refine go (v := (V.int (x_word.length : Int))) (v_cb1 (v_var (by rfl)) (v_lenS q1)) ?_
    refine q_nil ?_
    obtain ⟨q2, e⟩ := ask_some e
    refine ⟨_, rfl, q2.1, q2.2, ?_⟩
    obtain ⟨r_1, er1, e⟩ := bind_some e
    refine for_N (Inv := fun (s : (List Int)) σ H => ∃ (B : Hp) (y_start : Option V) (y_best : Option V) (y_k : Option V), σ = [some (tS x_word), some (V.ref p1), y_start, y_best, y_k] ∧ Ex B0 B ∧ Stp [] B0 H0 B H ∧ B p1 = none ∧ H p1 = some (.lst (s.map V.int))) er1 ?_ ?_ ?_ ?_ ?_
    · exact ⟨B0, _, _, _, rfl, (Ex.refl B0), st1, nb1, hB1⟩
    · exact rng0_st
    · exact rng0_go
    ·
      rintro i1 x1 c_table1 t1 _ H2 hx1 ⟨B1, y1, y2, y3, rfl, ex1, st2, nb2, hp1⟩ ef1 v1 Hy1 hy1 N1 hN1
      replace hp1 : H2 p1 = some (.lst (c_table1.map V.int)) := hp1
      change l_prefixes_b0 x_word x1 c_table1 = some t1 at ef1
      unfold l_prefixes_b0 at ef1
      obtain ⟨rfl, rfl⟩ := rng0_yld hy1 hx1
      refine q_gname ?_
      refine q_st (σ' := [some (tS x_word), some (V.ref p1), some (V.int x1), y2, y3]) rfl ?_
      refine q_seq ?_
      refine q_set ?_
      refine go (v := (V.int (0 : Int))) v_c ?_
      refine q_nx (σ' := [some (tS x_word), some (V.ref p1), some (V.int x1), some (V.int (0 : Int)), y3]) rfl ?_
      refine q_seq ?_
      refine q_for ?_
      refine q_rng2 ?_
      refine q_cons ?_
      refine go (v := (V.int (1 : Int))) v_c ?_
      refine q_cons ?_
      obtain ⟨q3, ef1⟩ := ask_some ef1
      refine go (v := (V.int (((x_word.length : Int) - x1) + (1 : Int)))) (v_op (v_op (v_cb1 (v_var (by rfl)) (v_lenS q3)) (v_var (by rfl)) (fun _ q => ⟨_, _, rfl, rfl, q⟩)) v_c (fun _ q => ⟨_, _, rfl, rfl, q⟩)) ?_
      refine q_nil ?_
      obtain ⟨q4, ef1⟩ := ask_some ef1
      refine ⟨_, _, rfl, q4, ?_⟩
      obtain ⟨r_2, er2, ef1⟩ := bind_some ef1
      refine for_N (Inv := fun (s : Int) σ H => ∃ (B : Hp) (y_k : Option V), σ = [some (tS x_word), some (V.ref p1), some (V.int x1), some (V.int s), y_k] ∧ Ex B1 B ∧ Stp [] B0 H0 B H ∧ B p1 = none ∧ H p1 = some (.lst (c_table1.map V.int))) er2 ?_ ?_ ?_ ?_ ?_
      · exact ⟨B1, _, rfl, (Ex.refl B1), st2, nb2, hp1⟩
      · exact rng_st
      · exact rng_go
      ·
        rintro i2 x2 c_best1 t2 _ H3 hx2 ⟨B2, y4, rfl, ex2, st3, nb3, hp2⟩ ef2 v2 Hy2 hy2 N2 hN2
        replace hp2 : H3 p1 = some (.lst (c_table1.map V.int)) := hp2
        change l_prefixes_b1 x_word x1 x2 c_best1 = some t2 at ef2
        unfold l_prefixes_b1 at ef2
        obtain ⟨rfl, rfl⟩ := rng_yld hy2 hx2
        refine q_gname ?_
        refine q_st (σ' := [some (tS x_word), some (V.ref p1), some (V.int x1), some (V.int c_best1), some (V.int x2)]) rfl ?_
        refine q_if ?_
        obtain ⟨q5, ef2⟩ := ask_some ef2
        obtain ⟨q6, ef2⟩ := ask_some ef2
        by_cases hb : (decide ((cutT x_word (some x1) (some (x1 + x2))) = (cutT x_word none (some x2)))) = true
        · have ef2 := if_inv_t hb ef2
          refine goT (b := true) (Ans.to (v_tb (v_op (v_cutS (v_var (by rfl)) (v_po1 (v_var (by rfl))) (v_po1 (v_op (v_var (by rfl)) (v_var (by rfl)) (fun _ q => ⟨_, _, rfl, rfl, q⟩))) q5) (v_cutS (v_var (by rfl)) v_po0 (v_po1 (v_var (by rfl))) q6) v_eqS)) hb) ?_
          refine if_t rfl ?_
          refine q_set ?_
          refine go (v := (V.int x2)) (v_var (by rfl)) ?_
          refine q_nx (σ' := [some (tS x_word), some (V.ref p1), some (V.int x1), some (V.int x2), some (V.int x2)]) rfl ?_
          obtain rfl := Option.some.inj ef2
          exact hN2 _ _ ⟨B2, _, rfl, ex2, st3, nb3, hp2⟩
        · have hb := Bool.eq_false_iff.mpr hb
          have ef2 := if_inv_f hb ef2
          refine goT (b := false) (Ans.to (v_tb (v_op (v_cutS (v_var (by rfl)) (v_po1 (v_var (by rfl))) (v_po1 (v_op (v_var (by rfl)) (v_var (by rfl)) (fun _ q => ⟨_, _, rfl, rfl, q⟩))) q5) (v_cutS (v_var (by rfl)) v_po0 (v_po1 (v_var (by rfl))) q6) v_eqS)) hb) ?_
          refine if_f rfl ?_
          refine q_next ?_
          obtain rfl := Option.some.inj ef2
          exact hN2 _ _ ⟨B2, _, rfl, ex2, st3, nb3, hp2⟩
      ·
        rintro _ H4 ⟨B3, y5, rfl, ex3, st4, nb4, hp3⟩
        replace hp3 : H4 p1 = some (.lst (c_table1.map V.int)) := hp3
        refine q_drop ?_
        refine q_bm ?_
        refine go (v := (V.ref p1)) (v_var (by rfl)) ?_
        refine ⟨tyL (Or.inl (Or.inl hp3)), ?_⟩
        refine q_cons ?_
        refine go (v := (V.int r_2)) (v_var (by rfl)) ?_
        refine q_nil ?_
        obtain ⟨q7, ef1⟩ := ask_some ef1
        refine ap_goF (f := V.int) st4 (Or.inl z1) nb4 hp3 q7 fun H5 st5 hp4 kp1 => ?_
        obtain rfl := Option.some.inj ef1
        exact hN1 _ _ ⟨B3, _, _, _, rfl, (ex1.trans ex3), st5, nb4, hp4⟩
    ·
      rintro _ H6 ⟨B4, y6, y7, y8, rfl, ex4, st6, nb5, hp5⟩
      replace hp5 : H6 p1 = some (.lst (r_1.map V.int)) := hp5
      refine q_ret ?_
      refine go (v := (V.ref p1)) (v_var (by rfl)) ?_
      obtain ⟨B5, st7, ex5, hB2, out1⟩ := give st6 hp5 z1
      obtain rfl := Option.some.inj e
      exact q _ _ _ st7 (⟨p1, _, rfl, hB2, all2I _⟩)
end K79
/-! walk -/
namespace K79
open PySem PySem.Spec PyProof.Rows L2 Wk RZ ClX
def sp_mirror_table (K : PySem.W.Frag) : Sp := fun vs H Q _ => ∃ (B : Hp) (x_word : (List Nat)) (r : (List Int)), Ex B H ∧ vs = [(tS x_word)] ∧ m_mirror_table x_word = some r ∧ ∀ v B' H', Stp [] B H B' H' → (rL rI) B' v r → Q v H'
theorem ok_mirror_table {P : Program} {w : World} {K : PySem.W.Frag} {mg : Str → Option Value} {base : Heap} (E : Tx K mg) : Ok P w K mg base CX0 4 "mirror_table" ["word"] (sp_mirror_table K) := by
  obtain ⟨fd, F⟩ := E.def_ 8 (d := d_mirror_table) rfl
  replace F : FunD K "mirror_table" "mirror_table" (defArgs s_mirror_table) (defBody s_mirror_table) (defScope s_mirror_table) [] [] (He.ga K "mirror_table") fd := F
  obtain ⟨fd_check_word, G_check_word, b_check_word, kp_check_word, m_check_word⟩ := ok_check_word (P := P) (w := w) (base := base) E
  have g_range : mg "range" = none := E.free 42
  have g_len : mg "len" = none := E.free 41
  refine ⟨fd, F.ok sc_mirror_table (fun vs H Q E h => ?_) (fun cdv A outer s H0 vs Q X hr h => ?_), F.bindsN fun _ _ _ _ _ _ us hl => match us, hl with | [_], _ => rfl, F.kp, E.glo 8⟩
  · obtain ⟨_, _, _, _, rfl, _⟩ := h; rfl
  ·
    obtain ⟨B0, x_word, r, c0, rfl, e, q⟩ := h
    have st0 : Stp [] B0 H0 B0 H0 := Stp.refl c0
    unfold m_mirror_table at e
    refine ⟨_, PSs.nox ((pss_cons (ps_expr (pe_call G_check_word (hr.mono (by decide)) (by rfl) m_check_word kp_check_word b_check_word .nil pass0 (pa_cons (pv 0) pa_nil))) (pss_cons (ps_set (i := 1) sc_mirror_table.nd rfl (by first | exact Or.inl rfl | exact Or.inr rfl) (pe_lst pa_nil)) (pss_cons (ps_for PassesOwn.never rfl (pi_range1 (by rfl) g_range (pa_cons (pe_op op_sub (pe_op op_mulW pe_int (pe_callB call_len_str (by rfl) g_len PySem.boot_len (pa_cons (pv 0) pa_nil))) pe_int) pa_nil)) (pg_name (i := 2) sc_mirror_table.nd rfl (by first | exact Or.inl rfl | exact Or.inr rfl)) (pss_cons (ps_set (i := 3) sc_mirror_table.nd rfl (by first | exact Or.inl rfl | exact Or.inr rfl) (pe_op op_fdivW (pv 2) pe_int)) (pss_cons (ps_set (i := 4) sc_mirror_table.nd rfl (by first | exact Or.inl rfl | exact Or.inr rfl) (pe_op op_sub (pv 2) (pv 3))) (pss_cons (ps_while PassesOwn.never (PW.pt (pw_and (pt_cmpR op_ge (pv 3) pe_int (nomark _)) (pw_and (pt_cmpR op_lt (pv 4) (pe_callB call_len_str (by rfl) g_len PySem.boot_len (pa_cons (pv 0) pa_nil)) (nomark _)) (pw_and1 (pt_cmpR op_eq (pe_ix ix_str (pv 0) (pv 3) (fun _ _ => rfl)) (pe_ix ix_str (pv 0) (pv 4) (fun _ _ => rfl)) (nomark _)))))) (pss_cons (ps_aug (i := 3) sc_mirror_table.nd rfl (by first | exact Or.inl rfl | exact Or.inr rfl) pe_int ip_sub) (pss_one (ps_aug (i := 4) sc_mirror_table.nd rfl (by first | exact Or.inl rfl | exact Or.inr rfl) pe_int ip_add)))) (pss_one (ps_expr (pe_bm PySem.F.plainAttrs_list PySem.F.slot_list_append PySem.F.type_list_append mt_append (pv 1) (pa_cons (pe_op op_sub (pe_op op_sub (pv 4) (pv 3)) pe_int) pa_nil)))))))) (pss_one (ps_ret (pv 1))))))), ?_⟩
    refine q_st (σ' := [some (tS x_word), none, none, none, none]) rfl ?_
    refine q_seq ?_
    refine q_drop ?_
    refine q_call ?_
    refine q_cons ?_
    refine go (v := (tS x_word)) (v_var (by rfl)) ?_
    refine q_nil ?_
    obtain ⟨r_1, e_r_1, e⟩ := bind_some e
    refine ⟨B0, x_word, r_1, st0.c, rfl, e_r_1, ?_⟩
    intro v1 B1 H1 s1 h1
    obtain rfl := h1
    have s2 := s1.keepB st0.c (fun _ z => absurd z List.not_mem_nil)
    have st1 := st0.t0 s2
    refine q_seq ?_
    refine q_set ?_
    refine q_lst ?_
    refine q_nil ?_
    refine ⟨by show _ ≤ 16777216; simp, ?_⟩
    refine al_own st1.c fun p1 np1 H2 s3 hB1 nb1 => ?_
    have z1 := st1.g _ np1
    have st2 := st1.t0 s3
    replace hB1 : H2 p1 = some (.lst (([] : (List Int)).map V.int)) := hB1
    refine q_nx (σ' := [some (tS x_word), some (V.ref p1), none, none, none]) rfl ?_
    refine q_seq ?_
    refine q_for ?_
    refine q_rng1 ?_
    refine q_cons ?_
    obtain ⟨q1, e⟩ := ask_some e
    obtain ⟨q2, e⟩ := ask_some e
    refine go (v := (V.int (((2 : Int) * (x_word.length : Int)) - (1 : Int)))) (v_op (v_op v_c (v_cb1 (v_var (by rfl)) (v_lenS q1)) (fun _ q => ⟨_, _, rfl, rfl, smul_ok q2, q⟩)) v_c (fun _ q => ⟨_, _, rfl, rfl, q⟩)) ?_
    refine q_nil ?_
    obtain ⟨q3, e⟩ := ask_some e
    refine ⟨_, rfl, q3.1, q3.2, ?_⟩
    obtain ⟨r_2, er1, e⟩ := bind_some e
    refine for_N (Inv := fun (s : (List Int)) σ H => ∃ (B : Hp) (y_center : Option V) (y_left : Option V) (y_right : Option V), σ = [some (tS x_word), some (V.ref p1), y_center, y_left, y_right] ∧ Ex B0 B ∧ Stp [] B0 H0 B H ∧ B p1 = none ∧ H p1 = some (.lst (s.map V.int))) er1 ?_ ?_ ?_ ?_ ?_
    · exact ⟨B0, _, _, _, rfl, (Ex.refl B0), st2, nb1, hB1⟩
    · exact rng0_st
    · exact rng0_go
    ·
      rintro i1 x1 c_table1 t1 _ H3 hx1 ⟨B2, y1, y2, y3, rfl, ex1, st3, nb2, hp1⟩ ef1 v2 Hy1 hy1 N1 hN1
      replace hp1 : H3 p1 = some (.lst (c_table1.map V.int)) := hp1
      change mirror_table_b0 x_word x1 c_table1 = some t1 at ef1
      unfold mirror_table_b0 at ef1
      obtain ⟨rfl, rfl⟩ := rng0_yld hy1 hx1
      refine q_gname ?_
      refine q_st (σ' := [some (tS x_word), some (V.ref p1), some (V.int x1), y2, y3]) rfl ?_
      refine q_seq ?_
      refine q_set ?_
      obtain ⟨q4, ef1⟩ := ask_some ef1
      refine go (v := (V.int (x1 / (2 : Int)))) (v_op (v_var (by rfl)) v_c (fun _ q => ⟨_, _, rfl, rfl, sdiv_ok q4, q⟩)) ?_
      refine q_nx (σ' := [some (tS x_word), some (V.ref p1), some (V.int x1), some (V.int (x1 / (2 : Int))), y3]) rfl ?_
      refine q_seq ?_
      refine q_set ?_
      refine go (v := (V.int (x1 - (x1 / (2 : Int))))) (v_op (v_var (by rfl)) (v_var (by rfl)) (fun _ q => ⟨_, _, rfl, rfl, q⟩)) ?_
      refine q_nx (σ' := [some (tS x_word), some (V.ref p1), some (V.int x1), some (V.int (x1 / (2 : Int))), some (V.int (x1 - (x1 / (2 : Int))))]) rfl ?_
      refine q_seq ?_
      obtain ⟨r_3, er2, ef1⟩ := bind_some ef1
      refine while_N (Inv := fun (s : (Int × Int)) σ H => ∃ (B : Hp), σ = [some (tS x_word), some (V.ref p1), some (V.int x1), some (V.int s.1), some (V.int s.2)] ∧ Ex B2 B ∧ Stp [] B0 H0 B H ∧ B p1 = none ∧ H p1 = some (.lst (c_table1.map V.int))) er2 ?_ ?_ ?_ ?_
      · exact ⟨B2, rfl, (Ex.refl B2), st3, nb2, hp1⟩
      ·
        rintro ⟨c_left1, c_right1⟩ b1 _ H4 ⟨B3, rfl, ex2, st4, nb3, hp2⟩ ec1 Q1 q5
        replace hp2 : H4 p1 = some (.lst (c_table1.map V.int)) := hp2
        change mirror_table_c1 x_word c_left1 c_right1 = some b1 at ec1
        unfold mirror_table_c1 at ec1
        obtain ⟨c_4, e_c_4, ec1⟩ := bind_some ec1
        obtain rfl := Option.some.inj ec1
        exact (v_and (v_tb (v_op (v_var (by rfl)) v_c (fun _ q => ⟨_, _, rfl, rfl, q⟩))) e_c_4 (fun _ k1 => by obtain ⟨q6, k1⟩ := ask_some k1; obtain ⟨c_3, e_c_3, k1⟩ := bind_some k1; obtain rfl := Option.some.inj k1; exact (v_and (v_tb (v_op (v_var (by rfl)) (v_cb1 (v_var (by rfl)) (v_lenS q6)) (fun _ q => ⟨_, _, rfl, rfl, q⟩))) e_c_3 (fun _ k1 => by obtain ⟨q7, k1⟩ := ask_some k1; obtain ⟨c_1, e_c_1, k1⟩ := bind_some k1; obtain ⟨q8, k1⟩ := ask_some k1; obtain ⟨c_2, e_c_2, k1⟩ := bind_some k1; obtain rfl := Option.some.inj k1; exact (v_tb (v_op (v_op (v_var (by rfl)) (v_var (by rfl)) (v_ixS q7 e_c_1)) (v_op (v_var (by rfl)) (v_var (by rfl)) (v_ixS q8 e_c_2)) v_eqS)))))) _ (q5 _ ⟨B3, rfl, ex2, st4, nb3, hp2⟩)
      ·
        rintro ⟨c_left1, c_right1⟩ t2 _ H5 ⟨B4, rfl, ex3, st5, nb4, hp3⟩ ec2 ef2 N2 hN2
        replace hp3 : H5 p1 = some (.lst (c_table1.map V.int)) := hp3
        change mirror_table_b1  c_left1 c_right1 = some t2 at ef2
        unfold mirror_table_b1 at ef2
        refine q_seq ?_
        refine q_aug (by rfl) ?_
        refine go (v := (V.int (1 : Int))) v_c ?_
        refine ⟨_, _, rfl, rfl, ?_⟩
        refine q_nx (σ' := [some (tS x_word), some (V.ref p1), some (V.int x1), some (V.int (c_left1 - (1 : Int))), some (V.int c_right1)]) rfl ?_
        refine q_aug (by rfl) ?_
        refine go (v := (V.int (1 : Int))) v_c ?_
        refine ⟨_, _, rfl, rfl, ?_⟩
        refine q_nx (σ' := [some (tS x_word), some (V.ref p1), some (V.int x1), some (V.int (c_left1 - (1 : Int))), some (V.int (c_right1 + (1 : Int)))]) rfl ?_
        obtain rfl := Option.some.inj ef2
        exact hN2 _ _ ⟨B4, rfl, ex3, st5, nb4, hp3⟩
      ·
        rintro _ H6 ⟨B5, rfl, ex4, st6, nb5, hp4⟩
        replace hp4 : H6 p1 = some (.lst (c_table1.map V.int)) := hp4
        refine q_drop ?_
        refine q_bm ?_
        refine go (v := (V.ref p1)) (v_var (by rfl)) ?_
        refine ⟨tyL (Or.inl (Or.inl hp4)), ?_⟩
        refine q_cons ?_
        refine go (v := (V.int ((r_3.2 - r_3.1) - (1 : Int)))) (v_op (v_op (v_var (by rfl)) (v_var (by rfl)) (fun _ q => ⟨_, _, rfl, rfl, q⟩)) v_c (fun _ q => ⟨_, _, rfl, rfl, q⟩)) ?_
        refine q_nil ?_
        obtain ⟨q9, ef1⟩ := ask_some ef1
        refine ap_goF (f := V.int) st6 (Or.inl z1) nb5 hp4 q9 fun H7 st7 hp5 kp1 => ?_
        obtain rfl := Option.some.inj ef1
        exact hN1 _ _ ⟨B5, _, _, _, rfl, (ex1.trans ex4), st7, nb5, hp5⟩
    ·
      rintro _ H8 ⟨B6, y4, y5, y6, rfl, ex5, st8, nb6, hp6⟩
      replace hp6 : H8 p1 = some (.lst (r_2.map V.int)) := hp6
      refine q_ret ?_
      refine go (v := (V.ref p1)) (v_var (by rfl)) ?_
      obtain ⟨B7, st9, ex6, hB2, out1⟩ := give st8 hp6 z1
      obtain rfl := Option.some.inj e
      exact q _ _ _ st9 (⟨p1, _, rfl, hB2, all2I _⟩)
end K79
/-! walk -/
namespace K79
open PySem PySem.Spec PyProof.Rows L2 Wk RZ ClX
def sp_l_mirrors (K : PySem.W.Frag) : Sp := fun vs H Q _ => ∃ (B : Hp) (x_word : (List Nat)) (r : (List Int)), Ex B H ∧ vs = [(tS x_word)] ∧ m_l_mirrors x_word = some r ∧ ∀ v B' H', Stp [] B H B' H' → (rL rI) B' v r → Q v H'
theorem ok_l_mirrors {P : Program} {w : World} {K : PySem.W.Frag} {mg : Str → Option Value} {base : Heap} (E : Tx K mg) : Ok P w K mg base CX0 1 "_law_mirrors" ["word"] (sp_l_mirrors K) := by
  obtain ⟨fd, F⟩ := E.def_ 27 (d := d_l_mirrors) rfl
  replace F : FunD K "_law_mirrors" "_law_mirrors" (defArgs s_l_mirrors) (defBody s_l_mirrors) (defScope s_l_mirrors) [] [] (He.ga K "_law_mirrors") fd := F
  have g_range : mg "range" = none := E.free 42
  have g_len : mg "len" = none := E.free 41
  have g_max : mg "max" = none := E.free 46
  refine ⟨fd, F.ok sc_l_mirrors (fun vs H Q E h => ?_) (fun cdv A outer s H0 vs Q X hr h => ?_), F.bindsN fun _ _ _ _ _ _ us hl => match us, hl with | [_], _ => rfl, F.kp, E.glo 27⟩
  · obtain ⟨_, _, _, _, rfl, _⟩ := h; rfl
  ·
    obtain ⟨B0, x_word, r, c0, rfl, e, q⟩ := h
    have st0 : Stp [] B0 H0 B0 H0 := Stp.refl c0
    unfold m_l_mirrors at e
    refine ⟨_, PSs.nox ((pss_cons (ps_set (i := 1) sc_l_mirrors.nd rfl (by first | exact Or.inl rfl | exact Or.inr rfl) (pe_lst pa_nil)) (pss_cons (ps_for PassesOwn.never rfl (pi_range1 (by rfl) g_range (pa_cons (pe_op op_sub (pe_op op_mulW pe_int (pe_callB call_len_str (by rfl) g_len PySem.boot_len (pa_cons (pv 0) pa_nil))) pe_int) pa_nil)) (pg_name (i := 2) sc_l_mirrors.nd rfl (by first | exact Or.inl rfl | exact Or.inr rfl)) (pss_cons (ps_set (i := 3) sc_l_mirrors.nd rfl (by first | exact Or.inl rfl | exact Or.inr rfl) pe_int) (pss_cons (ps_for PassesOwn.never rfl (pi_range2 (by rfl) g_range (pa_cons (pe_callB (call_max2 rfl) (by rfl) g_max (by decide +kernel) (pa_cons pe_int (pa_cons (pe_op op_sub (pe_op op_add (pv 2) pe_int) (pe_callB call_len_str (by rfl) g_len PySem.boot_len (pa_cons (pv 0) pa_nil))) pa_nil))) (pa_cons (pe_op op_add (pe_op op_fdivW (pv 2) pe_int) pe_int) pa_nil))) (pg_name (i := 4) sc_l_mirrors.nd rfl (by first | exact Or.inl rfl | exact Or.inr rfl)) (pss_cons (ps_set (i := 5) sc_l_mirrors.nd rfl (by first | exact Or.inl rfl | exact Or.inr rfl) (pe_slice sl_str (pv 0) (po_some (pv 4)) (po_some (pe_op op_add (pe_op op_sub (pv 2) (pv 4)) pe_int)))) (pss_one (ps_if (pt_cmpR op_eq (pv 5) (pe_revS (pv 5)) (nomark _)) (pss_one (ps_set (i := 3) sc_l_mirrors.nd rfl (by first | exact Or.inl rfl | exact Or.inr rfl) (pe_callB (call_max2 rfl) (by rfl) g_max (by decide +kernel) (pa_cons (pv 3) (pa_cons (pe_callB call_len_str (by rfl) g_len PySem.boot_len (pa_cons (pv 5) pa_nil)) pa_nil))))) pss_nil)))) (pss_one (ps_expr (pe_bm PySem.F.plainAttrs_list PySem.F.slot_list_append PySem.F.type_list_append mt_append (pv 1) (pa_cons (pv 3) pa_nil))))))) (pss_one (ps_ret (pv 1)))))), ?_⟩
    refine q_st (σ' := [some (tS x_word), none, none, none, none, none]) rfl ?_
    refine q_seq ?_
    refine q_set ?_
    refine q_lst ?_
    refine q_nil ?_
    refine ⟨by show _ ≤ 16777216; simp, ?_⟩
    refine al_own st0.c fun p1 np1 H1 s1 hB1 nb1 => ?_
    have z1 := st0.g _ np1
    have st1 := st0.t0 s1
    replace hB1 : H1 p1 = some (.lst (([] : (List Int)).map V.int)) := hB1
    refine q_nx (σ' := [some (tS x_word), some (V.ref p1), none, none, none, none]) rfl ?_
    refine q_seq ?_
    refine q_for ?_
    refine q_rng1 ?_
    refine q_cons ?_
    obtain ⟨q1, e⟩ := ask_some e
    obtain ⟨q2, e⟩ := ask_some e
    refine go (v := (V.int (((2 : Int) * (x_word.length : Int)) - (1 : Int)))) (v_op (v_op v_c (v_cb1 (v_var (by rfl)) (v_lenS q1)) (fun _ q => ⟨_, _, rfl, rfl, smul_ok q2, q⟩)) v_c (fun _ q => ⟨_, _, rfl, rfl, q⟩)) ?_
    refine q_nil ?_
    obtain ⟨q3, e⟩ := ask_some e
    refine ⟨_, rfl, q3.1, q3.2, ?_⟩
    obtain ⟨r_1, er1, e⟩ := bind_some e
    refine for_N (Inv := fun (s : (List Int)) σ H => ∃ (B : Hp) (y_c : Option V) (y_best : Option V) (y_k : Option V) (y_text : Option V), σ = [some (tS x_word), some (V.ref p1), y_c, y_best, y_k, y_text] ∧ Ex B0 B ∧ Stp [] B0 H0 B H ∧ B p1 = none ∧ H p1 = some (.lst (s.map V.int))) er1 ?_ ?_ ?_ ?_ ?_
    · exact ⟨B0, _, _, _, _, rfl, (Ex.refl B0), st1, nb1, hB1⟩
    · exact rng0_st
    · exact rng0_go
    ·
      rintro i1 x1 c_table1 t1 _ H2 hx1 ⟨B1, y1, y2, y3, y4, rfl, ex1, st2, nb2, hp1⟩ ef1 v1 Hy1 hy1 N1 hN1
      replace hp1 : H2 p1 = some (.lst (c_table1.map V.int)) := hp1
      change l_mirrors_b0 x_word x1 c_table1 = some t1 at ef1
      unfold l_mirrors_b0 at ef1
      obtain ⟨rfl, rfl⟩ := rng0_yld hy1 hx1
      refine q_gname ?_
      refine q_st (σ' := [some (tS x_word), some (V.ref p1), some (V.int x1), y2, y3, y4]) rfl ?_
      refine q_seq ?_
      refine q_set ?_
      refine go (v := (V.int (0 : Int))) v_c ?_
      refine q_nx (σ' := [some (tS x_word), some (V.ref p1), some (V.int x1), some (V.int (0 : Int)), y3, y4]) rfl ?_
      refine q_seq ?_
      refine q_for ?_
      refine q_rng2 ?_
      refine q_cons ?_
      obtain ⟨q4, ef1⟩ := ask_some ef1
      refine go (v := (V.int (maxI (0 : Int) ((x1 + (1 : Int)) - (x_word.length : Int))))) (v_cb2 v_c (v_op (v_op (v_var (by rfl)) v_c (fun _ q => ⟨_, _, rfl, rfl, q⟩)) (v_cb1 (v_var (by rfl)) (v_lenS q4)) (fun _ q => ⟨_, _, rfl, rfl, q⟩)) v_max2) ?_
      refine q_cons ?_
      obtain ⟨q5, ef1⟩ := ask_some ef1
      refine go (v := (V.int ((x1 / (2 : Int)) + (1 : Int)))) (v_op (v_op (v_var (by rfl)) v_c (fun _ q => ⟨_, _, rfl, rfl, sdiv_ok q5, q⟩)) v_c (fun _ q => ⟨_, _, rfl, rfl, q⟩)) ?_
      refine q_nil ?_
      obtain ⟨q6, ef1⟩ := ask_some ef1
      refine ⟨_, _, rfl, q6, ?_⟩
      obtain ⟨r_2, er2, ef1⟩ := bind_some ef1
      refine for_N (Inv := fun (s : Int) σ H => ∃ (B : Hp) (y_k : Option V) (y_text : Option V), σ = [some (tS x_word), some (V.ref p1), some (V.int x1), some (V.int s), y_k, y_text] ∧ Ex B1 B ∧ Stp [] B0 H0 B H ∧ B p1 = none ∧ H p1 = some (.lst (c_table1.map V.int))) er2 ?_ ?_ ?_ ?_ ?_
      · exact ⟨B1, _, _, rfl, (Ex.refl B1), st2, nb2, hp1⟩
      · exact rng_st
      · exact rng_go
      ·
        rintro i2 x2 c_best1 t2 _ H3 hx2 ⟨B2, y5, y6, rfl, ex2, st3, nb3, hp2⟩ ef2 v2 Hy2 hy2 N2 hN2
        replace hp2 : H3 p1 = some (.lst (c_table1.map V.int)) := hp2
        change l_mirrors_b1 x_word x1 x2 c_best1 = some t2 at ef2
        unfold l_mirrors_b1 at ef2
        obtain ⟨rfl, rfl⟩ := rng_yld hy2 hx2
        refine q_gname ?_
        refine q_st (σ' := [some (tS x_word), some (V.ref p1), some (V.int x1), some (V.int c_best1), some (V.int x2), y6]) rfl ?_
        refine q_seq ?_
        refine q_set ?_
        obtain ⟨q7, ef2⟩ := ask_some ef2
        refine go (v := (tS (cutT x_word (some x2) (some ((x1 - x2) + (1 : Int)))))) (v_cutS (v_var (by rfl)) (v_po1 (v_var (by rfl))) (v_po1 (v_op (v_op (v_var (by rfl)) (v_var (by rfl)) (fun _ q => ⟨_, _, rfl, rfl, q⟩)) v_c (fun _ q => ⟨_, _, rfl, rfl, q⟩))) q7) ?_
        refine q_nx (σ' := [some (tS x_word), some (V.ref p1), some (V.int x1), some (V.int c_best1), some (V.int x2), some (tS (cutT x_word (some x2) (some ((x1 - x2) + (1 : Int)))))]) rfl ?_
        refine q_if ?_
        obtain ⟨q8, ef2⟩ := ask_some ef2
        by_cases hb : (decide ((cutT x_word (some x2) (some ((x1 - x2) + (1 : Int)))) = (cutT x_word (some x2) (some ((x1 - x2) + (1 : Int)))).reverse)) = true
        · have ef2 := if_inv_t hb ef2
          refine goT (b := true) (Ans.to (v_tb (v_op (v_var (by rfl)) (v_revS (v_var (by rfl)) q8) v_eqS)) hb) ?_
          refine if_t rfl ?_
          refine q_set ?_
          obtain ⟨q9, ef2⟩ := ask_some ef2
          refine go (v := (V.int (maxI c_best1 ((cutT x_word (some x2) (some ((x1 - x2) + (1 : Int)))).length : Int)))) (v_cb2 (v_var (by rfl)) (v_cb1 (v_var (by rfl)) (v_lenS q9)) v_max2) ?_
          refine q_nx (σ' := [some (tS x_word), some (V.ref p1), some (V.int x1), some (V.int (maxI c_best1 ((cutT x_word (some x2) (some ((x1 - x2) + (1 : Int)))).length : Int))), some (V.int x2), some (tS (cutT x_word (some x2) (some ((x1 - x2) + (1 : Int)))))]) rfl ?_
          obtain rfl := Option.some.inj ef2
          exact hN2 _ _ ⟨B2, _, _, rfl, ex2, st3, nb3, hp2⟩
        · have hb := Bool.eq_false_iff.mpr hb
          have ef2 := if_inv_f hb ef2
          refine goT (b := false) (Ans.to (v_tb (v_op (v_var (by rfl)) (v_revS (v_var (by rfl)) q8) v_eqS)) hb) ?_
          refine if_f rfl ?_
          refine q_next ?_
          obtain rfl := Option.some.inj ef2
          exact hN2 _ _ ⟨B2, _, _, rfl, ex2, st3, nb3, hp2⟩
      ·
        rintro _ H4 ⟨B3, y7, y8, rfl, ex3, st4, nb4, hp3⟩
        replace hp3 : H4 p1 = some (.lst (c_table1.map V.int)) := hp3
        refine q_drop ?_
        refine q_bm ?_
        refine go (v := (V.ref p1)) (v_var (by rfl)) ?_
        refine ⟨tyL (Or.inl (Or.inl hp3)), ?_⟩
        refine q_cons ?_
        refine go (v := (V.int r_2)) (v_var (by rfl)) ?_
        refine q_nil ?_
        obtain ⟨q10, ef1⟩ := ask_some ef1
        refine ap_goF (f := V.int) st4 (Or.inl z1) nb4 hp3 q10 fun H5 st5 hp4 kp1 => ?_
        obtain rfl := Option.some.inj ef1
        exact hN1 _ _ ⟨B3, _, _, _, _, rfl, (ex1.trans ex3), st5, nb4, hp4⟩
    ·
      rintro _ H6 ⟨B4, y9, y10, y11, y12, rfl, ex4, st6, nb5, hp5⟩
      replace hp5 : H6 p1 = some (.lst (r_1.map V.int)) := hp5
      refine q_ret ?_
      refine go (v := (V.ref p1)) (v_var (by rfl)) ?_
      obtain ⟨B5, st7, ex5, hB2, out1⟩ := give st6 hp5 z1
      obtain rfl := Option.some.inj e
      exact q _ _ _ st7 (⟨p1, _, rfl, hB2, all2I _⟩)
end K79
/-! walk -/
namespace K79
open PySem PySem.Spec PyProof.Rows L2 Wk RZ ClX
def sp_l_known (K : PySem.W.Frag) : Sp := fun vs H Q _ => ∃ (B : Hp) (x_word : (List Nat)) (r : (Option ((List (Int × Int × Int)) × (List (Int × Int)) × (List (Int × Int × Int))))), Ex B H ∧ vs = [(tS x_word)] ∧ m_l_known x_word = some r ∧ ∀ v B' H', Stp [] B H B' H' → rKN (rT3 rI rI rI) (rL (rT2 rI rI)) (rL (rT3 rI rI rI)) H B' H' v r → Q v H'
theorem ok_l_known {P : Program} {w : World} {K : PySem.W.Frag} {mg : Str → Option Value} {base : Heap} (E : Tx K mg) : Ok P w K mg base CX0 6 "_law_known" ["word"] (sp_l_known K) := by
  obtain ⟨fd, F⟩ := E.def_ 38 (d := d_l_known) rfl
  replace F : FunD K "_law_known" "_law_known" (defArgs s_l_known) (defBody s_l_known) (defScope s_l_known) [] [] (He.ga K "_law_known") fd := F
  obtain ⟨fd_l_runs, G_l_runs, b_l_runs, kp_l_runs, m_l_runs⟩ := ok_l_runs (P := P) (w := w) (base := base) E
  obtain ⟨fd_runs, G_runs, b_runs, kp_runs, m_runs⟩ := ok_runs (P := P) (w := w) (base := base) E
  obtain ⟨fd_squares, G_squares, b_squares, kp_squares, m_squares⟩ := ok_squares (P := P) (w := w) (base := base) E
  obtain ⟨fd_l_rowsT, G_l_rowsT, b_l_rowsT, kp_l_rowsT, m_l_rowsT⟩ := ok_l_rowsT (P := P) (w := w) (base := base) E
  obtain ⟨fd_l_squares, G_l_squares, b_l_squares, kp_l_squares, m_l_squares⟩ := ok_l_squares (P := P) (w := w) (base := base) E
  obtain ⟨fd_l_rowsP, G_l_rowsP, b_l_rowsP, kp_l_rowsP, m_l_rowsP⟩ := ok_l_rowsP (P := P) (w := w) (base := base) E
  obtain ⟨fd_periods, G_periods, b_periods, kp_periods, m_periods⟩ := ok_periods (P := P) (w := w) (base := base) E
  obtain ⟨fd_l_periods, G_l_periods, b_l_periods, kp_l_periods, m_l_periods⟩ := ok_l_periods (P := P) (w := w) (base := base) E
  obtain ⟨fd_l_ints, G_l_ints, b_l_ints, kp_l_ints, m_l_ints⟩ := ok_l_ints (P := P) (w := w) (base := base) E
  obtain ⟨fd_covers, G_covers, b_covers, kp_covers, m_covers⟩ := ok_covers (P := P) (w := w) (base := base) E
  obtain ⟨fd_l_covers, G_l_covers, b_l_covers, kp_l_covers, m_l_covers⟩ := ok_l_covers (P := P) (w := w) (base := base) E
  obtain ⟨fd_border_table, G_border_table, b_border_table, kp_border_table, m_border_table⟩ := ok_border_table (P := P) (w := w) (base := base) E
  obtain ⟨fd_l_borders, G_l_borders, b_l_borders, kp_l_borders, m_l_borders⟩ := ok_l_borders (P := P) (w := w) (base := base) E
  obtain ⟨fd_prefix_table, G_prefix_table, b_prefix_table, kp_prefix_table, m_prefix_table⟩ := ok_prefix_table (P := P) (w := w) (base := base) E
  obtain ⟨fd_l_prefixes, G_l_prefixes, b_l_prefixes, kp_l_prefixes, m_l_prefixes⟩ := ok_l_prefixes (P := P) (w := w) (base := base) E
  obtain ⟨fd_mirror_table, G_mirror_table, b_mirror_table, kp_mirror_table, m_mirror_table⟩ := ok_mirror_table (P := P) (w := w) (base := base) E
  obtain ⟨fd_l_mirrors, G_l_mirrors, b_l_mirrors, kp_l_mirrors, m_l_mirrors⟩ := ok_l_mirrors (P := P) (w := w) (base := base) E
  refine ⟨fd, F.ok sc_l_known (fun vs H Q E h => ?_) (fun cdv A outer s H0 vs Q X hr h => ?_), F.bindsN fun _ _ _ _ _ _ us hl => match us, hl with | [_], _ => rfl, F.kp, E.glo 33⟩
  · obtain ⟨_, _, _, _, rfl, _⟩ := h; rfl
  ·
    obtain ⟨B0, x_word, r, c0, rfl, e, q⟩ := h
    have st0 : Stp [] B0 H0 B0 H0 := Stp.refl c0
    unfold m_l_known at e
    refine ⟨_, PSs.nox ((pss_cons (ps_set (i := 1) sc_l_known.nd rfl (by first | exact Or.inl rfl | exact Or.inr rfl) (pe_call G_l_runs (hr.mono (by decide)) (by rfl) m_l_runs kp_l_runs b_l_runs .nil pass0 (pa_cons (pv 0) pa_nil))) (pss_cons (ps_set (i := 2) sc_l_known.nd rfl (by first | exact Or.inl rfl | exact Or.inr rfl) (pe_call G_runs (hr.mono (by decide)) (by rfl) m_runs kp_runs b_runs .nil pass0 (pa_cons (pv 0) pa_nil))) (pss_cons (ps_set (i := 3) sc_l_known.nd rfl (by first | exact Or.inl rfl | exact Or.inr rfl) (pe_call G_squares (hr.mono (by decide)) (by rfl) m_squares kp_squares b_squares .nil pass0 (pa_cons (pv 0) pa_nil))) (pss_cons (ps_if (PW.pt (pw_or (pt_not (pt_val (pe_call G_l_rowsT (hr.mono (by decide)) (by rfl) m_l_rowsT kp_l_rowsT b_l_rowsT .nil pass0 (pa_cons (pv 2) (pa_cons (pv 1) pa_nil))))) (pw_or1 (pt_not (pt_val (pe_call G_l_rowsP (hr.mono (by decide)) (by rfl) m_l_rowsP kp_l_rowsP b_l_rowsP .nil pass0 (pa_cons (pv 3) (pa_cons (pe_call G_l_squares (hr.mono (by decide)) (by rfl) m_l_squares kp_l_squares b_l_squares .nil pass0 (pa_cons (pv 0) pa_nil)) pa_nil)))))))) (pss_one (ps_ret pe_non)) pss_nil) (pss_cons (ps_if (pt_not (pt_val (pe_call G_l_ints (hr.mono (by decide)) (by rfl) m_l_ints kp_l_ints b_l_ints .nil pass0 (pa_cons (pe_call G_periods (hr.mono (by decide)) (by rfl) m_periods kp_periods b_periods .nil pass0 (pa_cons (pv 0) pa_nil)) (pa_cons (pe_call G_l_periods (hr.mono (by decide)) (by rfl) m_l_periods kp_l_periods b_l_periods .nil pass0 (pa_cons (pv 0) pa_nil)) pa_nil))))) (pss_one (ps_ret pe_non)) pss_nil) (pss_cons (ps_if (pt_not (pt_val (pe_call G_l_ints (hr.mono (by decide)) (by rfl) m_l_ints kp_l_ints b_l_ints .nil pass0 (pa_cons (pe_call G_covers (hr.mono (by decide)) (by rfl) m_covers kp_covers b_covers .nil pass0 (pa_cons (pv 0) pa_nil)) (pa_cons (pe_call G_l_covers (hr.mono (by decide)) (by rfl) m_l_covers kp_l_covers b_l_covers .nil pass0 (pa_cons (pv 0) pa_nil)) pa_nil))))) (pss_one (ps_ret pe_non)) pss_nil) (pss_cons (ps_if (pt_not (pt_val (pe_call G_l_ints (hr.mono (by decide)) (by rfl) m_l_ints kp_l_ints b_l_ints .nil pass0 (pa_cons (pe_call G_border_table (hr.mono (by decide)) (by rfl) m_border_table kp_border_table b_border_table .nil pass0 (pa_cons (pv 0) pa_nil)) (pa_cons (pe_call G_l_borders (hr.mono (by decide)) (by rfl) m_l_borders kp_l_borders b_l_borders .nil pass0 (pa_cons (pv 0) pa_nil)) pa_nil))))) (pss_one (ps_ret pe_non)) pss_nil) (pss_cons (ps_if (pt_not (pt_val (pe_call G_l_ints (hr.mono (by decide)) (by rfl) m_l_ints kp_l_ints b_l_ints .nil pass0 (pa_cons (pe_call G_prefix_table (hr.mono (by decide)) (by rfl) m_prefix_table kp_prefix_table b_prefix_table .nil pass0 (pa_cons (pv 0) pa_nil)) (pa_cons (pe_call G_l_prefixes (hr.mono (by decide)) (by rfl) m_l_prefixes kp_l_prefixes b_l_prefixes .nil pass0 (pa_cons (pv 0) pa_nil)) pa_nil))))) (pss_one (ps_ret pe_non)) pss_nil) (pss_cons (ps_if (pt_not (pt_val (pe_call G_l_ints (hr.mono (by decide)) (by rfl) m_l_ints kp_l_ints b_l_ints .nil pass0 (pa_cons (pe_call G_mirror_table (hr.mono (by decide)) (by rfl) m_mirror_table kp_mirror_table b_mirror_table .nil pass0 (pa_cons (pv 0) pa_nil)) (pa_cons (pe_call G_l_mirrors (hr.mono (by decide)) (by rfl) m_l_mirrors kp_l_mirrors b_l_mirrors .nil pass0 (pa_cons (pv 0) pa_nil)) pa_nil))))) (pss_one (ps_ret pe_non)) pss_nil) (pss_one (ps_ret (pe_lst (pa_cons (pv 2) (pa_cons (pv 3) (pa_cons (pv 1) pa_nil)))))))))))))))), ?_⟩
    refine q_st (σ' := [some (tS x_word), none, none, none]) rfl ?_
    refine q_seq ?_
    refine q_set ?_
    refine q_call ?_
    refine q_cons ?_
    refine go (v := (tS x_word)) (v_var (by rfl)) ?_
    refine q_nil ?_
    obtain ⟨r_1, e_r_1, e⟩ := bind_some e
    refine ⟨B0, x_word, r_1, st0.c, rfl, e_r_1, ?_⟩
    intro v1 B1 H1 s1 h1
    have st1 := st0.t0 s1
    obtain ⟨a_r1, vs_r1, rfl, hB_r1, hA_r1⟩ := h1
    refine q_nx (σ' := [some (tS x_word), some (V.ref a_r1), none, none]) rfl ?_
    refine q_seq ?_
    refine q_set ?_
    refine q_call ?_
    refine q_cons ?_
    refine go (v := (tS x_word)) (v_var (by rfl)) ?_
    refine q_nil ?_
    obtain ⟨r_2, e_r_2, e⟩ := bind_some e
    refine ⟨B1, x_word, r_2, st1.c, rfl, e_r_2, ?_⟩
    intro v2 B2 H2 vs1 s2 hz1 nb1 hB1 hA1
    have z1 := st1.g _ hz1
    have hB_r1 := s2.b _ _ hB_r1
    have hA_r1 := hA_r1.imp fun _ _ h => mono s2.b h
    have st2 := st1.t0 s2
    refine q_nx (σ' := [some (tS x_word), some (V.ref a_r1), some (V.ref v2), none]) rfl ?_
    refine q_seq ?_
    refine q_set ?_
    refine q_call ?_
    refine q_cons ?_
    refine go (v := (tS x_word)) (v_var (by rfl)) ?_
    refine q_nil ?_
    obtain ⟨r_3, e_r_3, e⟩ := bind_some e
    refine ⟨B2, x_word, r_3, st2.c, rfl, e_r_3, ?_⟩
    intro v3 B3 H3 s3 h3
    have hB_r1 := s3.b _ _ hB_r1
    have hA_r1 := hA_r1.imp fun _ _ h => mono s3.b h
    have nb1 := s3.out nb1 hB1
    have hB1 := s3.h _ _ List.not_mem_nil hB1
    have hA1 := hA1.imp fun _ _ h => mono s3.b h
    have st3 := st2.t0 s3
    obtain ⟨a_r2, vs_r2, rfl, hB_r2, hA_r2⟩ := h3
    refine q_nx (σ' := [some (tS x_word), some (V.ref a_r1), some (V.ref v2), some (V.ref a_r2)]) rfl ?_
    refine q_seq ?_
    refine q_if ?_
    refine q_or ?_
    refine q_not ?_
    refine q_tB ?_
    refine q_call ?_
    refine q_cons ?_
    refine go (v := (V.ref v2)) (v_var (by rfl)) ?_
    refine q_cons ?_
    refine go (v := (V.ref a_r1)) (v_var (by rfl)) ?_
    refine q_nil ?_
    obtain ⟨r_4, e_r_4, e⟩ := bind_some e
    refine ⟨(upd B3 v2 (.lst vs1)), (V.ref v2), r_2, (V.ref a_r1), r_1, r_4, (ex_lent st3.c hB1), rfl, ⟨v2, _, rfl, upd_same, hA1.imp fun _ _ h => mono (ex_give st3.c hB1) h⟩, (mono (ex_give st3.c hB1) (show (rL (rT3 rI rI rI)) B3 (V.ref a_r1) r_1 from ⟨a_r1, _, rfl, hB_r1, hA_r1⟩)), e_r_4, ?_⟩
    intro v4 B4 H4 s4 h4
    obtain rfl := h4
    have s5 := s4.keepB st3.c (fun _ z => absurd z List.not_mem_nil)
    have hB1 := s5.h _ _ List.not_mem_nil hB1
    have st4 := st3.t0 s5
    by_cases hb : r_4 = true
    · have e := if_inv_t hb e
      refine ⟨true, by rw [hb], ?_⟩
      refine if_f rfl ?_
      refine q_not ?_
      refine q_tB ?_
      refine q_call ?_
      refine q_cons ?_
      refine go (v := (V.ref a_r2)) (v_var (by rfl)) ?_
      refine q_cons ?_
      refine q_call ?_
      refine q_cons ?_
      refine go (v := (tS x_word)) (v_var (by rfl)) ?_
      refine q_nil ?_
      obtain ⟨r_5, e_r_5, e⟩ := bind_some e
      refine ⟨B3, x_word, r_5, st4.c, rfl, e_r_5, ?_⟩
      intro v5 B5 H5 s6 h5
      have hB_r1 := s6.b _ _ hB_r1
      have hA_r1 := hA_r1.imp fun _ _ h => mono s6.b h
      have nb1 := s6.out nb1 hB1
      have hB1 := s6.h _ _ List.not_mem_nil hB1
      have hA1 := hA1.imp fun _ _ h => mono s6.b h
      have hB_r2 := s6.b _ _ hB_r2
      have hA_r2 := hA_r2.imp fun _ _ h => mono s6.b h
      have st5 := st4.t0 s6
      obtain ⟨a_r3, vs_r3, rfl, hB_r3, hA_r3⟩ := h5
      refine q_nil ?_
      obtain ⟨r_6, e_r_6, e⟩ := bind_some e
      refine ⟨B5, (V.ref a_r2), r_3, (V.ref a_r3), r_5, r_6, st5.c, rfl, ⟨a_r2, _, rfl, hB_r2, hA_r2⟩, ⟨a_r3, _, rfl, hB_r3, hA_r3⟩, e_r_6, ?_⟩
      intro v6 B6 H6 s7 h6
      obtain rfl := h6
      have s8 := s7.keepB st5.c (fun _ z => absurd z List.not_mem_nil)
      have hB1 := s8.h _ _ List.not_mem_nil hB1
      have st6 := st5.t0 s8
      by_cases hb : r_6 = true
      · have e := if_inv_t hb e
        refine ⟨true, by rw [hb], ?_⟩
        refine if_f rfl ?_
        refine q_next ?_
        refine q_seq ?_
        refine q_if ?_
        refine q_not ?_
        refine q_tB ?_
        refine q_call ?_
        refine q_cons ?_
        refine q_call ?_
        refine q_cons ?_
        refine go (v := (tS x_word)) (v_var (by rfl)) ?_
        refine q_nil ?_
        obtain ⟨r_7, e_r_7, e⟩ := bind_some e
        refine ⟨B5, x_word, r_7, st6.c, rfl, e_r_7, ?_⟩
        intro v7 B7 H7 s9 h7
        have hB_r1 := s9.b _ _ hB_r1
        have hA_r1 := hA_r1.imp fun _ _ h => mono s9.b h
        have nb1 := s9.out nb1 hB1
        have hB1 := s9.h _ _ List.not_mem_nil hB1
        have hA1 := hA1.imp fun _ _ h => mono s9.b h
        have hB_r2 := s9.b _ _ hB_r2
        have hA_r2 := hA_r2.imp fun _ _ h => mono s9.b h
        have st7 := st6.t0 s9
        obtain ⟨a_r4, vs_r4, rfl, hB_r4, hA_r4⟩ := h7
        obtain rfl := all2_I hA_r4
        refine q_cons ?_
        refine q_call ?_
        refine q_cons ?_
        refine go (v := (tS x_word)) (v_var (by rfl)) ?_
        refine q_nil ?_
        obtain ⟨r_8, e_r_8, e⟩ := bind_some e
        refine ⟨B7, x_word, r_8, st7.c, rfl, e_r_8, ?_⟩
        intro v8 B8 H8 s10 h8
        have hB_r1 := s10.b _ _ hB_r1
        have hA_r1 := hA_r1.imp fun _ _ h => mono s10.b h
        have nb1 := s10.out nb1 hB1
        have hB1 := s10.h _ _ List.not_mem_nil hB1
        have hA1 := hA1.imp fun _ _ h => mono s10.b h
        have hB_r2 := s10.b _ _ hB_r2
        have hA_r2 := hA_r2.imp fun _ _ h => mono s10.b h
        have hB_r4 := s10.b _ _ hB_r4
        have st8 := st7.t0 s10
        obtain ⟨a_r5, vs_r5, rfl, hB_r5, hA_r5⟩ := h8
        obtain rfl := all2_I hA_r5
        refine q_nil ?_
        obtain ⟨r_9, e_r_9, e⟩ := bind_some e
        refine ⟨B8, (V.ref a_r4), r_7, (V.ref a_r5), r_8, r_9, st8.c, rfl, ⟨a_r4, _, rfl, hB_r4, all2I _⟩, ⟨a_r5, _, rfl, hB_r5, all2I _⟩, e_r_9, ?_⟩
        intro v9 B9 H9 s11 h9
        obtain rfl := h9
        have s12 := s11.keepB st8.c (fun _ z => absurd z List.not_mem_nil)
        have hB1 := s12.h _ _ List.not_mem_nil hB1
        have st9 := st8.t0 s12
        by_cases hb : r_9 = true
        · have e := if_inv_t hb e
          refine ⟨true, by rw [hb], ?_⟩
          refine if_f rfl ?_
          refine q_next ?_
          refine q_seq ?_
          refine q_if ?_
          refine q_not ?_
          refine q_tB ?_
          refine q_call ?_
          refine q_cons ?_
          refine q_call ?_
          refine q_cons ?_
          refine go (v := (tS x_word)) (v_var (by rfl)) ?_
          refine q_nil ?_
          obtain ⟨r_10, e_r_10, e⟩ := bind_some e
          refine ⟨B8, x_word, r_10, st9.c, rfl, e_r_10, ?_⟩
          intro v10 B10 H10 s13 h10
          have hB_r1 := s13.b _ _ hB_r1
          have hA_r1 := hA_r1.imp fun _ _ h => mono s13.b h
          have nb1 := s13.out nb1 hB1
          have hB1 := s13.h _ _ List.not_mem_nil hB1
          have hA1 := hA1.imp fun _ _ h => mono s13.b h
          have hB_r2 := s13.b _ _ hB_r2
          have hA_r2 := hA_r2.imp fun _ _ h => mono s13.b h
          have st10 := st9.t0 s13
          obtain ⟨a_r6, vs_r6, rfl, hB_r6, hA_r6⟩ := h10
          obtain rfl := all2_I hA_r6
          refine q_cons ?_
          refine q_call ?_
          refine q_cons ?_
          refine go (v := (tS x_word)) (v_var (by rfl)) ?_
          refine q_nil ?_
          obtain ⟨r_11, e_r_11, e⟩ := bind_some e
          refine ⟨B10, x_word, r_11, st10.c, rfl, e_r_11, ?_⟩
          intro v11 B11 H11 s14 h11
          have hB_r1 := s14.b _ _ hB_r1
          have hA_r1 := hA_r1.imp fun _ _ h => mono s14.b h
          have nb1 := s14.out nb1 hB1
          have hB1 := s14.h _ _ List.not_mem_nil hB1
          have hA1 := hA1.imp fun _ _ h => mono s14.b h
          have hB_r2 := s14.b _ _ hB_r2
          have hA_r2 := hA_r2.imp fun _ _ h => mono s14.b h
          have hB_r6 := s14.b _ _ hB_r6
          have st11 := st10.t0 s14
          obtain ⟨a_r7, vs_r7, rfl, hB_r7, hA_r7⟩ := h11
          obtain rfl := all2_I hA_r7
          refine q_nil ?_
          obtain ⟨r_12, e_r_12, e⟩ := bind_some e
          refine ⟨B11, (V.ref a_r6), r_10, (V.ref a_r7), r_11, r_12, st11.c, rfl, ⟨a_r6, _, rfl, hB_r6, all2I _⟩, ⟨a_r7, _, rfl, hB_r7, all2I _⟩, e_r_12, ?_⟩
          intro v12 B12 H12 s15 h12
          obtain rfl := h12
          have s16 := s15.keepB st11.c (fun _ z => absurd z List.not_mem_nil)
          have hB1 := s16.h _ _ List.not_mem_nil hB1
          have st12 := st11.t0 s16
          by_cases hb : r_12 = true
          · have e := if_inv_t hb e
            refine ⟨true, by rw [hb], ?_⟩
            refine if_f rfl ?_
            refine q_next ?_
            refine q_seq ?_
            refine q_if ?_
            refine q_not ?_
            refine q_tB ?_
            refine q_call ?_
            refine q_cons ?_
            refine q_call ?_
            refine q_cons ?_
            refine go (v := (tS x_word)) (v_var (by rfl)) ?_
            refine q_nil ?_
            obtain ⟨r_13, e_r_13, e⟩ := bind_some e
            refine ⟨B11, x_word, r_13, st12.c, rfl, e_r_13, ?_⟩
            intro v13 B13 H13 s17 h13
            have hB_r1 := s17.b _ _ hB_r1
            have hA_r1 := hA_r1.imp fun _ _ h => mono s17.b h
            have nb1 := s17.out nb1 hB1
            have hB1 := s17.h _ _ List.not_mem_nil hB1
            have hA1 := hA1.imp fun _ _ h => mono s17.b h
            have hB_r2 := s17.b _ _ hB_r2
            have hA_r2 := hA_r2.imp fun _ _ h => mono s17.b h
            have st13 := st12.t0 s17
            obtain ⟨a_r8, vs_r8, rfl, hB_r8, hA_r8⟩ := h13
            obtain rfl := all2_I hA_r8
            refine q_cons ?_
            refine q_call ?_
            refine q_cons ?_
            refine go (v := (tS x_word)) (v_var (by rfl)) ?_
            refine q_nil ?_
            obtain ⟨r_14, e_r_14, e⟩ := bind_some e
            refine ⟨B13, x_word, r_14, st13.c, rfl, e_r_14, ?_⟩
            intro v14 B14 H14 s18 h14
            have hB_r1 := s18.b _ _ hB_r1
            have hA_r1 := hA_r1.imp fun _ _ h => mono s18.b h
            have nb1 := s18.out nb1 hB1
            have hB1 := s18.h _ _ List.not_mem_nil hB1
            have hA1 := hA1.imp fun _ _ h => mono s18.b h
            have hB_r2 := s18.b _ _ hB_r2
            have hA_r2 := hA_r2.imp fun _ _ h => mono s18.b h
            have hB_r8 := s18.b _ _ hB_r8
            have st14 := st13.t0 s18
            obtain ⟨a_r9, vs_r9, rfl, hB_r9, hA_r9⟩ := h14
            obtain rfl := all2_I hA_r9
            refine q_nil ?_
            obtain ⟨r_15, e_r_15, e⟩ := bind_some e
            refine ⟨B14, (V.ref a_r8), r_13, (V.ref a_r9), r_14, r_15, st14.c, rfl, ⟨a_r8, _, rfl, hB_r8, all2I _⟩, ⟨a_r9, _, rfl, hB_r9, all2I _⟩, e_r_15, ?_⟩
            intro v15 B15 H15 s19 h15
            obtain rfl := h15
            have s20 := s19.keepB st14.c (fun _ z => absurd z List.not_mem_nil)
            have hB1 := s20.h _ _ List.not_mem_nil hB1
            have st15 := st14.t0 s20
            by_cases hb : r_15 = true
            · have e := if_inv_t hb e
              refine ⟨true, by rw [hb], ?_⟩
              refine if_f rfl ?_
              refine q_next ?_
              refine q_seq ?_
              refine q_if ?_
              refine q_not ?_
              refine q_tB ?_
              refine q_call ?_
              refine q_cons ?_
              refine q_call ?_
              refine q_cons ?_
              refine go (v := (tS x_word)) (v_var (by rfl)) ?_
              refine q_nil ?_
              obtain ⟨r_16, e_r_16, e⟩ := bind_some e
              refine ⟨B14, x_word, r_16, st15.c, rfl, e_r_16, ?_⟩
              intro v16 B16 H16 s21 h16
              have hB_r1 := s21.b _ _ hB_r1
              have hA_r1 := hA_r1.imp fun _ _ h => mono s21.b h
              have nb1 := s21.out nb1 hB1
              have hB1 := s21.h _ _ List.not_mem_nil hB1
              have hA1 := hA1.imp fun _ _ h => mono s21.b h
              have hB_r2 := s21.b _ _ hB_r2
              have hA_r2 := hA_r2.imp fun _ _ h => mono s21.b h
              have st16 := st15.t0 s21
              obtain ⟨a_r10, vs_r10, rfl, hB_r10, hA_r10⟩ := h16
              obtain rfl := all2_I hA_r10
              refine q_cons ?_
              refine q_call ?_
              refine q_cons ?_
              refine go (v := (tS x_word)) (v_var (by rfl)) ?_
              refine q_nil ?_
              obtain ⟨r_17, e_r_17, e⟩ := bind_some e
              refine ⟨B16, x_word, r_17, st16.c, rfl, e_r_17, ?_⟩
              intro v17 B17 H17 s22 h17
              have hB_r1 := s22.b _ _ hB_r1
              have hA_r1 := hA_r1.imp fun _ _ h => mono s22.b h
              have nb1 := s22.out nb1 hB1
              have hB1 := s22.h _ _ List.not_mem_nil hB1
              have hA1 := hA1.imp fun _ _ h => mono s22.b h
              have hB_r2 := s22.b _ _ hB_r2
              have hA_r2 := hA_r2.imp fun _ _ h => mono s22.b h
              have hB_r10 := s22.b _ _ hB_r10
              have st17 := st16.t0 s22
              obtain ⟨a_r11, vs_r11, rfl, hB_r11, hA_r11⟩ := h17
              obtain rfl := all2_I hA_r11
              refine q_nil ?_
              obtain ⟨r_18, e_r_18, e⟩ := bind_some e
              refine ⟨B17, (V.ref a_r10), r_16, (V.ref a_r11), r_17, r_18, st17.c, rfl, ⟨a_r10, _, rfl, hB_r10, all2I _⟩, ⟨a_r11, _, rfl, hB_r11, all2I _⟩, e_r_18, ?_⟩
              intro v18 B18 H18 s23 h18
              obtain rfl := h18
              have s24 := s23.keepB st17.c (fun _ z => absurd z List.not_mem_nil)
              have hB1 := s24.h _ _ List.not_mem_nil hB1
              have st18 := st17.t0 s24
              by_cases hb : r_18 = true
              · have e := if_inv_t hb e
                refine ⟨true, by rw [hb], ?_⟩
                refine if_f rfl ?_
                refine q_next ?_
                refine q_seq ?_
                refine q_if ?_
                refine q_not ?_
                refine q_tB ?_
                refine q_call ?_
                refine q_cons ?_
                refine q_call ?_
                refine q_cons ?_
                refine go (v := (tS x_word)) (v_var (by rfl)) ?_
                refine q_nil ?_
                obtain ⟨r_19, e_r_19, e⟩ := bind_some e
                refine ⟨B17, x_word, r_19, st18.c, rfl, e_r_19, ?_⟩
                intro v19 B19 H19 s25 h19
                have hB_r1 := s25.b _ _ hB_r1
                have hA_r1 := hA_r1.imp fun _ _ h => mono s25.b h
                have nb1 := s25.out nb1 hB1
                have hB1 := s25.h _ _ List.not_mem_nil hB1
                have hA1 := hA1.imp fun _ _ h => mono s25.b h
                have hB_r2 := s25.b _ _ hB_r2
                have hA_r2 := hA_r2.imp fun _ _ h => mono s25.b h
                have st19 := st18.t0 s25
                obtain ⟨a_r12, vs_r12, rfl, hB_r12, hA_r12⟩ := h19
                obtain rfl := all2_I hA_r12
                refine q_cons ?_
                refine q_call ?_
                refine q_cons ?_
                refine go (v := (tS x_word)) (v_var (by rfl)) ?_
                refine q_nil ?_
                obtain ⟨r_20, e_r_20, e⟩ := bind_some e
                refine ⟨B19, x_word, r_20, st19.c, rfl, e_r_20, ?_⟩
                intro v20 B20 H20 s26 h20
                have hB_r1 := s26.b _ _ hB_r1
                have hA_r1 := hA_r1.imp fun _ _ h => mono s26.b h
                have nb1 := s26.out nb1 hB1
                have hB1 := s26.h _ _ List.not_mem_nil hB1
                have hA1 := hA1.imp fun _ _ h => mono s26.b h
                have hB_r2 := s26.b _ _ hB_r2
                have hA_r2 := hA_r2.imp fun _ _ h => mono s26.b h
                have hB_r12 := s26.b _ _ hB_r12
                have st20 := st19.t0 s26
                obtain ⟨a_r13, vs_r13, rfl, hB_r13, hA_r13⟩ := h20
                obtain rfl := all2_I hA_r13
                refine q_nil ?_
                obtain ⟨r_21, e_r_21, e⟩ := bind_some e
                refine ⟨B20, (V.ref a_r12), r_19, (V.ref a_r13), r_20, r_21, st20.c, rfl, ⟨a_r12, _, rfl, hB_r12, all2I _⟩, ⟨a_r13, _, rfl, hB_r13, all2I _⟩, e_r_21, ?_⟩
                intro v21 B21 H21 s27 h21
                obtain rfl := h21
                have s28 := s27.keepB st20.c (fun _ z => absurd z List.not_mem_nil)
                have hB1 := s28.h _ _ List.not_mem_nil hB1
                have st21 := st20.t0 s28
                by_cases hb : r_21 = true
                · have e := if_inv_t hb e
                  refine ⟨true, by rw [hb], ?_⟩
                  refine if_f rfl ?_
                  refine q_next ?_
                  refine q_ret ?_
                  refine q_lst ?_
                  refine q_cons ?_
                  refine go (v := (V.ref v2)) (v_var (by rfl)) ?_
                  refine q_cons ?_
                  refine go (v := (V.ref a_r2)) (v_var (by rfl)) ?_
                  refine q_cons ?_
                  refine go (v := (V.ref a_r1)) (v_var (by rfl)) ?_
                  refine q_nil ?_
                  refine ⟨by show _ ≤ 16777216; simp, ?_⟩
                  refine al_giv st21.c fun p1 np1 B22 H22 s29 hB2 => ?_
                  have hB_r1 := s29.b _ _ hB_r1
                  have hA_r1 := hA_r1.imp fun _ _ h => mono s29.b h
                  have nb1 := s29.out nb1 hB1
                  have hB1 := s29.h _ _ List.not_mem_nil hB1
                  have hA1 := hA1.imp fun _ _ h => mono s29.b h
                  have hB_r2 := s29.b _ _ hB_r2
                  have hA_r2 := hA_r2.imp fun _ _ h => mono s29.b h
                  have st22 := st21.t0 s29
                  obtain rfl := Option.some.inj e
                  exact q _ _ _ st22 (⟨p1, v2, _, _, _, rfl, hB2, z1, nb1, hB1, hA1, ⟨a_r2, _, rfl, hB_r2, hA_r2⟩, ⟨a_r1, _, rfl, hB_r1, hA_r1⟩⟩)
                · have hb := Bool.eq_false_iff.mpr hb
                  have e := if_inv_f hb e
                  refine ⟨false, by rw [hb], ?_⟩
                  refine if_t rfl ?_
                  refine q_ret ?_
                  refine go (v := V.non) v_c ?_
                  obtain rfl := Option.some.inj e
                  exact q _ _ _ st21 rfl
              · have hb := Bool.eq_false_iff.mpr hb
                have e := if_inv_f hb e
                refine ⟨false, by rw [hb], ?_⟩
                refine if_t rfl ?_
                refine q_ret ?_
                refine go (v := V.non) v_c ?_
                obtain rfl := Option.some.inj e
                exact q _ _ _ st18 rfl
            · have hb := Bool.eq_false_iff.mpr hb
              have e := if_inv_f hb e
              refine ⟨false, by rw [hb], ?_⟩
              refine if_t rfl ?_
              refine q_ret ?_
              refine go (v := V.non) v_c ?_
              obtain rfl := Option.some.inj e
              exact q _ _ _ st15 rfl
          · have hb := Bool.eq_false_iff.mpr hb
            have e := if_inv_f hb e
            refine ⟨false, by rw [hb], ?_⟩
            refine if_t rfl ?_
            refine q_ret ?_
            refine go (v := V.non) v_c ?_
            obtain rfl := Option.some.inj e
            exact q _ _ _ st12 rfl
        · have hb := Bool.eq_false_iff.mpr hb
          have e := if_inv_f hb e
          refine ⟨false, by rw [hb], ?_⟩
          refine if_t rfl ?_
          refine q_ret ?_
          refine go (v := V.non) v_c ?_
          obtain rfl := Option.some.inj e
          exact q _ _ _ st9 rfl
      · have hb := Bool.eq_false_iff.mpr hb
        have e := if_inv_f hb e
        refine ⟨false, by rw [hb], ?_⟩
        refine if_t rfl ?_
        refine q_ret ?_
        refine go (v := V.non) v_c ?_
        obtain rfl := Option.some.inj e
        exact q _ _ _ st6 rfl
    · have hb := Bool.eq_false_iff.mpr hb
      have e := if_inv_f hb e
      refine ⟨false, by rw [hb], ?_⟩
      refine if_t rfl ?_
      refine if_t rfl ?_
      refine q_ret ?_
      refine go (v := V.non) v_c ?_
      obtain rfl := Option.some.inj e
      exact q _ _ _ st4 rfl
end K79
/-! walk -/
namespace K79
open PySem PySem.Spec PyProof.Rows L2 Wk RZ ClX
def sp_l_put (K : PySem.W.Frag) : Sp := fun vs H Q _ => ∃ (B : Hp) (x_word : (List Nat)) (v_table : V) (x_table : (List ((List Nat) × (List Nat)))) (r : (List Nat)), Ex B H ∧ vs = [(tS x_word), v_table] ∧ (rD kS tS) B v_table x_table ∧ m_l_put x_word x_table = some r ∧ ∀ v B' H', Stp [] B H B' H' → rS B' v r → Q v H'
theorem ok_l_put {P : Program} {w : World} {K : PySem.W.Frag} {mg : Str → Option Value} {base : Heap} (E : Tx K mg) : Ok P w K mg base CX0 1 "_law_put" ["word", "table"] (sp_l_put K) := by
  obtain ⟨fd, F⟩ := E.def_ 41 (d := d_l_put) rfl
  replace F : FunD K "_law_put" "_law_put" (defArgs s_l_put) (defBody s_l_put) (defScope s_l_put) [] [] (He.ga K "_law_put") fd := F
  refine ⟨fd, F.ok sc_l_put (fun vs H Q E h => ?_) (fun cdv A outer s H0 vs Q X hr h => ?_), F.bindsN fun _ _ _ _ _ _ us hl => match us, hl with | [_, _], _ => rfl, F.kp, E.glo 36⟩
  · obtain ⟨_, _, _, _, _, _, rfl, _⟩ := h; rfl
  ·
    obtain ⟨B0, x_word, v_table, x_table, r, c0, rfl, h_table, e, q⟩ := h
    obtain ⟨a_table1, rfl, hB_table1⟩ := h_table
    have st0 : Stp [] B0 H0 B0 H0 := Stp.refl c0
    unfold m_l_put at e
    refine ⟨_, PSs.nox ((pss_one (ps_ret (pe_join pe_str (pe_lc (own := [("letter", 2)]) (by rfl) sc_l_put.nd (pi_str (pv 0)) (blkOk_by (own := [("letter", 2)]) (N := ["word", "table", "letter"]) (sc := defScope s_l_put) (by decide +kernel)) (fun _ _ _ _ _ => (pg_name (i := 2) sc_l_put.nd rfl (by first | exact Or.inl rfl | exact Or.inr rfl))) (fun _ _ _ _ _ => pts_nil) (fun _ _ _ _ _ => (pe_dget (hu_of hr) (pv 1) (pv 2) (fun _ _ => rfl)))))))), ?_⟩
    refine q_st (σ' := [some (tS x_word), some (V.ref a_table1), none]) rfl ?_
    refine q_ret ?_
    refine q_m1R ?_
    refine go (v := (tS ([] : List Nat))) v_c ?_
    refine ⟨⟨_, rfl⟩, ?_⟩
    refine q_lc ?_
    refine q_its ?_
    refine go (v := (tS x_word)) (v_var (by rfl)) ?_
    refine ⟨_, rfl, ?_⟩
    obtain ⟨q1, e⟩ := ask_some e
    obtain ⟨ys1, ey1, e⟩ := bind_some e
    refine fun D1 nD1 => ?_
    have z1 := st0.g _ nD1
    have nb1 := B_none st0.c nD1
    refine lc_M (Inv := fun (l : (List (List Nat))) H => ∃ (B : Hp), Ex B0 B ∧ Stp [] B0 H0 B H ∧ B D1 = none ∧ H D1 = some (.lst (l.map tS))) ey1 q1 ?_ ?_ ?_ ?_ ?_
    · exact ⟨B0, Ex.refl _, st0.newO nD1, nb1, upd_same⟩
    · exact lcstr_st
    · exact lcstr_go
    ·
      rintro i1 x1 y1 l1 H1 hx1 ⟨B1, ex1, st1, nb2, hD2⟩ hl1 ef1 v1 _ hy1 N1 hN1
      have hB_table1 := ex1 _ _ hB_table1
      obtain ⟨rfl, rfl⟩ := str_yld hy1 hx1
      refine q_gname ?_
      refine ⟨rfl, ?_⟩
      refine q_yes (if_t rfl ?_)
      obtain ⟨x_1, e_x_1, ef1⟩ := bind_some ef1
      refine go (v := (tS x_1)) (v_dget (k := [x1]) (f := tS) (fun _ _ => kS_inj) (v_var (by rfl)) (v_var (by rfl)) (st1.c _ _ hB_table1) e_x_1) ?_
      obtain rfl := Option.some.inj ef1
      refine ⟨_, hD2, (lt_len hx1 hl1 q1 (by simp)), hN1 _ ⟨B1, ex1, st1.mut (Or.inl z1) nb2, nb2, (upd_snoc)⟩⟩
    ·
      rintro H2 ⟨B2, ex2, st2, nb3, hD3⟩
      have hB_table1 := ex2 _ _ hB_table1
      obtain ⟨B3, st3, ex3, hB1, out1⟩ := give st2 hD3 z1
      have hB_table1 := ex3 _ _ hB_table1
      obtain ⟨q2, e⟩ := ask_some e
      refine rm_of (v_join (Or.inl (Or.inl (Or.inl (st3.c _ _ hB1)))) q2) ?_
      obtain rfl := Option.some.inj e
      exact q _ _ _ st3 rfl
end K79
/-! walk -/
namespace K79
open PySem PySem.Spec PyProof.Rows L2 Wk RZ ClX
def sp_check_many (K : PySem.W.Frag) : Sp := fun vs H Q _ => ∃ (B : Hp) (v_things : V) (x_things : (List Int)) (x_most : Int) (r : Unit), Ex B H ∧ vs = [v_things, (V.int x_most)] ∧ (rL rI) B v_things x_things ∧ m_check_many x_things x_most = some r ∧ ∀ v B' H', Stp [] B H B' H' → rN B' v r → Q v H'
theorem ok_check_many {P : Program} {w : World} {K : PySem.W.Frag} {mg : Str → Option Value} {base : Heap} (E : Tx K mg) : Ok P w K mg base CX0 1 "check_many" ["things", "most"] (sp_check_many K) := by
  obtain ⟨fd, F⟩ := E.def_ 3 (d := d_check_many) rfl
  replace F : FunD K "check_many" "check_many" (defArgs s_check_many) (defBody s_check_many) (defScope s_check_many) [] [] (He.ga K "check_many") fd := F
  have g_len : mg "len" = none := E.free 41
  refine ⟨fd, F.ok sc_check_many (fun vs H Q E h => ?_) (fun cdv A outer s H0 vs Q X hr h => ?_), F.bindsN fun _ _ _ _ _ _ us hl => match us, hl with | [_, _], _ => rfl, F.kp, E.glo 3⟩
  · obtain ⟨_, _, _, _, _, _, rfl, _⟩ := h; rfl
  ·
    obtain ⟨B0, v_things, x_things, x_most, r, c0, rfl, h_things, e, q⟩ := h
    obtain ⟨a_things1, vs_things1, rfl, hB_things1, hA_things1⟩ := h_things
    obtain rfl := all2_I hA_things1
    have st0 : Stp [] B0 H0 B0 H0 := Stp.refl c0
    unfold m_check_many at e
    refine ⟨_, PSs.nox ((pss_one (ps_if (pt_cmpR op_gt (pe_callB call_len_seq (by rfl) g_len PySem.boot_len (pa_cons (pv 0) pa_nil)) (pv 1) (nomark _)) (pss_one ps_never) pss_nil))), ?_⟩
    refine q_st (σ' := [some (V.ref a_things1), some (V.int x_most)]) rfl ?_
    refine q_if ?_
    by_cases hb : (decide ((x_things.length : Int) > x_most)) = true
    · have e := if_inv_t hb e
      refine goT (b := true) (Ans.to (v_tb (v_op (v_cb1 (v_var (by rfl)) (v_lenL (Or.inl (Or.inl (Or.inl (st0.c _ _ hB_things1)))) (by simp))) (v_var (by rfl)) (fun _ q => ⟨_, _, rfl, rfl, q⟩))) hb) ?_
      refine if_t rfl ?_
      cases e
    · have hb := Bool.eq_false_iff.mpr hb
      have e := if_inv_f hb e
      refine goT (b := false) (Ans.to (v_tb (v_op (v_cb1 (v_var (by rfl)) (v_lenL (Or.inl (Or.inl (Or.inl (st0.c _ _ hB_things1)))) (by simp))) (v_var (by rfl)) (fun _ q => ⟨_, _, rfl, rfl, q⟩))) hb) ?_
      refine if_f rfl ?_
      refine q_next ?_
      obtain rfl := Option.some.inj e
      exact q _ _ _ st0 rfl
end K79
/-! walk -/
namespace K79
open PySem PySem.Spec PyProof.Rows L2 Wk RZ ClX
def sp_renumbered (K : PySem.W.Frag) : Sp := fun vs H Q _ => ∃ (B : Hp) (v_labels : V) (x_labels : (List Int)) (r : (List Int)), Ex B H ∧ vs = [v_labels] ∧ (rL rI) B v_labels x_labels ∧ m_renumbered x_labels = some r ∧ ∀ v B' H', Stp [] B H B' H' → (rH rI) B' v r → Q v H'
theorem ok_renumbered {P : Program} {w : World} {K : PySem.W.Frag} {mg : Str → Option Value} {base : Heap} (E : Tx K mg) : Ok P w K mg base CX0 1 "renumbered" ["labels"] (sp_renumbered K) := by
  obtain ⟨fd, F⟩ := E.def_ 31 (d := d_renumbered) rfl
  replace F : FunD K "renumbered" "renumbered" (defArgs s_renumbered) (defBody s_renumbered) (defScope s_renumbered) [] [] (He.ga K "renumbered") fd := F
  have g_len : mg "len" = none := E.free 41
  have g_tuple : mg "tuple" = none := E.free 50
  refine ⟨fd, F.ok sc_renumbered (fun vs H Q E h => ?_) (fun cdv A outer s H0 vs Q X hr h => ?_), F.bindsN fun _ _ _ _ _ _ us hl => match us, hl with | [_], _ => rfl, F.kp, E.glo 31⟩
  · obtain ⟨_, _, _, _, _, rfl, _⟩ := h; rfl
  ·
    obtain ⟨B0, v_labels, x_labels, r, c0, rfl, h_labels, e, q⟩ := h
    obtain ⟨a_labels1, vs_labels1, rfl, hB_labels1, hA_labels1⟩ := h_labels
    obtain rfl := all2_I hA_labels1
    have st0 : Stp [] B0 H0 B0 H0 := Stp.refl c0
    unfold m_renumbered at e
    refine ⟨_, PSs.nox ((pss_cons (ps_set (i := 1) sc_renumbered.nd rfl (by first | exact Or.inl rfl | exact Or.inr rfl) pe_dnewK) (pss_cons (ps_for PassesOwn.never rfl (pi_list (pv 0)) (pg_name (i := 2) sc_renumbered.nd rfl (by first | exact Or.inl rfl | exact Or.inr rfl)) (pss_one (ps_if (pt_cmp (pc_dnotin (hu_of hr) (pv 2) (pv 1))) (pss_one (ps_dput (hu_of hr) (pv 1) (pv 2) (pe_callB call_lenD (by rfl) g_len PySem.boot_len (pa_cons (pv 1) pa_nil)) rfl)) pss_nil))) (pss_one (ps_ret (pe_callTy call_tuple_of (by rfl) g_tuple (by decide +kernel) (pa_cons (pe_lc (own := [("label", 2)]) (by rfl) sc_renumbered.nd (pi_list (pv 0)) (blkOk_by (own := [("label", 2)]) (N := ["labels", "numbers", "label"]) (sc := defScope s_renumbered) (by decide +kernel)) (fun _ _ _ _ _ => (pg_name (i := 2) sc_renumbered.nd rfl (by first | exact Or.inl rfl | exact Or.inr rfl))) (fun _ _ _ _ _ => pts_nil) (fun _ _ _ _ _ => (pe_dget (hu_of hr) (pv 1) (pv 2) (fun _ _ => rfl)))) pa_nil))))))), ?_⟩
    refine q_st (σ' := [some (V.ref a_labels1), none, none]) rfl ?_
    refine q_seq ?_
    refine q_set ?_
    refine q_dnew ?_
    refine al_own st0.c fun p1 np1 H1 s1 hB1 nb1 => ?_
    have z1 := st0.g _ np1
    have st1 := st0.t0 s1
    replace hB1 : H1 p1 = some (.dK (dk kI V.int ([] : (List (Int × Int))))) := hB1
    refine q_nx (σ' := [some (V.ref a_labels1), some (V.ref p1), none]) rfl ?_
    refine q_seq ?_
    refine q_for ?_
    refine q_itl ?_
    refine go (v := (V.ref a_labels1)) (v_var (by rfl)) ?_
    refine ⟨_, rfl, ⟨_, (Or.inl (Or.inl (st1.c _ _ hB_labels1)))⟩, ?_⟩
    obtain ⟨r_1, er1, e⟩ := bind_some e
    refine for_N (Inv := fun (s : (List (Int × Int))) σ H => ∃ (B : Hp) (y_label : Option V), σ = [some (V.ref a_labels1), some (V.ref p1), y_label] ∧ Ex B0 B ∧ Stp [] B0 H0 B H ∧ B p1 = none ∧ H p1 = some (.dK (dk kI V.int s))) er1 ?_ ?_ ?_ ?_ ?_
    · exact ⟨B0, _, rfl, (Ex.refl B0), st1, nb1, hB1⟩
    · refine lst_st (vs := (x_labels.map V.int)) ?_ (by simp)
      rintro s σ H ⟨B, _, rfl, ex, st, _, _⟩
      exact Or.inl (Or.inl (st.c _ _ (ex _ _ hB_labels1)))
    · refine lst_go (vs := (x_labels.map V.int)) ?_ (by simp)
      rintro s σ H ⟨B, _, rfl, ex, st, _, _⟩
      exact Or.inl (Or.inl (st.c _ _ (ex _ _ hB_labels1)))
    ·
      rintro i1 x1 c_numbers1 t1 _ H2 hx1 ⟨B1, y1, rfl, ex1, st2, nb2, hp1⟩ ef1 v1 Hy1 hy1 N1 hN1
      replace hp1 : H2 p1 = some (.dK (dk kI V.int c_numbers1)) := hp1
      have hB_labels1 := ex1 _ _ hB_labels1
      change renumbered_b0  x1 c_numbers1 = some t1 at ef1
      unfold renumbered_b0 at ef1
      obtain ⟨rfl, hv1⟩ := lst_yld hy1 (Or.inl (Or.inl (st2.c _ _ hB_labels1)))
      obtain rfl := map_at hv1 hx1
      refine q_gname ?_
      refine q_st (σ' := [some (V.ref a_labels1), some (V.ref p1), some (V.int x1)]) rfl ?_
      refine q_if ?_
      by_cases hb : (!dHas c_numbers1 x1) = true
      · have ef1 := if_inv_t hb ef1
        refine goT (b := true) (Ans.to (v_tB (v_dnotin (k := x1) (fun _ _ => kI_inj) (v_var (by rfl)) (v_var (by rfl)) hp1)) hb) ?_
        refine if_t rfl ?_
        refine q_dput ?_
        refine go (v := (V.int (c_numbers1.length : Int))) (v_cb1 (v_var (by rfl)) (v_lenD (c := kI) (f := V.int) hp1)) ?_
        refine go (v := (V.ref p1)) (v_var (by rfl)) ?_
        refine go (v := (V.int x1)) (v_var (by rfl)) ?_
        obtain ⟨q1, ef1⟩ := ask_some ef1
        refine dput_go (k := x1) (x := (c_numbers1.length : Int)) (f := V.int) (fun _ _ => kI_inj) st2 (Or.inl z1) nb2 hp1 q1 fun H3 st3 hp2 kp1 => ?_
        obtain rfl := Option.some.inj ef1
        exact hN1 _ _ ⟨B1, _, rfl, ex1, st3, nb2, hp2⟩
      · have hb := Bool.eq_false_iff.mpr hb
        have ef1 := if_inv_f hb ef1
        refine goT (b := false) (Ans.to (v_tB (v_dnotin (k := x1) (fun _ _ => kI_inj) (v_var (by rfl)) (v_var (by rfl)) hp1)) hb) ?_
        refine if_f rfl ?_
        refine q_next ?_
        obtain rfl := Option.some.inj ef1
        exact hN1 _ _ ⟨B1, _, rfl, ex1, st2, nb2, hp1⟩
    ·
      rintro _ H4 ⟨B2, y2, rfl, ex2, st4, nb3, hp3⟩
      replace hp3 : H4 p1 = some (.dK (dk kI V.int r_1)) := hp3
      have hB_labels1 := ex2 _ _ hB_labels1
      refine q_ret ?_
      refine q_cbR ?_
      refine q_cons ?_
      refine q_lc ?_
      refine q_itl ?_
      refine go (v := (V.ref a_labels1)) (v_var (by rfl)) ?_
      refine ⟨_, rfl, ⟨_, (Or.inl (Or.inl (st4.c _ _ hB_labels1)))⟩, ?_⟩
      obtain ⟨q2, e⟩ := ask_some e
      obtain ⟨ys1, ey1, e⟩ := bind_some e
      refine fun D1 nD1 => ?_
      have z2 := st4.g _ nD1
      have nb4 := B_none st4.c nD1
      have ne1 : p1 ≠ D1 := ne_none hp3 nD1
      refine lc_M (Inv := fun (l : (List Int)) H => ∃ (B : Hp), Ex B2 B ∧ Stp [] B0 H0 B H ∧ B D1 = none ∧ H D1 = some (.lst (l.map V.int)) ∧ B p1 = none ∧ H p1 = some (.dK (dk kI V.int r_1))) ey1 q2 ?_ ?_ ?_ ?_ ?_
      · exact ⟨B2, Ex.refl _, st4.newO nD1, nb4, upd_same, nb3, upd_ne' ne1 hp3⟩
      · refine lcl_st (vs := (x_labels.map V.int)) ?_ (by simp)
        rintro l H ⟨B, ex, st, _, _, _, _⟩
        exact Or.inl (Or.inl (st.c _ _ (ex _ _ hB_labels1)))
      · refine lcl_go (vs := (x_labels.map V.int)) ?_ (by simp)
        rintro l H ⟨B, ex, st, _, _, _, _⟩
        exact Or.inl (Or.inl (st.c _ _ (ex _ _ hB_labels1)))
      ·
        rintro i2 x2 y3 l1 H5 hx2 ⟨B3, ex3, st5, nb5, hD2, nb6, hp4⟩ hl1 ef2 v2 _ hy2 N2 hN2
        have hB_labels1 := ex3 _ _ hB_labels1
        obtain ⟨rfl, hv2⟩ := lst_yld hy2 (Or.inl (Or.inl (st5.c _ _ hB_labels1)))
        obtain rfl := map_at hv2 hx2
        refine q_gname ?_
        refine ⟨rfl, ?_⟩
        refine q_yes (if_t rfl ?_)
        obtain ⟨x_1, e_x_1, ef2⟩ := bind_some ef2
        refine go (v := (V.int x_1)) (v_dget (k := x2) (f := V.int) (fun _ _ => kI_inj) (v_var (by rfl)) (v_var (by rfl)) hp4 e_x_1) ?_
        obtain rfl := Option.some.inj ef2
        refine ⟨_, hD2, (lt_len hx2 hl1 q2 (by simp)), hN2 _ ⟨B3, ex3, st5.mut (Or.inl z2) nb5, nb5, (upd_snoc), nb6, upd_ne' ne1 hp4⟩⟩
      ·
        rintro H6 ⟨B4, ex4, st6, nb7, hD3, nb8, hp5⟩
        have hB_labels1 := ex4 _ _ hB_labels1
        obtain ⟨B5, st7, ex5, hB2, out1⟩ := give st6 hD3 z2
        have hB_labels1 := ex5 _ _ hB_labels1
        have nb8 := out1 _ ne1 nb8
        refine q_nil ?_
        refine rc_tup (Or.inl (Or.inl (st7.c _ _ hB2))) ?_
        refine al_giv st7.c fun p2 np2 B6 H7 s2 hB3 => ?_
        have hB_labels1 := s2.b _ _ hB_labels1
        have nb8 := s2.out nb8 hp5
        have hp5 := s2.h _ _ List.not_mem_nil hp5
        have hB2 := s2.b _ _ hB2
        have st8 := st7.t0 s2
        obtain rfl := Option.some.inj e
        exact q _ _ _ st8 (⟨p2, _, rfl, hB3, all2I _⟩)
end K79
/-! walk -/
namespace K79
open PySem PySem.Spec PyProof.Rows L2 Wk RZ ClX
def sp_Shape___init__ (K : PySem.W.Frag) : Sp := fun vs H Q _ => ∃ (B : Hp) (p_self dx_self : Addr) (v_labels : V) (x_labels : (List Int)) (r : (List Int)), Ex B H ∧ vs = [V.ref p_self, v_labels] ∧ B p_self = none ∧ H p_self = some (.ins (He.ga K "Shape") dx_self []) ∧ (rL rI) B v_labels x_labels ∧ m_Shape___init__ x_labels = some r ∧ ∀ v B' H', Stp [p_self] B H B' H' → ∀ (w_numbers : V), H' p_self = some (.ins (He.ga K "Shape") dx_self [("numbers", w_numbers)]) → (rH rI) B' w_numbers r → v = .non → Q v H'
theorem ok_Shape___init__ {P : Program} {w : World} {K : PySem.W.Frag} {mg : Str → Option Value} {base : Heap} (E : Tx K mg) : OkA P w K mg base CX0 2 (He.ma K (He.ga K "Shape") "__init__") ["self", "labels"] (sp_Shape___init__ K) := by
  obtain ⟨fd, F⟩ := E.def_ 32 (d := d_Shape___init__) rfl
  replace F : FunD K "__init__" "Shape.__init__" (defArgs s_Shape___init__) (defBody s_Shape___init__) (defScope s_Shape___init__) [] [] (He.ma K (He.ga K "Shape") "__init__") fd := F
  obtain ⟨fd_check_many, G_check_many, b_check_many, kp_check_many, m_check_many⟩ := ok_check_many (P := P) (w := w) (base := base) E
  obtain ⟨fd_renumbered, G_renumbered, b_renumbered, kp_renumbered, m_renumbered⟩ := ok_renumbered (P := P) (w := w) (base := base) E
  have cl_Shape := He.cls_ok (x := "Shape") (E.fact 54)
  have na_Shape_numbers := He.noat_ok (x := "Shape") (f := "numbers") (E.fact 55)
  refine ⟨fd, F.ok sc_Shape___init__ (fun vs H Q E h => ?_) (fun cdv A outer s H0 vs Q X hr h => ?_), F.bindsN fun _ _ _ _ _ _ us hl => match us, hl with | [_, _], _ => rfl, F.kp⟩
  · obtain ⟨_, _, _, _, _, _, _, rfl, _⟩ := h; rfl
  ·
    obtain ⟨B0, p_self, dx_self, v_labels, x_labels, r, c0, rfl, nb_self, hp_self, h_labels, e, q⟩ := h
    obtain ⟨a_labels1, vs_labels1, rfl, hB_labels1, hA_labels1⟩ := h_labels
    obtain rfl := all2_I hA_labels1
    have st0 : Stp [p_self] B0 H0 B0 H0 := Stp.refl c0
    unfold m_Shape___init__ at e
    refine ⟨_, PSs.nox ((pss_cons (ps_expr (pe_call G_check_many (hr.mono (by decide)) (by rfl) m_check_many kp_check_many b_check_many .nil pass0 (pa_cons (pv 1) (pa_cons pe_int pa_nil)))) (pss_one (ps_fld (pv 0) (pe_call G_renumbered (hr.mono (by decide)) (by rfl) m_renumbered kp_renumbered b_renumbered .nil pass0 (pa_cons (pv 1) pa_nil)) rfl)))), ?_⟩
    refine q_st (σ' := [some (V.ref p_self), some (V.ref a_labels1)]) rfl ?_
    refine q_seq ?_
    refine q_drop ?_
    refine q_call ?_
    refine q_cons ?_
    refine go (v := (V.ref a_labels1)) (v_var (by rfl)) ?_
    refine q_cons ?_
    refine go (v := (V.int (100 : Int))) v_c ?_
    refine q_nil ?_
    obtain ⟨r_1, e_r_1, e⟩ := bind_some e
    refine ⟨B0, (V.ref a_labels1), x_labels, (100 : Int), r_1, st0.c, rfl, ⟨a_labels1, _, rfl, hB_labels1, all2I _⟩, e_r_1, ?_⟩
    intro v1 B1 H1 s1 h1
    obtain rfl := h1
    have s2 := s1.keepB st0.c (fun _ z => absurd z List.not_mem_nil)
    have hp_self := s2.h _ _ List.not_mem_nil hp_self
    have st1 := st0.t0 s2
    refine q_setf ?_
    refine q_call ?_
    refine q_cons ?_
    refine go (v := (V.ref a_labels1)) (v_var (by rfl)) ?_
    refine q_nil ?_
    obtain ⟨r_2, e_r_2, e⟩ := bind_some e
    refine ⟨B0, (V.ref a_labels1), x_labels, r_2, st1.c, rfl, ⟨a_labels1, _, rfl, hB_labels1, all2I _⟩, e_r_2, ?_⟩
    intro v2 B2 H2 s3 h2
    have nb_self := s3.out nb_self hp_self
    have hp_self := s3.h _ _ List.not_mem_nil hp_self
    have hB_labels1 := s3.b _ _ hB_labels1
    have st2 := st1.t0 s3
    obtain ⟨a_r1, vs_r1, rfl, hB_r1, hA_r1⟩ := h2
    obtain rfl := all2_I hA_r1
    refine go (v := (V.ref p_self)) (v_var (by rfl)) ?_
    refine setf_go st2 (Or.inr (by simp)) nb_self hp_self cl_Shape na_Shape_numbers (by decide) fun H3 st3 hp1 kp1 => ?_
    replace hp1 : H3 p_self = some (.ins (He.ga K "Shape") dx_self [("numbers", (V.ref a_r1))]) := hp1
    obtain rfl := Option.some.inj e
    exact q _ _ _ st3 _ hp1 (⟨a_r1, _, rfl, hB_r1, all2I _⟩) rfl
end K79
/-! walk -/
namespace K79
open PySem PySem.Spec PyProof.Rows L2 Wk RZ ClX
def sp_Shape_of_word (K : PySem.W.Frag) : Sp := fun vs H Q _ => ∃ (B : Hp) (x_word : (List Nat)) (r : (List Int)), Ex B H ∧ vs = [(tS x_word)] ∧ m_Shape_of_word x_word = some r ∧ ∀ v B' H', Stp [] B H B' H' → (rO1 K "Shape" "numbers" (rH rI)) B' v r → Q v H'
theorem ok_Shape_of_word {P : Program} {w : World} {K : PySem.W.Frag} {mg : Str → Option Value} {base : Heap} (E : Tx K mg) : OkA P w K mg base CX0 4 (smG K (He.ga K "Shape") "of_word") ["word"] (sp_Shape_of_word K) := by
  obtain ⟨fd, F⟩ := E.2.h 0 _ rfl
  replace F : FunD K "of_word" "Shape.of_word" (defArgs s_Shape_of_word) (defBody s_Shape_of_word) (defScope s_Shape_of_word) [] [] (smG K (He.ga K "Shape") "of_word") fd := F
  obtain ⟨fd_check_word, G_check_word, b_check_word, kp_check_word, m_check_word⟩ := ok_check_word (P := P) (w := w) (base := base) E
  obtain ⟨fd_Shape___init__, G_Shape___init__, b_Shape___init__, kp_Shape___init__⟩ := ok_Shape___init__ (P := P) (w := w) (base := base) E
  have mgc_Shape := E.glo 56 (x := "Shape")
  have mk_Shape := He.mkr_ok (x := "Shape") (E.fact 57)
  have g_ord : mg "ord" = none := E.free 51
  refine ⟨fd, F.ok sc_Shape_of_word (fun vs H Q E h => ?_) (fun cdv A outer s H0 vs Q X hr h => ?_), F.bindsN fun _ _ _ _ _ _ us hl => match us, hl with | [_], _ => rfl, F.kp⟩
  · obtain ⟨_, _, _, _, rfl, _⟩ := h; rfl
  ·
    obtain ⟨B0, x_word, r, c0, rfl, e, q⟩ := h
    have st0 : Stp [] B0 H0 B0 H0 := Stp.refl c0
    unfold m_Shape_of_word at e
    refine ⟨_, PSs.nox ((pss_cons (ps_expr (pe_call G_check_word (hr.mono (by decide)) (by rfl) m_check_word kp_check_word b_check_word .nil pass0 (pa_cons (pv 0) pa_nil))) (pss_one (ps_ret (pe_make mk_Shape G_Shape___init__ (hr.mono (by decide)) (by rfl) mgc_Shape b_Shape___init__ .nil pass0 (pa_cons (pe_lc (own := [("letter", 1)]) (by rfl) sc_Shape_of_word.nd (pi_str (pv 0)) (blkOk_by (own := [("letter", 1)]) (N := ["word", "letter"]) (sc := defScope s_Shape_of_word) (by decide +kernel)) (fun _ _ _ _ _ => (pg_name (i := 1) sc_Shape_of_word.nd rfl (by first | exact Or.inl rfl | exact Or.inr rfl))) (fun _ _ _ _ _ => pts_nil) (fun _ _ _ _ _ => (pe_callB call_ord (by rfl) g_ord (by decide +kernel) (pa_cons (pv 1) pa_nil)))) pa_nil)))))), ?_⟩
    refine q_st (σ' := [some (tS x_word), none]) rfl ?_
    refine q_seq ?_
    refine q_drop ?_
    refine q_call ?_
    refine q_cons ?_
    refine go (v := (tS x_word)) (v_var (by rfl)) ?_
    refine q_nil ?_
    obtain ⟨r_1, e_r_1, e⟩ := bind_some e
    refine ⟨B0, x_word, r_1, st0.c, rfl, e_r_1, ?_⟩
    intro v1 B1 H1 s1 h1
    obtain rfl := h1
    have s2 := s1.keepB st0.c (fun _ z => absurd z List.not_mem_nil)
    have st1 := st0.t0 s2
    refine q_ret ?_
    refine q_make ?_
    refine q_cons ?_
    refine q_lc ?_
    refine q_its ?_
    refine go (v := (tS x_word)) (v_var (by rfl)) ?_
    refine ⟨_, rfl, ?_⟩
    obtain ⟨q1, e⟩ := ask_some e
    obtain ⟨ys1, ey1, e⟩ := bind_some e
    refine fun D1 nD1 => ?_
    have z1 := st1.g _ nD1
    have nb1 := B_none st1.c nD1
    refine lc_M (Inv := fun (l : (List Int)) H => ∃ (B : Hp), Ex B0 B ∧ Stp [] B0 H0 B H ∧ B D1 = none ∧ H D1 = some (.lst (l.map V.int))) ey1 q1 ?_ ?_ ?_ ?_ ?_
    · exact ⟨B0, Ex.refl _, st1.newO nD1, nb1, upd_same⟩
    · exact lcstr_st
    · exact lcstr_go
    ·
      rintro i1 x1 y1 l1 H2 hx1 ⟨B2, ex1, st2, nb2, hD2⟩ hl1 ef1 v2 _ hy1 N1 hN1
      obtain ⟨rfl, rfl⟩ := str_yld hy1 hx1
      refine q_gname ?_
      refine ⟨rfl, ?_⟩
      refine q_yes (if_t rfl ?_)
      obtain ⟨c_1, e_c_1, ef1⟩ := bind_some ef1
      refine go (v := (V.int (c_1 : Int))) (v_cb1 (v_var (by rfl)) (v_ord e_c_1)) ?_
      obtain rfl := Option.some.inj ef1
      refine ⟨_, hD2, (lt_len hx1 hl1 q1 (by simp)), hN1 _ ⟨B2, ex1, st2.mut (Or.inl z1) nb2, nb2, (upd_snoc)⟩⟩
    ·
      rintro H3 ⟨B3, ex2, st3, nb3, hD3⟩
      obtain ⟨B4, st4, ex3, hB1, out1⟩ := give st3 hD3 z1
      refine q_nil ?_
      refine fun x2 dx1 nx1 ndx1 ne1 => ?_
      obtain ⟨H4, eH1, s3, hx2, nb4⟩ := mk_new (C := He.ga K "Shape") st4.c nx1 ndx1 ne1
      rw [eH1]
      have z2 := st4.g _ nx1
      have st5 := st4.t0 s3
      obtain ⟨r_2, e_r_2, e⟩ := bind_some e
      refine ⟨B4, x2, dx1, (V.ref D1), ys1, r_2, st5.c, rfl, nb4, hx2, ⟨D1, _, rfl, hB1, all2I _⟩, e_r_2, ?_⟩
      intro v3 B5 H5 s4 w1 hp1 h2 hv1
      obtain rfl := hv1
      refine ⟨rfl, ?_⟩
      have nb5 := s4.outm (by simp) nb4 hx2
      have st6 := st5.loc s4 z2
      obtain ⟨a_f1, vs_f1, rfl, hB_f1, hA_f1⟩ := h2
      obtain rfl := all2_I hA_f1
      obtain ⟨B6, st7, ex4, hB2, out2⟩ := give st6 hp1 z2
      have hB_f1 := ex4 _ _ hB_f1
      obtain rfl := Option.some.inj e
      exact q _ _ _ st7 (⟨x2, _, _, rfl, hB2, ⟨a_f1, _, rfl, hB_f1, all2I _⟩⟩)
end K79
/-! walk -/
namespace K79
open PySem PySem.Spec PyProof.Rows L2 Wk RZ ClX
def sp_Shape_class_total (K : PySem.W.Frag) : Sp := fun vs H Q _ => ∃ (B : Hp) (v_self : V) (x_self : (List Int)) (r : Int), Ex B H ∧ vs = [v_self] ∧ (rO1 K "Shape" "numbers" (rH rI)) B v_self x_self ∧ m_Shape_class_total x_self = some r ∧ ∀ v B' H', Stp [] B H B' H' → rI B' v r → Q v H'
theorem ok_Shape_class_total {P : Program} {w : World} {K : PySem.W.Frag} {mg : Str → Option Value} {base : Heap} (E : Tx K mg) : OkA P w K mg base CX0 1 (prG K (He.ga K "Shape") "class_total") ["self"] (sp_Shape_class_total K) := by
  obtain ⟨fd, F⟩ := E.2.h 1 _ rfl
  replace F : FunD K "class_total" "Shape.class_total" (defArgs s_Shape_class_total) (defBody s_Shape_class_total) (defScope s_Shape_class_total) [] [] (prG K (He.ga K "Shape") "class_total") fd := F
  have cl_Shape := He.cls_ok (x := "Shape") (E.fact 54)
  have na_Shape_numbers := He.noat_ok (x := "Shape") (f := "numbers") (E.fact 55)
  have g_max : mg "max" = none := E.free 46
  refine ⟨fd, F.ok sc_Shape_class_total (fun vs H Q E h => ?_) (fun cdv A outer s H0 vs Q X hr h => ?_), F.bindsN fun _ _ _ _ _ _ us hl => match us, hl with | [_], _ => rfl, F.kp⟩
  · obtain ⟨_, _, _, _, _, rfl, _⟩ := h; rfl
  ·
    obtain ⟨B0, v_self, x_self, r, c0, rfl, h_self, e, q⟩ := h
    obtain ⟨a_self1, dx1, w_self1, rfl, hB_self1, h_self1⟩ := h_self
    obtain ⟨a_self2, vs_self1, rfl, hB_self2, hA_self1⟩ := h_self1
    obtain rfl := all2_I hA_self1
    have st0 : Stp [] B0 H0 B0 H0 := Stp.refl c0
    unfold m_Shape_class_total at e
    refine ⟨_, PSs.nox ((pss_one (ps_ret (pe_op op_add (pe_callBK (cr_maxTD rfl hr.units) (by rfl) g_max (by decide +kernel) (pa_cons (pe_fld (pv 0) rfl) pa_nil) (pk_cons (pe_un un_neg pe_int) pk_nil)) pe_int)))), ?_⟩
    refine q_st (σ' := [some (V.ref a_self1)]) rfl ?_
    refine q_ret ?_
    refine q_opR ?_
    refine q_ckw ?_
    refine q_cons ?_
    refine go (v := (V.ref a_self2)) (v_fld (v_var (by rfl)) (st0.c _ _ hB_self1) cl_Shape na_Shape_numbers rfl) ?_
    refine q_nil ?_
    refine q_cons ?_
    refine go (v := (V.int (-1 : Int))) (v_un v_c (fun _ q => ⟨_, rfl, q⟩)) ?_
    refine q_nil ?_
    refine ⟨_, _, _, rfl, (Or.inl (Or.inl (st0.c _ _ hB_self2))), rfl, ?_⟩
    refine go (v := (V.int (1 : Int))) v_c ?_
    refine ⟨_, _, rfl, rfl, ?_⟩
    obtain rfl := Option.some.inj e
    exact q _ _ _ st0 rfl
end K79
/-! walk -/
namespace K79
open PySem PySem.Spec PyProof.Rows L2 Wk RZ ClX
def sp_Shape_led (K : PySem.W.Frag) : Sp := fun vs H Q _ => ∃ (B : Hp) (v_self : V) (x_self : (List Int)) (x_letters : (List Nat)) (r : (List Nat)), Ex B H ∧ vs = [v_self, (tS x_letters)] ∧ (rO1 K "Shape" "numbers" (rH rI)) B v_self x_self ∧ m_Shape_led x_self x_letters = some r ∧ ∀ v B' H', Stp [] B H B' H' → rS B' v r → Q v H'
theorem ok_Shape_led {P : Program} {w : World} {K : PySem.W.Frag} {mg : Str → Option Value} {base : Heap} (E : Tx K mg) : OkA P w K mg base CX0 3 (He.ma K (He.ga K "Shape") "led") ["self", "letters"] (sp_Shape_led K) := by
  obtain ⟨fd, F⟩ := E.def_ 34 (d := d_Shape_led) rfl
  replace F : FunD K "led" "Shape.led" (defArgs s_Shape_led) (defBody s_Shape_led) (defScope s_Shape_led) [] [] (He.ma K (He.ga K "Shape") "led") fd := F
  obtain ⟨fd_is_letters, G_is_letters, b_is_letters, kp_is_letters, m_is_letters⟩ := ok_is_letters (P := P) (w := w) (base := base) E
  obtain ⟨fd_Shape_class_total, G_Shape_class_total, b_Shape_class_total, kp_Shape_class_total⟩ := ok_Shape_class_total (P := P) (w := w) (base := base) E
  have cl_Shape := He.cls_ok (x := "Shape") (E.fact 54)
  have pr_Shape_class_total := prB_ok (exE E 0)
  have na_Shape_numbers := He.noat_ok (x := "Shape") (f := "numbers") (E.fact 55)
  have g_len : mg "len" = none := E.free 41
  refine ⟨fd, F.ok sc_Shape_led (fun vs H Q E h => ?_) (fun cdv A outer s H0 vs Q X hr h => ?_), F.bindsN fun _ _ _ _ _ _ us hl => match us, hl with | [_, _], _ => rfl, F.kp⟩
  · obtain ⟨_, _, _, _, _, _, rfl, _⟩ := h; rfl
  ·
    obtain ⟨B0, v_self, x_self, x_letters, r, c0, rfl, h_self, e, q⟩ := h
    obtain ⟨a_self1, dx1, w_self1, rfl, hB_self1, h_self1⟩ := h_self
    obtain ⟨a_self2, vs_self1, rfl, hB_self2, hA_self1⟩ := h_self1
    obtain rfl := all2_I hA_self1
    have st0 : Stp [] B0 H0 B0 H0 := Stp.refl c0
    unfold m_Shape_led at e
    refine ⟨_, PSs.nox ((pss_cons (ps_if (PW.pt (pw_or (pt_not (pt_val (pe_call G_is_letters (hr.mono (by decide)) (by rfl) m_is_letters kp_is_letters b_is_letters .nil pass0 (pa_cons (pv 1) (pa_cons pe_int pa_nil))))) (pw_or1 (pt_cmpR op_ne (pe_callB call_len_str (by rfl) g_len PySem.boot_len (pa_cons (pv 1) pa_nil)) (pe_prop (pv 0) cl_Shape pr_Shape_class_total G_Shape_class_total (hr.mono (by decide)) b_Shape_class_total .nil pass0 (by rfl)) (nomark _))))) (pss_one ps_never) pss_nil) (pss_one (ps_ret (pe_join pe_str (pe_lc (own := [("number", 2)]) (by rfl) sc_Shape_led.nd (pi_tup (pe_fld (pv 0) rfl)) (blkOk_by (own := [("number", 2)]) (N := ["self", "letters", "number"]) (sc := defScope s_Shape_led) (by decide +kernel)) (fun _ _ _ _ _ => (pg_name (i := 2) sc_Shape_led.nd rfl (by first | exact Or.inl rfl | exact Or.inr rfl))) (fun _ _ _ _ _ => pts_nil) (fun _ _ _ _ _ => (pe_ix ix_str (pv 1) (pv 2) (fun _ _ => rfl))))))))), ?_⟩
    refine q_st (σ' := [some (V.ref a_self1), some (tS x_letters), none]) rfl ?_
    refine q_seq ?_
    refine q_if ?_
    refine q_or ?_
    refine q_not ?_
    refine q_tB ?_
    refine q_call ?_
    refine q_cons ?_
    refine go (v := (tS x_letters)) (v_var (by rfl)) ?_
    refine q_cons ?_
    refine go (v := (V.int (100 : Int))) v_c ?_
    refine q_nil ?_
    obtain ⟨r_1, e_r_1, e⟩ := bind_some e
    refine ⟨B0, x_letters, (100 : Int), r_1, st0.c, rfl, e_r_1, ?_⟩
    intro v1 B1 H1 s1 h1
    obtain rfl := h1
    have s2 := s1.keepB st0.c (fun _ z => absurd z List.not_mem_nil)
    have st1 := st0.t0 s2
    by_cases hb : r_1 = true
    · have e := if_inv_t hb e
      refine ⟨true, by rw [hb], ?_⟩
      refine if_f rfl ?_
      refine q_test ?_
      refine q_opR ?_
      obtain ⟨q1, e⟩ := ask_some e
      refine go (v := (V.int (x_letters.length : Int))) (v_cb1 (v_var (by rfl)) (v_lenS q1)) ?_
      refine q_prop ?_
      refine go (v := (V.ref a_self1)) (v_var (by rfl)) ?_
      refine ⟨_, _, _, rfl, (st1.c _ _ hB_self1), ?_⟩
      obtain ⟨r_2, e_r_2, e⟩ := bind_some e
      refine ⟨B0, (V.ref a_self1), x_self, r_2, st1.c, rfl, ⟨a_self1, _, _, rfl, hB_self1, ⟨a_self2, _, rfl, hB_self2, all2I _⟩⟩, e_r_2, ?_⟩
      intro v2 B2 H2 s3 h2
      obtain rfl := h2
      have s4 := s3.keepB st1.c (fun _ z => absurd z List.not_mem_nil)
      have st2 := st1.t0 s4
      refine r2_of v_neI ?_
      by_cases hb : (decide ((x_letters.length : Int) ≠ r_2)) = true
      · have e := if_inv_t hb e
        refine ⟨true, by rw [hb], ?_⟩
        refine if_t rfl ?_
        cases e
      · have hb := Bool.eq_false_iff.mpr hb
        have e := if_inv_f hb e
        refine ⟨false, by rw [hb], ?_⟩
        refine if_f rfl ?_
        refine q_next ?_
        refine q_ret ?_
        refine q_m1R ?_
        refine go (v := (tS ([] : List Nat))) v_c ?_
        refine ⟨⟨_, rfl⟩, ?_⟩
        refine q_lc ?_
        refine q_itt ?_
        refine go (v := (V.ref a_self2)) (v_fld (v_var (by rfl)) (st2.c _ _ hB_self1) cl_Shape na_Shape_numbers rfl) ?_
        refine ⟨_, rfl, ⟨_, (Or.inl (Or.inl (st2.c _ _ hB_self2)))⟩, ?_⟩
        obtain ⟨q2, e⟩ := ask_some e
        obtain ⟨ys1, ey1, e⟩ := bind_some e
        refine fun D1 nD1 => ?_
        have z1 := st2.g _ nD1
        have nb1 := B_none st2.c nD1
        refine lc_M (Inv := fun (l : (List (List Nat))) H => ∃ (B : Hp), Ex B0 B ∧ Stp [] B0 H0 B H ∧ B D1 = none ∧ H D1 = some (.lst (l.map tS))) ey1 q2 ?_ ?_ ?_ ?_ ?_
        · exact ⟨B0, Ex.refl _, st2.newO nD1, nb1, upd_same⟩
        · refine lct_st (vs := (x_self.map V.int)) ?_ (by simp)
          rintro l H ⟨B, ex, st, _, _⟩
          exact Or.inl (Or.inl (st.c _ _ (ex _ _ hB_self2)))
        · refine lct_go (vs := (x_self.map V.int)) ?_ (by simp)
          rintro l H ⟨B, ex, st, _, _⟩
          exact Or.inl (Or.inl (st.c _ _ (ex _ _ hB_self2)))
        ·
          rintro i1 x1 y1 l1 H3 hx1 ⟨B3, ex1, st3, nb2, hD2⟩ hl1 ef1 v3 _ hy1 N1 hN1
          have hB_self1 := ex1 _ _ hB_self1
          have hB_self2 := ex1 _ _ hB_self2
          obtain ⟨rfl, hv1⟩ := tup_yld hy1 (Or.inl (Or.inl (st3.c _ _ hB_self2)))
          obtain rfl := map_at hv1 hx1
          refine q_gname ?_
          refine ⟨rfl, ?_⟩
          refine q_yes (if_t rfl ?_)
          obtain ⟨q3, ef1⟩ := ask_some ef1
          obtain ⟨c_1, e_c_1, ef1⟩ := bind_some ef1
          refine go (v := (tS [c_1])) (v_op (v_var (by rfl)) (v_var (by rfl)) (v_ixS q3 e_c_1)) ?_
          obtain rfl := Option.some.inj ef1
          refine ⟨_, hD2, (lt_len hx1 hl1 q2 (by simp)), hN1 _ ⟨B3, ex1, st3.mut (Or.inl z1) nb2, nb2, (upd_snoc)⟩⟩
        ·
          rintro H4 ⟨B4, ex2, st4, nb3, hD3⟩
          have hB_self1 := ex2 _ _ hB_self1
          have hB_self2 := ex2 _ _ hB_self2
          obtain ⟨B5, st5, ex3, hB1, out1⟩ := give st4 hD3 z1
          have hB_self1 := ex3 _ _ hB_self1
          have hB_self2 := ex3 _ _ hB_self2
          obtain ⟨q4, e⟩ := ask_some e
          refine rm_of (v_join (Or.inl (Or.inl (Or.inl (st5.c _ _ hB1)))) q4) ?_
          obtain rfl := Option.some.inj e
          exact q _ _ _ st5 rfl
    · have hb := Bool.eq_false_iff.mpr hb
      have e := if_inv_f hb e
      refine ⟨false, by rw [hb], ?_⟩
      refine if_t rfl ?_
      refine if_t rfl ?_
      cases e
end K79
/-! walk -/
namespace K79
open PySem PySem.Spec PyProof.Rows L2 Wk RZ ClX
def sp_Shape___len__ (K : PySem.W.Frag) : Sp := fun vs H Q _ => ∃ (B : Hp) (v_self : V) (x_self : (List Int)) (r : Int), Ex B H ∧ vs = [v_self] ∧ (rO1 K "Shape" "numbers" (rH rI)) B v_self x_self ∧ m_Shape___len__ x_self = some r ∧ ∀ v B' H', Stp [] B H B' H' → rI B' v r → Q v H'
theorem ok_Shape___len__ {P : Program} {w : World} {K : PySem.W.Frag} {mg : Str → Option Value} {base : Heap} (E : Tx K mg) : OkA P w K mg base CX0 1 (He.ma K (He.ga K "Shape") "__len__") ["self"] (sp_Shape___len__ K) := by
  obtain ⟨fd, F⟩ := E.def_ 33 (d := d_Shape___len__) rfl
  replace F : FunD K "__len__" "Shape.__len__" (defArgs s_Shape___len__) (defBody s_Shape___len__) (defScope s_Shape___len__) [] [] (He.ma K (He.ga K "Shape") "__len__") fd := F
  have cl_Shape := He.cls_ok (x := "Shape") (E.fact 54)
  have na_Shape_numbers := He.noat_ok (x := "Shape") (f := "numbers") (E.fact 55)
  have g_len : mg "len" = none := E.free 41
  refine ⟨fd, F.ok sc_Shape___len__ (fun vs H Q E h => ?_) (fun cdv A outer s H0 vs Q X hr h => ?_), F.bindsN fun _ _ _ _ _ _ us hl => match us, hl with | [_], _ => rfl, F.kp⟩
  · obtain ⟨_, _, _, _, _, rfl, _⟩ := h; rfl
  ·
    obtain ⟨B0, v_self, x_self, r, c0, rfl, h_self, e, q⟩ := h
    obtain ⟨a_self1, dx1, w_self1, rfl, hB_self1, h_self1⟩ := h_self
    obtain ⟨a_self2, vs_self1, rfl, hB_self2, hA_self1⟩ := h_self1
    obtain rfl := all2_I hA_self1
    have st0 : Stp [] B0 H0 B0 H0 := Stp.refl c0
    unfold m_Shape___len__ at e
    refine ⟨_, PSs.nox ((pss_one (ps_ret (pe_callB call_len_seq (by rfl) g_len PySem.boot_len (pa_cons (pe_fld (pv 0) rfl) pa_nil))))), ?_⟩
    refine q_st (σ' := [some (V.ref a_self1)]) rfl ?_
    refine q_ret ?_
    refine go (v := (V.int (x_self.length : Int))) (v_cb1 (v_fld (v_var (by rfl)) (st0.c _ _ hB_self1) cl_Shape na_Shape_numbers rfl) (v_lenL (Or.inr (Or.inl (Or.inl (st0.c _ _ hB_self2)))) (by simp))) ?_
    obtain rfl := Option.some.inj e
    exact q _ _ _ st0 rfl
end K79
/-! walk -/
namespace K79
open PySem PySem.Spec PyProof.Rows L2 Wk RZ ClX
def sp_Shape_map_to (K : PySem.W.Frag) : Sp := fun vs H Q _ => ∃ (B : Hp) (v_self : V) (x_self : (List Int)) (v_other : V) (x_other : (List Int)) (r : (Option (List Int))), Ex B H ∧ vs = [v_self, v_other] ∧ (rO1 K "Shape" "numbers" (rH rI)) B v_self x_self ∧ (rO1 K "Shape" "numbers" (rH rI)) B v_other x_other ∧ m_Shape_map_to x_self x_other = some r ∧ ∀ v B' H', Stp [] B H B' H' → (rQ (rH rI)) B' v r → Q v H'
theorem ok_Shape_map_to {P : Program} {w : World} {K : PySem.W.Frag} {mg : Str → Option Value} {base : Heap} (E : Tx K mg) : OkA P w K mg base CX0 3 (He.ma K (He.ga K "Shape") "map_to") ["self", "other"] (sp_Shape_map_to K) := by
  obtain ⟨fd, F⟩ := E.def_ 35 (d := d_Shape_map_to) rfl
  replace F : FunD K "map_to" "Shape.map_to" (defArgs s_Shape_map_to) (defBody s_Shape_map_to) (defScope s_Shape_map_to) [] [] (He.ma K (He.ga K "Shape") "map_to") fd := F
  obtain ⟨fd_Shape___len__, G_Shape___len__, b_Shape___len__, kp_Shape___len__⟩ := ok_Shape___len__ (P := P) (w := w) (base := base) E
  have mt_Shape___len__ := He.meth_ok (x := "Shape") (m := "__len__") (E.fact 58)
  have cl_Shape := He.cls_ok (x := "Shape") (E.fact 54)
  have na_Shape_numbers := He.noat_ok (x := "Shape") (f := "numbers") (E.fact 55)
  have g_len : mg "len" = none := E.free 41
  have g_tuple : mg "tuple" = none := E.free 50
  have g_zip : mg "zip" = none := E.free 52
  refine ⟨fd, F.ok sc_Shape_map_to (fun vs H Q E h => ?_) (fun cdv A outer s H0 vs Q X hr h => ?_), F.bindsN fun _ _ _ _ _ _ us hl => match us, hl with | [_, _], _ => rfl, F.kp⟩
  · obtain ⟨_, _, _, _, _, _, _, rfl, _⟩ := h; rfl
  ·
    obtain ⟨B0, v_self, x_self, v_other, x_other, r, c0, rfl, h_self, h_other, e, q⟩ := h
    obtain ⟨a_self1, dx1, w_self1, rfl, hB_self1, h_self1⟩ := h_self
    obtain ⟨a_self2, vs_self1, rfl, hB_self2, hA_self1⟩ := h_self1
    obtain rfl := all2_I hA_self1
    obtain ⟨a_other1, dx2, w_other1, rfl, hB_other1, h_other1⟩ := h_other
    obtain ⟨a_other2, vs_other1, rfl, hB_other2, hA_other1⟩ := h_other1
    obtain rfl := all2_I hA_other1
    have st0 : Stp [] B0 H0 B0 H0 := Stp.refl c0
    unfold m_Shape_map_to at e
    refine ⟨_, PSs.nox ((pss_cons (ps_if (pt_cmpR op_ne (pe_callB (call_lenO mt_Shape___len__.at_ mt_Shape___len__.fn G_Shape___len__ (hr.mono (by decide)) b_Shape___len__ pass0) (by rfl) g_len PySem.boot_len (pa_cons (pv 0) pa_nil)) (pe_callB (call_lenO mt_Shape___len__.at_ mt_Shape___len__.fn G_Shape___len__ (hr.mono (by decide)) b_Shape___len__ pass0) (by rfl) g_len PySem.boot_len (pa_cons (pv 1) pa_nil)) (nomark _)) (pss_one ps_never) pss_nil) (pss_cons (ps_set (i := 2) sc_Shape_map_to.nd rfl (by first | exact Or.inl rfl | exact Or.inr rfl) (pe_lst pa_nil)) (pss_cons (ps_for PassesOwn.never rfl (pi_zipA (by rfl) g_zip (pa_cons (pe_fld (pv 0) rfl) (pa_cons (pe_fld (pv 1) rfl) pa_nil))) (pg_tup rfl (pgs_cons (pg_name (i := 3) sc_Shape_map_to.nd rfl (by first | exact Or.inl rfl | exact Or.inr rfl)) (pgs_cons (pg_name (i := 4) sc_Shape_map_to.nd rfl (by first | exact Or.inl rfl | exact Or.inr rfl)) pgs_nil))) (pss_one (ps_if (pt_cmpR op_eq (pv 3) (pe_callB call_len_seq (by rfl) g_len PySem.boot_len (pa_cons (pv 2) pa_nil)) (nomark _)) (pss_one (ps_expr (pe_bm PySem.F.plainAttrs_list PySem.F.slot_list_append PySem.F.type_list_append mt_append (pv 2) (pa_cons (pv 4) pa_nil)))) (pss_one (ps_if (pt_cmpR op_ne (pe_ix ix_list (pv 2) (pv 3) (fun _ _ => rfl)) (pv 4) (nomark _)) (pss_one (ps_ret pe_non)) pss_nil))))) (pss_one (ps_ret (pe_callTy call_tuple_of (by rfl) g_tuple (by decide +kernel) (pa_cons (pv 2) pa_nil)))))))), ?_⟩
    refine q_st (σ' := [some (V.ref a_self1), some (V.ref a_other1), none, none, none]) rfl ?_
    refine q_seq ?_
    refine q_if ?_
    refine q_test ?_
    refine q_opR ?_
    refine q_cbR ?_
    refine q_cons ?_
    refine go (v := (V.ref a_self1)) (v_var (by rfl)) ?_
    refine q_nil ?_
    refine rc_lenO (st0.c _ _ hB_self1) ?_
    obtain ⟨r_1, e_r_1, e⟩ := bind_some e
    refine ⟨B0, (V.ref a_self1), x_self, r_1, st0.c, rfl, ⟨a_self1, _, _, rfl, hB_self1, ⟨a_self2, _, rfl, hB_self2, all2I _⟩⟩, e_r_1, ?_⟩
    intro v1 B1 H1 s1 h1
    obtain rfl := h1
    have s2 := s1.keepB st0.c (fun _ z => absurd z List.not_mem_nil)
    have st1 := st0.t0 s2
    obtain ⟨q1, e⟩ := ask_some e
    refine ⟨_, rfl, q1.1, q1.2, ?_⟩
    refine q_cbR ?_
    refine q_cons ?_
    refine go (v := (V.ref a_other1)) (v_var (by rfl)) ?_
    refine q_nil ?_
    refine rc_lenO (st1.c _ _ hB_other1) ?_
    obtain ⟨r_2, e_r_2, e⟩ := bind_some e
    refine ⟨B0, (V.ref a_other1), x_other, r_2, st1.c, rfl, ⟨a_other1, _, _, rfl, hB_other1, ⟨a_other2, _, rfl, hB_other2, all2I _⟩⟩, e_r_2, ?_⟩
    intro v2 B2 H2 s3 h2
    obtain rfl := h2
    have s4 := s3.keepB st1.c (fun _ z => absurd z List.not_mem_nil)
    have st2 := st1.t0 s4
    obtain ⟨q2, e⟩ := ask_some e
    refine ⟨_, rfl, q2.1, q2.2, ?_⟩
    refine r2_of v_neI ?_
    by_cases hb : (decide (r_1 ≠ r_2)) = true
    · have e := if_inv_t hb e
      refine ⟨true, by rw [hb], ?_⟩
      refine if_t rfl ?_
      cases e
    · have hb := Bool.eq_false_iff.mpr hb
      have e := if_inv_f hb e
      refine ⟨false, by rw [hb], ?_⟩
      refine if_f rfl ?_
      refine q_next ?_
      refine q_seq ?_
      refine q_set ?_
      refine q_lst ?_
      refine q_nil ?_
      refine ⟨by show _ ≤ 16777216; simp, ?_⟩
      refine al_own st2.c fun p1 np1 H3 s5 hB1 nb1 => ?_
      have z1 := st2.g _ np1
      have st3 := st2.t0 s5
      replace hB1 : H3 p1 = some (.lst (([] : (List Int)).map V.int)) := hB1
      refine q_nx (σ' := [some (V.ref a_self1), some (V.ref a_other1), some (V.ref p1), none, none]) rfl ?_
      refine q_seq ?_
      refine q_for ?_
      refine q_zipA ?_
      refine q_cons ?_
      refine go (v := (V.ref a_self2)) (v_fld (v_var (by rfl)) (st3.c _ _ hB_self1) cl_Shape na_Shape_numbers rfl) ?_
      refine q_cons ?_
      refine go (v := (V.ref a_other2)) (v_fld (v_var (by rfl)) (st3.c _ _ hB_other1) cl_Shape na_Shape_numbers rfl) ?_
      refine q_nil ?_
      refine ⟨_, _, _, _, rfl, Or.inr ⟨(Or.inl (Or.inl (st3.c _ _ hB_self2))), (Or.inl (Or.inl (st3.c _ _ hB_other2))), ?_⟩⟩
      obtain ⟨r_3, er1, e⟩ := bind_some e
      refine for_R (Inv := fun (s : (List Int)) σ H => ∃ (B : Hp) (y_number : Option V) (y_image : Option V), σ = [some (V.ref a_self1), some (V.ref a_other1), some (V.ref p1), y_number, y_image] ∧ Ex B0 B ∧ Stp [] B0 H0 B H ∧ B p1 = none ∧ H p1 = some (.lst (s.map V.int))) er1 ?_ ?_ ?_ ?_ ?_
      · exact ⟨B0, _, _, rfl, (Ex.refl B0), st3, nb1, hB1⟩
      · refine zipT_st (vs := (x_self.map V.int)) (ws := (x_other.map V.int)) ?_ (by simp) (by simp)
        rintro s σ H ⟨B, _, _, rfl, ex, st, _, _⟩
        exact ⟨Or.inl (Or.inl (st.c _ _ (ex _ _ hB_self2))), Or.inl (Or.inl (st.c _ _ (ex _ _ hB_other2)))⟩
      · refine zipT_go (vs := (x_self.map V.int)) (ws := (x_other.map V.int)) ?_ (by simp) (by simp)
        rintro s σ H ⟨B, _, _, rfl, ex, st, _, _⟩
        exact ⟨Or.inl (Or.inl (st.c _ _ (ex _ _ hB_self2))), Or.inl (Or.inl (st.c _ _ (ex _ _ hB_other2)))⟩
      ·
        rintro i1 x1 c_images1 t1 _ H4 hx1 ⟨B3, y1, y2, rfl, ex1, st4, nb2, hp1⟩ ef1 v3 Hy1 hy1 N1 _ hN1
        replace hp1 : H4 p1 = some (.lst (c_images1.map V.int)) := hp1
        have hB_self1 := ex1 _ _ hB_self1
        have hB_self2 := ex1 _ _ hB_self2
        have hB_other1 := ex1 _ _ hB_other1
        have hB_other2 := ex1 _ _ hB_other2
        change Shape_map_to_b0  x1 c_images1 = some t1 at ef1
        unfold Shape_map_to_b0 at ef1
        obtain ⟨T1, x2, x3, B4, rfl, s6, hT1, f1, f2, g1, g2⟩ := zipT_yld hy1 st4.c (Or.inl (Or.inl (st4.c _ _ hB_self2))) (Or.inl (Or.inl (st4.c _ _ hB_other2))) hx1
        obtain rfl := map_at f1 g1
        obtain rfl := map_at f2 g2
        have hB_self1 := s6.b _ _ hB_self1
        have hB_self2 := s6.b _ _ hB_self2
        have hB_other1 := s6.b _ _ hB_other1
        have hB_other2 := s6.b _ _ hB_other2
        have nb2 := s6.out nb2 hp1
        have hp1 := s6.h _ _ List.not_mem_nil hp1
        have st5 := st4.t0 s6
        refine ⟨_, _, rfl, (Or.inl (Or.inl (st5.c _ _ hT1))), rfl, ?_⟩
        refine ⟨_, _, rfl, ?_⟩
        refine q_gname ?_
        refine ⟨_, _, rfl, ?_⟩
        refine q_gname ?_
        refine ⟨rfl, ?_⟩
        refine q_st (σ' := [some (V.ref a_self1), some (V.ref a_other1), some (V.ref p1), some (V.int x1.1), some (V.int x1.2)]) rfl ?_
        refine q_if ?_
        by_cases hb : (decide (x1.1 = (c_images1.length : Int))) = true
        · have ef1 := if_inv_t hb ef1
          refine goT (b := true) (Ans.to (v_tb (v_op (v_var (by rfl)) (v_cb1 (v_var (by rfl)) (v_lenL (Or.inl (Or.inl (Or.inl hp1))) (by simp))) v_eqI)) hb) ?_
          refine if_t rfl ?_
          refine q_drop ?_
          refine q_bm ?_
          refine go (v := (V.ref p1)) (v_var (by rfl)) ?_
          refine ⟨tyL (Or.inl (Or.inl hp1)), ?_⟩
          refine q_cons ?_
          refine go (v := (V.int x1.2)) (v_var (by rfl)) ?_
          refine q_nil ?_
          obtain ⟨q3, ef1⟩ := ask_some ef1
          refine ap_goF (f := V.int) st5 (Or.inl z1) nb2 hp1 q3 fun H5 st6 hp2 kp1 => ?_
          obtain rfl := Option.some.inj ef1
          exact hN1 _ _ ⟨B4, _, _, rfl, (ex1.trans s6.b), st6, nb2, hp2⟩
        · have hb := Bool.eq_false_iff.mpr hb
          have ef1 := if_inv_f hb ef1
          refine goT (b := false) (Ans.to (v_tb (v_op (v_var (by rfl)) (v_cb1 (v_var (by rfl)) (v_lenL (Or.inl (Or.inl (Or.inl hp1))) (by simp))) v_eqI)) hb) ?_
          refine if_f rfl ?_
          refine q_if ?_
          obtain ⟨x_1, e_x_1, ef1⟩ := bind_some ef1
          by_cases hb : (decide (x_1 ≠ x1.2)) = true
          · have ef1 := if_inv_t hb ef1
            refine goT (b := true) (Ans.to (v_tb (v_op (v_op (v_var (by rfl)) (v_var (by rfl)) (v_ixL (Or.inl (Or.inl hp1)) (atI_map e_x_1))) (v_var (by rfl)) v_neI)) hb) ?_
            refine if_t rfl ?_
            refine q_ret ?_
            refine go (v := V.non) v_c ?_
            obtain rfl := Option.some.inj ef1
            rw [hN1] at e
            replace e := fin_rt e
            obtain rfl := Option.some.inj e
            exact q _ _ _ st5 rfl
          · have hb := Bool.eq_false_iff.mpr hb
            have ef1 := if_inv_f hb ef1
            refine goT (b := false) (Ans.to (v_tb (v_op (v_op (v_var (by rfl)) (v_var (by rfl)) (v_ixL (Or.inl (Or.inl hp1)) (atI_map e_x_1))) (v_var (by rfl)) v_neI)) hb) ?_
            refine if_f rfl ?_
            refine q_next ?_
            obtain rfl := Option.some.inj ef1
            exact hN1 _ _ ⟨B4, _, _, rfl, (ex1.trans s6.b), st5, nb2, hp1⟩
      ·
        rintro s7 _ H6 hz1 ⟨B5, y3, y4, rfl, ex2, st7, nb3, hp3⟩
        replace hp3 : H6 p1 = some (.lst (s7.map V.int)) := hp3
        have hB_self1 := ex2 _ _ hB_self1
        have hB_self2 := ex2 _ _ hB_self2
        have hB_other1 := ex2 _ _ hB_other1
        have hB_other2 := ex2 _ _ hB_other2
        rw [hz1] at e
        replace e := fin_nx e
        refine q_ret ?_
        refine q_cbR ?_
        refine q_cons ?_
        refine go (v := (V.ref p1)) (v_var (by rfl)) ?_
        refine q_nil ?_
        refine rc_tup (Or.inl (Or.inl hp3)) ?_
        refine al_giv st7.c fun p2 np2 B6 H7 s8 hB2 => ?_
        have hB_self1 := s8.b _ _ hB_self1
        have hB_self2 := s8.b _ _ hB_self2
        have hB_other1 := s8.b _ _ hB_other1
        have hB_other2 := s8.b _ _ hB_other2
        have nb3 := s8.out nb3 hp3
        have hp3 := s8.h _ _ List.not_mem_nil hp3
        have st8 := st7.t0 s8
        obtain rfl := Option.some.inj e
        exact q _ _ _ st8 (⟨nofun, ⟨p2, _, rfl, hB2, all2I _⟩⟩)
end K79
/-! walk -/
namespace K79
open PySem PySem.Spec PyProof.Rows L2 Wk RZ ClX
def sp_Shape_is_freer (K : PySem.W.Frag) : Sp := fun vs H Q _ => ∃ (B : Hp) (v_self : V) (x_self : (List Int)) (v_other : V) (x_other : (List Int)) (r : Bool), Ex B H ∧ vs = [v_self, v_other] ∧ (rO1 K "Shape" "numbers" (rH rI)) B v_self x_self ∧ (rO1 K "Shape" "numbers" (rH rI)) B v_other x_other ∧ m_Shape_is_freer x_self x_other = some r ∧ ∀ v B' H', Stp [] B H B' H' → rB B' v r → Q v H'
theorem ok_Shape_is_freer {P : Program} {w : World} {K : PySem.W.Frag} {mg : Str → Option Value} {base : Heap} (E : Tx K mg) : OkA P w K mg base CX0 5 (He.ma K (He.ga K "Shape") "is_freer") ["self", "other"] (sp_Shape_is_freer K) := by
  obtain ⟨fd, F⟩ := E.def_ 36 (d := d_Shape_is_freer) rfl
  replace F : FunD K "is_freer" "Shape.is_freer" (defArgs s_Shape_is_freer) (defBody s_Shape_is_freer) (defScope s_Shape_is_freer) [] [] (He.ma K (He.ga K "Shape") "is_freer") fd := F
  obtain ⟨fd_Shape_map_to, G_Shape_map_to, b_Shape_map_to, kp_Shape_map_to⟩ := ok_Shape_map_to (P := P) (w := w) (base := base) E
  have cl_Shape := He.cls_ok (x := "Shape") (E.fact 54)
  have mt_Shape_map_to := He.meth_ok (x := "Shape") (m := "map_to") (E.fact 59)
  refine ⟨fd, F.ok sc_Shape_is_freer (fun vs H Q E h => ?_) (fun cdv A outer s H0 vs Q X hr h => ?_), F.bindsN fun _ _ _ _ _ _ us hl => match us, hl with | [_, _], _ => rfl, F.kp⟩
  · obtain ⟨_, _, _, _, _, _, _, rfl, _⟩ := h; rfl
  ·
    obtain ⟨B0, v_self, x_self, v_other, x_other, r, c0, rfl, h_self, h_other, e, q⟩ := h
    obtain ⟨a_self1, dx1, w_self1, rfl, hB_self1, h_self1⟩ := h_self
    obtain ⟨a_self2, vs_self1, rfl, hB_self2, hA_self1⟩ := h_self1
    obtain rfl := all2_I hA_self1
    obtain ⟨a_other1, dx2, w_other1, rfl, hB_other1, h_other1⟩ := h_other
    obtain ⟨a_other2, vs_other1, rfl, hB_other2, hA_other1⟩ := h_other1
    obtain rfl := all2_I hA_other1
    have st0 : Stp [] B0 H0 B0 H0 := Stp.refl c0
    unfold m_Shape_is_freer at e
    refine ⟨_, PSs.nox ((pss_one (ps_ret (pe_cmpR op_notN (pe_meth (pv 0) cl_Shape mt_Shape_map_to G_Shape_map_to (hr.mono (by decide)) b_Shape_map_to .nil pass0 (pa_cons (pv 1) pa_nil)) pe_non (nomark _))))), ?_⟩
    refine q_st (σ' := [some (V.ref a_self1), some (V.ref a_other1)]) rfl ?_
    refine q_ret ?_
    refine q_opR ?_
    refine q_meth ?_
    refine go (v := (V.ref a_self1)) (v_var (by rfl)) ?_
    refine ⟨_, _, _, rfl, (st0.c _ _ hB_self1), rfl, ?_⟩
    refine q_cons ?_
    refine go (v := (V.ref a_other1)) (v_var (by rfl)) ?_
    refine q_nil ?_
    obtain ⟨r_1, e_r_1, e⟩ := bind_some e
    refine ⟨B0, (V.ref a_self1), x_self, (V.ref a_other1), x_other, r_1, st0.c, rfl, ⟨a_self1, _, _, rfl, hB_self1, ⟨a_self2, _, rfl, hB_self2, all2I _⟩⟩, ⟨a_other1, _, _, rfl, hB_other1, ⟨a_other2, _, rfl, hB_other2, all2I _⟩⟩, e_r_1, ?_⟩
    intro v1 B1 H1 s1 h1
    have hB_self1 := s1.b _ _ hB_self1
    have hB_self2 := s1.b _ _ hB_self2
    have hB_other1 := s1.b _ _ hB_other1
    have hB_other2 := s1.b _ _ hB_other2
    have st1 := st0.t0 s1
    refine go (v := V.non) v_c ?_
    refine r2_of (v_notN h1) ?_
    obtain rfl := Option.some.inj e
    exact q _ _ _ st1 rfl
end K79
/-! walk -/
namespace K79
open PySem PySem.Spec PyProof.Rows L2 Wk RZ ClX
def sp_l_led (K : PySem.W.Frag) : Sp := fun vs H Q _ => ∃ (B : Hp) (x_word : (List Nat)) (v_table : V) (x_table : (List ((List Nat) × (List Nat)))) (r : Bool), Ex B H ∧ vs = [(tS x_word), v_table] ∧ (rD kS tS) B v_table x_table ∧ m_l_led x_word x_table = some r ∧ ∀ v B' H', Stp [] B H B' H' → rB B' v r → Q v H'
theorem ok_l_led {P : Program} {w : World} {K : PySem.W.Frag} {mg : Str → Option Value} {base : Heap} (E : Tx K mg) : Ok P w K mg base CX0 7 "_law_led" ["word", "table"] (sp_l_led K) := by
  obtain ⟨fd, F⟩ := E.def_ 42 (d := d_l_led) rfl
  replace F : FunD K "_law_led" "_law_led" (defArgs s_l_led) (defBody s_l_led) (defScope s_l_led) [] [] (He.ga K "_law_led") fd := F
  obtain ⟨fd_Shape_of_word, G_Shape_of_word, b_Shape_of_word, kp_Shape_of_word⟩ := ok_Shape_of_word (P := P) (w := w) (base := base) E
  obtain ⟨fd_Shape_led, G_Shape_led, b_Shape_led, kp_Shape_led⟩ := ok_Shape_led (P := P) (w := w) (base := base) E
  obtain ⟨fd_l_put, G_l_put, b_l_put, kp_l_put, m_l_put⟩ := ok_l_put (P := P) (w := w) (base := base) E
  obtain ⟨fd_Shape_is_freer, G_Shape_is_freer, b_Shape_is_freer, kp_Shape_is_freer⟩ := ok_Shape_is_freer (P := P) (w := w) (base := base) E
  obtain ⟨fd_Shape_map_to, G_Shape_map_to, b_Shape_map_to, kp_Shape_map_to⟩ := ok_Shape_map_to (P := P) (w := w) (base := base) E
  obtain ⟨fd_l_ints, G_l_ints, b_l_ints, kp_l_ints, m_l_ints⟩ := ok_l_ints (P := P) (w := w) (base := base) E
  have mgc_Shape := E.glo 56 (x := "Shape")
  have cr_Shape := crB_ok (exE E 1)
  have sm_Shape_of_word := smB_ok (exE E 2)
  have cl_Shape := He.cls_ok (x := "Shape") (E.fact 54)
  have mt_Shape_led := He.meth_ok (x := "Shape") (m := "led") (E.fact 60)
  have mt_Shape_is_freer := He.meth_ok (x := "Shape") (m := "is_freer") (E.fact 61)
  have mt_Shape_map_to := He.meth_ok (x := "Shape") (m := "map_to") (E.fact 59)
  have g_tuple : mg "tuple" = none := E.free 50
  have g_isinstance : mg "isinstance" = none := E.free 48
  have g_list : mg "list" = none := E.free 47
  refine ⟨fd, F.ok sc_l_led (fun vs H Q E h => ?_) (fun cdv A outer s H0 vs Q X hr h => ?_), F.bindsN fun _ _ _ _ _ _ us hl => match us, hl with | [_, _], _ => rfl, F.kp, E.glo 37⟩
  · obtain ⟨_, _, _, _, _, _, rfl, _⟩ := h; rfl
  ·
    obtain ⟨B0, x_word, v_table, x_table, r, c0, rfl, h_table, e, q⟩ := h
    obtain ⟨a_table1, rfl, hB_table1⟩ := h_table
    have st0 : Stp [] B0 H0 B0 H0 := Stp.refl c0
    unfold m_l_led at e
    refine ⟨_, PSs.nox ((pss_cons (ps_set (i := 2) sc_l_led.nd rfl (by first | exact Or.inl rfl | exact Or.inr rfl) (pe_lst pa_nil)) (pss_cons (ps_for PassesOwn.never rfl (pi_str (pv 0)) (pg_name (i := 3) sc_l_led.nd rfl (by first | exact Or.inl rfl | exact Or.inr rfl)) (pss_one (ps_if (pt_cmpR op_notIn_seq (pv 3) (pv 2) (by rfl)) (pss_one (ps_expr (pe_bm PySem.F.plainAttrs_list PySem.F.slot_list_append PySem.F.type_list_append mt_append (pv 2) (pa_cons (pv 3) pa_nil)))) pss_nil))) (pss_cons (ps_set (i := 4) sc_l_led.nd rfl (by first | exact Or.inl rfl | exact Or.inr rfl) (pe_join pe_str (pe_lc (own := [("letter", 3)]) (by rfl) sc_l_led.nd (pi_list (pv 2)) (blkOk_by (own := [("letter", 3)]) (N := ["word", "table", "kinds", "letter", "letters", "shape", "whole", "seen", "due", "told"]) (sc := defScope s_l_led) (by decide +kernel)) (fun _ _ _ _ _ => (pg_name (i := 3) sc_l_led.nd rfl (by first | exact Or.inl rfl | exact Or.inr rfl))) (fun _ _ _ _ _ => pts_nil) (fun _ _ _ _ _ => (pe_dget (hu_of hr) (pv 1) (pv 3) (fun _ _ => rfl)))))) (pss_cons (ps_set (i := 5) sc_l_led.nd rfl (by first | exact Or.inl rfl | exact Or.inr rfl) (pe_smeth (pe_glob (v := .ref (He.ga K "Shape")) (by rfl) mgc_Shape rfl) cr_Shape sm_Shape_of_word G_Shape_of_word (hr.mono (by decide)) kp_Shape_of_word b_Shape_of_word .nil pass0 (pa_cons (pv 0) pa_nil))) (pss_cons (ps_if (pt_cmpR op_ne (pe_meth (pv 5) cl_Shape mt_Shape_led G_Shape_led (hr.mono (by decide)) b_Shape_led .nil pass0 (pa_cons (pv 4) pa_nil)) (pe_call G_l_put (hr.mono (by decide)) (by rfl) m_l_put kp_l_put b_l_put .nil pass0 (pa_cons (pv 0) (pa_cons (pv 1) pa_nil))) (nomark _)) (pss_one (ps_ret pe_bl)) pss_nil) (pss_cons (ps_set (i := 6) sc_l_led.nd rfl (by first | exact Or.inl rfl | exact Or.inr rfl) (pe_smeth (pe_glob (v := .ref (He.ga K "Shape")) (by rfl) mgc_Shape rfl) cr_Shape sm_Shape_of_word G_Shape_of_word (hr.mono (by decide)) kp_Shape_of_word b_Shape_of_word .nil pass0 (pa_cons (pe_call G_l_put (hr.mono (by decide)) (by rfl) m_l_put kp_l_put b_l_put .nil pass0 (pa_cons (pv 0) (pa_cons (pv 1) pa_nil))) pa_nil))) (pss_cons (ps_set (i := 7) sc_l_led.nd rfl (by first | exact Or.inl rfl | exact Or.inr rfl) (pe_lst pa_nil)) (pss_cons (ps_set (i := 8) sc_l_led.nd rfl (by first | exact Or.inl rfl | exact Or.inr rfl) (pe_lst pa_nil)) (pss_cons (ps_for PassesOwn.never rfl (pi_str (pv 4)) (pg_name (i := 3) sc_l_led.nd rfl (by first | exact Or.inl rfl | exact Or.inr rfl)) (Evl.pss_cut (ps_if (pt_cmpR op_notIn_seq (pv 3) (pv 7) (by rfl)) (pss_one (ps_expr (pe_bm PySem.F.plainAttrs_list PySem.F.slot_list_append PySem.F.type_list_append mt_append (pv 7) (pa_cons (pv 3) pa_nil)))) pss_nil) (pss_one (ps_expr (pe_bm PySem.F.plainAttrs_list PySem.F.slot_list_append PySem.F.type_list_append mt_append (pv 8) (pa_cons (pe_bm PySem.F.plainAttrs_list PySem.F.slot_list_index PySem.F.type_list_index mt_index (pv 7) (pa_cons (pv 3) pa_nil)) pa_nil)))))) (pss_cons (ps_if (pt_cmpR op_notBl (pe_meth (pv 5) cl_Shape mt_Shape_is_freer G_Shape_is_freer (hr.mono (by decide)) b_Shape_is_freer .nil pass0 (pa_cons (pv 6) pa_nil)) pe_bl (nomark _)) (pss_one (ps_ret pe_bl)) pss_nil) (pss_cons (ps_set (i := 9) sc_l_led.nd rfl (by first | exact Or.inl rfl | exact Or.inr rfl) (pe_meth (pv 5) cl_Shape mt_Shape_map_to G_Shape_map_to (hr.mono (by decide)) b_Shape_map_to .nil pass0 (pa_cons (pv 6) pa_nil))) (pss_one (ps_ret (pe_and (pe_callB call_isi (by rfl) g_isinstance (by decide +kernel) (pa_cons (pv 9) (pa_cons (pe_bltn (v := .ty "tuple") (by rfl) g_tuple (by decide +kernel) rfl) pa_nil))) (pe_one (pe_call G_l_ints (hr.mono (by decide)) (by rfl) m_l_ints kp_l_ints b_l_ints .nil pass0 (pa_cons (pe_callTy call_list_of (by rfl) g_list (by decide +kernel) (pa_cons (pv 9) pa_nil)) (pa_cons (pv 8) pa_nil))))))))))))))))))), ?_⟩
    refine q_st (σ' := [some (tS x_word), some (V.ref a_table1), none, none, none, none, none, none, none, none]) rfl ?_
    refine q_seq ?_
    refine q_set ?_
    refine q_lst ?_
    refine q_nil ?_
    refine ⟨by show _ ≤ 16777216; simp, ?_⟩
    refine al_own st0.c fun p1 np1 H1 s1 hB1 nb1 => ?_
    have z1 := st0.g _ np1
    have st1 := st0.t0 s1
    replace hB1 : H1 p1 = some (.lst (([] : (List (List Nat))).map tS)) := hB1
    refine q_nx (σ' := [some (tS x_word), some (V.ref a_table1), some (V.ref p1), none, none, none, none, none, none, none]) rfl ?_
    refine q_seq ?_
    refine q_for ?_
    refine q_its ?_
    refine go (v := (tS x_word)) (v_var (by rfl)) ?_
    refine ⟨_, rfl, ?_⟩
    obtain ⟨r_1, er1, e⟩ := bind_some e
    refine for_N (Inv := fun (s : (List (List Nat))) σ H => ∃ (B : Hp) (y_letter : Option V), σ = [some (tS x_word), some (V.ref a_table1), some (V.ref p1), y_letter, none, none, none, none, none, none] ∧ Ex B0 B ∧ Stp [] B0 H0 B H ∧ B p1 = none ∧ H p1 = some (.lst (s.map tS))) er1 ?_ ?_ ?_ ?_ ?_
    · exact ⟨B0, _, rfl, (Ex.refl B0), st1, nb1, hB1⟩
    · exact str_st
    · exact str_go
    ·
      rintro i1 x1 c_kinds1 t1 _ H2 hx1 ⟨B1, y1, rfl, ex1, st2, nb2, hp1⟩ ef1 v1 Hy1 hy1 N1 hN1
      replace hp1 : H2 p1 = some (.lst (c_kinds1.map tS)) := hp1
      have hB_table1 := ex1 _ _ hB_table1
      change l_led_b0  x1 c_kinds1 = some t1 at ef1
      unfold l_led_b0 at ef1
      obtain ⟨rfl, rfl⟩ := str_yld hy1 hx1
      refine q_gname ?_
      refine q_st (σ' := [some (tS x_word), some (V.ref a_table1), some (V.ref p1), some (tS [x1]), none, none, none, none, none, none]) rfl ?_
      refine q_if ?_
      by_cases hb : (!c_kinds1.contains [x1]) = true
      · have ef1 := if_inv_t hb ef1
        refine goT (b := true) (Ans.to (v_tb (v_op (v_var (by rfl)) (v_var (by rfl)) (v_ninS (Or.inl (Or.inl (Or.inl hp1)))))) hb) ?_
        refine if_t rfl ?_
        refine q_drop ?_
        refine q_bm ?_
        refine go (v := (V.ref p1)) (v_var (by rfl)) ?_
        refine ⟨tyL (Or.inl (Or.inl hp1)), ?_⟩
        refine q_cons ?_
        refine go (v := (tS [x1])) (v_var (by rfl)) ?_
        refine q_nil ?_
        obtain ⟨q1, ef1⟩ := ask_some ef1
        refine ap_goF (f := tS) st2 (Or.inl z1) nb2 hp1 q1 fun H3 st3 hp2 kp1 => ?_
        obtain rfl := Option.some.inj ef1
        exact hN1 _ _ ⟨B1, _, rfl, ex1, st3, nb2, hp2⟩
      · have hb := Bool.eq_false_iff.mpr hb
        have ef1 := if_inv_f hb ef1
        refine goT (b := false) (Ans.to (v_tb (v_op (v_var (by rfl)) (v_var (by rfl)) (v_ninS (Or.inl (Or.inl (Or.inl hp1)))))) hb) ?_
        refine if_f rfl ?_
        refine q_next ?_
        obtain rfl := Option.some.inj ef1
        exact hN1 _ _ ⟨B1, _, rfl, ex1, st2, nb2, hp1⟩
    ·
      rintro _ H4 ⟨B2, y2, rfl, ex2, st4, nb3, hp3⟩
      replace hp3 : H4 p1 = some (.lst (r_1.map tS)) := hp3
      have hB_table1 := ex2 _ _ hB_table1
      refine q_seq ?_
      refine q_set ?_
      refine q_m1R ?_
      refine go (v := (tS ([] : List Nat))) v_c ?_
      refine ⟨⟨_, rfl⟩, ?_⟩
      refine q_lc ?_
      refine q_itl ?_
      refine go (v := (V.ref p1)) (v_var (by rfl)) ?_
      obtain ⟨B3, st5, ex3, hB2, out1⟩ := give st4 hp3 z1
      have hB_table1 := ex3 _ _ hB_table1
      refine ⟨_, rfl, ⟨_, (Or.inl (Or.inl (st5.c _ _ hB2)))⟩, ?_⟩
      obtain ⟨q2, e⟩ := ask_some e
      obtain ⟨ys1, ey1, e⟩ := bind_some e
      refine fun D1 nD1 => ?_
      have z2 := st5.g _ nD1
      have nb4 := B_none st5.c nD1
      refine lc_M (Inv := fun (l : (List (List Nat))) H => ∃ (B : Hp), Ex B3 B ∧ Stp [] B0 H0 B H ∧ B D1 = none ∧ H D1 = some (.lst (l.map tS))) ey1 q2 ?_ ?_ ?_ ?_ ?_
      · exact ⟨B3, Ex.refl _, st5.newO nD1, nb4, upd_same⟩
      · refine lcl_st (vs := (r_1.map tS)) ?_ (by simp)
        rintro l H ⟨B, ex, st, _, _⟩
        exact Or.inl (Or.inl (st.c _ _ (ex _ _ hB2)))
      · refine lcl_go (vs := (r_1.map tS)) ?_ (by simp)
        rintro l H ⟨B, ex, st, _, _⟩
        exact Or.inl (Or.inl (st.c _ _ (ex _ _ hB2)))
      ·
        rintro i2 x2 y3 l1 H5 hx2 ⟨B4, ex4, st6, nb5, hD2⟩ hl1 ef2 v2 _ hy2 N2 hN2
        have hB_table1 := ex4 _ _ hB_table1
        have hB2 := ex4 _ _ hB2
        obtain ⟨rfl, hv1⟩ := lst_yld hy2 (Or.inl (Or.inl (st6.c _ _ hB2)))
        obtain rfl := map_at hv1 hx2
        refine q_gname ?_
        refine ⟨rfl, ?_⟩
        refine q_yes (if_t rfl ?_)
        obtain ⟨x_1, e_x_1, ef2⟩ := bind_some ef2
        refine go (v := (tS x_1)) (v_dget (k := x2) (f := tS) (fun _ _ => kS_inj) (v_var (by rfl)) (v_var (by rfl)) (st6.c _ _ hB_table1) e_x_1) ?_
        obtain rfl := Option.some.inj ef2
        refine ⟨_, hD2, (lt_len hx2 hl1 q2 (by simp)), hN2 _ ⟨B4, ex4, st6.mut (Or.inl z2) nb5, nb5, (upd_snoc)⟩⟩
      ·
        rintro H6 ⟨B5, ex5, st7, nb6, hD3⟩
        have hB_table1 := ex5 _ _ hB_table1
        have hB2 := ex5 _ _ hB2
        obtain ⟨B6, st8, ex6, hB3, out2⟩ := give st7 hD3 z2
        have hB_table1 := ex6 _ _ hB_table1
        have hB2 := ex6 _ _ hB2
        obtain ⟨q3, e⟩ := ask_some e
        refine rm_of (v_join (Or.inl (Or.inl (Or.inl (st8.c _ _ hB3)))) q3) ?_
        refine q_nx (σ' := [some (tS x_word), some (V.ref a_table1), some (V.ref p1), y2, some (tS (joinT ([] : List Nat) ys1)), none, none, none, none, none]) rfl ?_
        refine q_seq ?_
        refine q_set ?_
        refine q_call ?_
        refine q_cons ?_
        refine go (v := (tS x_word)) (v_var (by rfl)) ?_
        refine q_nil ?_
        obtain ⟨r_2, e_r_2, e⟩ := bind_some e
        refine ⟨B6, x_word, r_2, st8.c, rfl, e_r_2, ?_⟩
        intro v3 B7 H7 s2 h1
        have hB_table1 := s2.b _ _ hB_table1
        have hB2 := s2.b _ _ hB2
        have st9 := st8.t0 s2
        obtain ⟨a_r1, dx1, w_r1, rfl, hB_r1, h_r1⟩ := h1
        obtain ⟨a_r2, vs_r1, rfl, hB_r2, hA_r1⟩ := h_r1
        obtain rfl := all2_I hA_r1
        refine q_nx (σ' := [some (tS x_word), some (V.ref a_table1), some (V.ref p1), y2, some (tS (joinT ([] : List Nat) ys1)), some (V.ref a_r1), none, none, none, none]) rfl ?_
        refine q_seq ?_
        refine q_if ?_
        refine q_test ?_
        refine q_opR ?_
        refine q_meth ?_
        refine go (v := (V.ref a_r1)) (v_var (by rfl)) ?_
        refine ⟨_, _, _, rfl, (st9.c _ _ hB_r1), rfl, ?_⟩
        refine q_cons ?_
        refine go (v := (tS (joinT ([] : List Nat) ys1))) (v_var (by rfl)) ?_
        refine q_nil ?_
        obtain ⟨r_3, e_r_3, e⟩ := bind_some e
        refine ⟨B7, (V.ref a_r1), r_2, (joinT ([] : List Nat) ys1), r_3, st9.c, rfl, ⟨a_r1, _, _, rfl, hB_r1, ⟨a_r2, _, rfl, hB_r2, all2I _⟩⟩, e_r_3, ?_⟩
        intro v4 B8 H8 s3 h2
        obtain rfl := h2
        have s4 := s3.keepB st9.c (fun _ z => absurd z List.not_mem_nil)
        have st10 := st9.t0 s4
        refine q_call ?_
        refine q_cons ?_
        refine go (v := (tS x_word)) (v_var (by rfl)) ?_
        refine q_cons ?_
        refine go (v := (V.ref a_table1)) (v_var (by rfl)) ?_
        refine q_nil ?_
        obtain ⟨r_4, e_r_4, e⟩ := bind_some e
        refine ⟨B7, x_word, (V.ref a_table1), x_table, r_4, st10.c, rfl, ⟨a_table1, rfl, hB_table1⟩, e_r_4, ?_⟩
        intro v5 B9 H9 s5 h3
        obtain rfl := h3
        have s6 := s5.keepB st10.c (fun _ z => absurd z List.not_mem_nil)
        have st11 := st10.t0 s6
        refine r2_of v_neS ?_
        by_cases hb : (decide (r_3 ≠ r_4)) = true
        · have e := if_inv_t hb e
          refine ⟨true, by rw [hb], ?_⟩
          refine if_t rfl ?_
          refine q_ret ?_
          refine go (v := (V.bl false)) v_c ?_
          obtain rfl := Option.some.inj e
          exact q _ _ _ st11 rfl
        · have hb := Bool.eq_false_iff.mpr hb
          have e := if_inv_f hb e
          refine ⟨false, by rw [hb], ?_⟩
          refine if_f rfl ?_
          refine q_next ?_
          refine q_seq ?_
          refine q_set ?_
          refine q_call ?_
          refine q_cons ?_
          refine q_call ?_
          refine q_cons ?_
          refine go (v := (tS x_word)) (v_var (by rfl)) ?_
          refine q_cons ?_
          refine go (v := (V.ref a_table1)) (v_var (by rfl)) ?_
          refine q_nil ?_
          obtain ⟨r_5, e_r_5, e⟩ := bind_some e
          refine ⟨B7, x_word, (V.ref a_table1), x_table, r_5, st11.c, rfl, ⟨a_table1, rfl, hB_table1⟩, e_r_5, ?_⟩
          intro v6 B10 H10 s7 h4
          obtain rfl := h4
          have s8 := s7.keepB st11.c (fun _ z => absurd z List.not_mem_nil)
          have st12 := st11.t0 s8
          refine q_nil ?_
          obtain ⟨r_6, e_r_6, e⟩ := bind_some e
          refine ⟨B7, r_5, r_6, st12.c, rfl, e_r_6, ?_⟩
          intro v7 B11 H11 s9 h5
          have hB_table1 := s9.b _ _ hB_table1
          have hB2 := s9.b _ _ hB2
          have hB_r1 := s9.b _ _ hB_r1
          have hB_r2 := s9.b _ _ hB_r2
          have st13 := st12.t0 s9
          obtain ⟨a_r3, dx2, w_r2, rfl, hB_r3, h_r2⟩ := h5
          obtain ⟨a_r4, vs_r2, rfl, hB_r4, hA_r2⟩ := h_r2
          obtain rfl := all2_I hA_r2
          refine q_nx (σ' := [some (tS x_word), some (V.ref a_table1), some (V.ref p1), y2, some (tS (joinT ([] : List Nat) ys1)), some (V.ref a_r1), some (V.ref a_r3), none, none, none]) rfl ?_
          refine q_seq ?_
          refine q_set ?_
          refine q_lst ?_
          refine q_nil ?_
          refine ⟨by show _ ≤ 16777216; simp, ?_⟩
          refine al_own st13.c fun p2 np2 H12 s10 hB4 nb7 => ?_
          have z3 := st13.g _ np2
          have st14 := st13.t0 s10
          replace hB4 : H12 p2 = some (.lst (([] : (List (List Nat))).map tS)) := hB4
          refine q_nx (σ' := [some (tS x_word), some (V.ref a_table1), some (V.ref p1), y2, some (tS (joinT ([] : List Nat) ys1)), some (V.ref a_r1), some (V.ref a_r3), some (V.ref p2), none, none]) rfl ?_
          refine q_seq ?_
          refine q_set ?_
          refine q_lst ?_
          refine q_nil ?_
          refine ⟨by show _ ≤ 16777216; simp, ?_⟩
          refine al_own st14.c fun p3 np3 H13 s11 hB5 nb8 => ?_
          have z4 := st14.g _ np3
          have ne1 : p2 ≠ p3 := ne_none hB4 np3
          have hB4 := s11.h _ _ List.not_mem_nil hB4
          have st15 := st14.t0 s11
          replace hB5 : H13 p3 = some (.lst (([] : (List Int)).map V.int)) := hB5
          refine q_nx (σ' := [some (tS x_word), some (V.ref a_table1), some (V.ref p1), y2, some (tS (joinT ([] : List Nat) ys1)), some (V.ref a_r1), some (V.ref a_r3), some (V.ref p2), some (V.ref p3), none]) rfl ?_
          refine q_seq ?_
          refine q_for ?_
          refine q_its ?_
          refine go (v := (tS (joinT ([] : List Nat) ys1))) (v_var (by rfl)) ?_
          refine ⟨_, rfl, ?_⟩
          obtain ⟨r_7, er2, e⟩ := bind_some e
          refine for_N (Inv := fun (s : ((List (List Nat)) × (List Int))) σ H => ∃ (B : Hp) (y_letter : Option V), σ = [some (tS x_word), some (V.ref a_table1), some (V.ref p1), y_letter, some (tS (joinT ([] : List Nat) ys1)), some (V.ref a_r1), some (V.ref a_r3), some (V.ref p2), some (V.ref p3), none] ∧ Ex B11 B ∧ Stp [] B0 H0 B H ∧ B p2 = none ∧ H p2 = some (.lst (s.1.map tS)) ∧ B p3 = none ∧ H p3 = some (.lst (s.2.map V.int))) er2 ?_ ?_ ?_ ?_ ?_
          · exact ⟨B11, _, rfl, (Ex.refl B11), st15, nb7, hB4, nb8, hB5⟩
          · exact str_st
          · exact str_go
          ·
            rintro i3 x3 ⟨c_seen1, c_due1⟩ t2 _ H14 hx3 ⟨B12, y4, rfl, ex7, st16, nb9, hp4, nb10, hp5⟩ ef3 v8 Hy2 hy3 N3 hN3
            replace hp4 : H14 p2 = some (.lst (c_seen1.map tS)) := hp4
            replace hp5 : H14 p3 = some (.lst (c_due1.map V.int)) := hp5
            have hB_table1 := ex7 _ _ hB_table1
            have hB2 := ex7 _ _ hB2
            have hB_r1 := ex7 _ _ hB_r1
            have hB_r2 := ex7 _ _ hB_r2
            have hB_r3 := ex7 _ _ hB_r3
            have hB_r4 := ex7 _ _ hB_r4
            change l_led_b1  x3 c_seen1 c_due1 = some t2 at ef3
            unfold l_led_b1 at ef3
            obtain ⟨rfl, rfl⟩ := str_yld hy3 hx3
            refine q_gname ?_
            refine q_st (σ' := [some (tS x_word), some (V.ref a_table1), some (V.ref p1), some (tS [x3]), some (tS (joinT ([] : List Nat) ys1)), some (V.ref a_r1), some (V.ref a_r3), some (V.ref p2), some (V.ref p3), none]) rfl ?_
            obtain ⟨j_1, ej1, ef3⟩ := bind_some ef3
            refine q_cut (Mid := MidP fun σ H => ∃ (B : Hp), σ = [some (tS x_word), some (V.ref a_table1), some (V.ref p1), some (tS [x3]), some (tS (joinT ([] : List Nat) ys1)), some (V.ref a_r1), some (V.ref a_r3), some (V.ref p2), some (V.ref p3), none] ∧ Ex B12 B ∧ Stp [] B0 H0 B H ∧ B p2 = none ∧ H p2 = some (.lst (j_1.map tS)) ∧ B p3 = none ∧ H p3 = some (.lst (c_due1.map V.int))) ?_ ?_
            ·
              refine q_if ?_
              by_cases hb : (!c_seen1.contains [x3]) = true
              · have ej1 := if_inv_t hb ej1
                refine goT (b := true) (Ans.to (v_tb (v_op (v_var (by rfl)) (v_var (by rfl)) (v_ninS (Or.inl (Or.inl (Or.inl hp4)))))) hb) ?_
                refine if_t rfl ?_
                refine q_drop ?_
                refine q_bm ?_
                refine go (v := (V.ref p2)) (v_var (by rfl)) ?_
                refine ⟨tyL (Or.inl (Or.inl hp4)), ?_⟩
                refine q_cons ?_
                refine go (v := (tS [x3])) (v_var (by rfl)) ?_
                refine q_nil ?_
                obtain ⟨q4, ej1⟩ := ask_some ej1
                refine ap_goF (f := tS) st16 (Or.inl z3) nb9 hp4 q4 fun H15 st17 hp6 kp2 => ?_
                have hp5 := kp2 _ _ (Ne.symm ne1) hp5
                obtain rfl := Option.some.inj ej1
                exact ⟨B12, rfl, (Ex.refl B12), st17, nb9, hp6, nb10, hp5⟩
              · have hb := Bool.eq_false_iff.mpr hb
                have ej1 := if_inv_f hb ej1
                refine goT (b := false) (Ans.to (v_tb (v_op (v_var (by rfl)) (v_var (by rfl)) (v_ninS (Or.inl (Or.inl (Or.inl hp4)))))) hb) ?_
                refine if_f rfl ?_
                refine q_next ?_
                obtain rfl := Option.some.inj ej1
                exact ⟨B12, rfl, (Ex.refl B12), st16, nb9, hp4, nb10, hp5⟩
            ·
              rintro _ H16 ⟨B13, rfl, ex8, st18, nb11, hp7, nb12, hp8⟩
              replace hp7 : H16 p2 = some (.lst (j_1.map tS)) := hp7
              replace hp8 : H16 p3 = some (.lst (c_due1.map V.int)) := hp8
              have hB_table1 := ex8 _ _ hB_table1
              have hB2 := ex8 _ _ hB2
              have hB_r1 := ex8 _ _ hB_r1
              have hB_r2 := ex8 _ _ hB_r2
              have hB_r3 := ex8 _ _ hB_r3
              have hB_r4 := ex8 _ _ hB_r4
              refine q_drop ?_
              refine q_bm ?_
              refine go (v := (V.ref p3)) (v_var (by rfl)) ?_
              refine ⟨tyL (Or.inl (Or.inl hp8)), ?_⟩
              refine q_cons ?_
              refine q_bm ?_
              refine go (v := (V.ref p2)) (v_var (by rfl)) ?_
              refine ⟨tyL (Or.inl (Or.inl hp7)), ?_⟩
              refine q_cons ?_
              refine go (v := (tS [x3])) (v_var (by rfl)) ?_
              refine q_nil ?_
              obtain ⟨j_2, e_j_2, ef3⟩ := bind_some ef3
              refine v_indexS (Or.inl (Or.inl hp7)) e_j_2 _ ?_
              refine q_nil ?_
              obtain ⟨q5, ef3⟩ := ask_some ef3
              refine ap_goF (f := V.int) st18 (Or.inl z4) nb12 hp8 q5 fun H17 st19 hp9 kp3 => ?_
              have hp7 := kp3 _ _ ne1 hp7
              obtain rfl := Option.some.inj ef3
              exact hN3 _ _ ⟨B13, _, rfl, (ex7.trans ex8), st19, nb11, hp7, nb12, hp9⟩
          ·
            rintro _ H18 ⟨B14, y5, rfl, ex9, st20, nb13, hp10, nb14, hp11⟩
            replace hp10 : H18 p2 = some (.lst (r_7.1.map tS)) := hp10
            replace hp11 : H18 p3 = some (.lst (r_7.2.map V.int)) := hp11
            have hB_table1 := ex9 _ _ hB_table1
            have hB2 := ex9 _ _ hB2
            have hB_r1 := ex9 _ _ hB_r1
            have hB_r2 := ex9 _ _ hB_r2
            have hB_r3 := ex9 _ _ hB_r3
            have hB_r4 := ex9 _ _ hB_r4
            refine q_seq ?_
            refine q_if ?_
            refine q_test ?_
            refine q_opR ?_
            refine q_meth ?_
            refine go (v := (V.ref a_r1)) (v_var (by rfl)) ?_
            refine ⟨_, _, _, rfl, (st20.c _ _ hB_r1), rfl, ?_⟩
            refine q_cons ?_
            refine go (v := (V.ref a_r3)) (v_var (by rfl)) ?_
            refine q_nil ?_
            obtain ⟨r_8, e_r_8, e⟩ := bind_some e
            refine ⟨B14, (V.ref a_r1), r_2, (V.ref a_r3), r_6, r_8, st20.c, rfl, ⟨a_r1, _, _, rfl, hB_r1, ⟨a_r2, _, rfl, hB_r2, all2I _⟩⟩, ⟨a_r3, _, _, rfl, hB_r3, ⟨a_r4, _, rfl, hB_r4, all2I _⟩⟩, e_r_8, ?_⟩
            intro v9 B15 H19 s12 h6
            obtain rfl := h6
            have s13 := s12.keepB st20.c (fun _ z => absurd z List.not_mem_nil)
            have hp10 := s13.h _ _ List.not_mem_nil hp10
            have hp11 := s13.h _ _ List.not_mem_nil hp11
            have st21 := st20.t0 s13
            refine go (v := (V.bl true)) v_c ?_
            refine r2_of v_notBl ?_
            by_cases hb : (!(decide (r_8 = true))) = true
            · have e := if_inv_t hb e
              refine ⟨true, by rw [hb], ?_⟩
              refine if_t rfl ?_
              refine q_ret ?_
              refine go (v := (V.bl false)) v_c ?_
              obtain rfl := Option.some.inj e
              exact q _ _ _ st21 rfl
            · have hb := Bool.eq_false_iff.mpr hb
              have e := if_inv_f hb e
              refine ⟨false, by rw [hb], ?_⟩
              refine if_f rfl ?_
              refine q_next ?_
              refine q_seq ?_
              refine q_set ?_
              refine q_meth ?_
              refine go (v := (V.ref a_r1)) (v_var (by rfl)) ?_
              refine ⟨_, _, _, rfl, (st21.c _ _ hB_r1), rfl, ?_⟩
              refine q_cons ?_
              refine go (v := (V.ref a_r3)) (v_var (by rfl)) ?_
              refine q_nil ?_
              obtain ⟨r_9, e_r_9, e⟩ := bind_some e
              refine ⟨B14, (V.ref a_r1), r_2, (V.ref a_r3), r_6, r_9, st21.c, rfl, ⟨a_r1, _, _, rfl, hB_r1, ⟨a_r2, _, rfl, hB_r2, all2I _⟩⟩, ⟨a_r3, _, _, rfl, hB_r3, ⟨a_r4, _, rfl, hB_r4, all2I _⟩⟩, e_r_9, ?_⟩
              intro v10 B16 H20 s14 h7
              have hB_table1 := s14.b _ _ hB_table1
              have hB2 := s14.b _ _ hB2
              have hB_r1 := s14.b _ _ hB_r1
              have hB_r2 := s14.b _ _ hB_r2
              have hB_r3 := s14.b _ _ hB_r3
              have hB_r4 := s14.b _ _ hB_r4
              have nb13 := s14.out nb13 hp10
              have hp10 := s14.h _ _ List.not_mem_nil hp10
              have nb14 := s14.out nb14 hp11
              have hp11 := s14.h _ _ List.not_mem_nil hp11
              have st22 := st21.t0 s14
              rcases oelim_some e with ⟨hy4, e⟩ | ⟨y_1, hy4, e⟩
              ·
                obtain rfl := rQ_none h7 hy4
                refine q_nx (σ' := [some (tS x_word), some (V.ref a_table1), some (V.ref p1), y5, some (tS (joinT ([] : List Nat) ys1)), some (V.ref a_r1), some (V.ref a_r3), some (V.ref p2), some (V.ref p3), some V.non]) rfl ?_
                refine q_ret ?_
                refine q_andV ?_
                refine go (v := (V.bl false)) (v_cb2 (v_var (by rfl)) v_c (v_isi (.ty "tuple") (TyX.base (TyOf.non)) kit_NoneType_tuple)) ?_
                have hb : false = false := rfl
                refine ⟨false, by rw [hb], ?_⟩
                refine if_f rfl ?_
                obtain rfl := Option.some.inj e
                exact q _ _ _ st22 rfl
              ·
                have h8 := rQ_some h7 hy4
                obtain ⟨a_told1, vs_told1, rfl, hB_told1, hA_told1⟩ := h8
                obtain rfl := all2_I hA_told1
                refine q_nx (σ' := [some (tS x_word), some (V.ref a_table1), some (V.ref p1), y5, some (tS (joinT ([] : List Nat) ys1)), some (V.ref a_r1), some (V.ref a_r3), some (V.ref p2), some (V.ref p3), some (V.ref a_told1)]) rfl ?_
                refine q_ret ?_
                refine q_andV ?_
                refine go (v := (V.bl true)) (v_cb2 (v_var (by rfl)) v_c (v_isi (.ty "tuple") (TyX.base (TyOf.tup (st22.c _ _ hB_told1))) kit_tuple_tuple)) ?_
                have hb : true = true := rfl
                refine ⟨true, by rw [hb], ?_⟩
                refine if_t rfl ?_
                refine q_call ?_
                refine q_cons ?_
                refine q_cbR ?_
                refine q_cons ?_
                refine go (v := (V.ref a_told1)) (v_var (by rfl)) ?_
                refine q_nil ?_
                refine rc_list (Or.inr (Or.inl (Or.inl (st22.c _ _ hB_told1)))) ?_
                refine al_giv st22.c fun p4 np4 B17 H21 s15 hB6 => ?_
                have hB_table1 := s15.b _ _ hB_table1
                have hB2 := s15.b _ _ hB2
                have hB_r1 := s15.b _ _ hB_r1
                have hB_r2 := s15.b _ _ hB_r2
                have hB_r3 := s15.b _ _ hB_r3
                have hB_r4 := s15.b _ _ hB_r4
                have nb13 := s15.out nb13 hp10
                have hp10 := s15.h _ _ List.not_mem_nil hp10
                have nb14 := s15.out nb14 hp11
                have hp11 := s15.h _ _ List.not_mem_nil hp11
                have hB_told1 := s15.b _ _ hB_told1
                have st23 := st22.t0 s15
                refine q_cons ?_
                refine go (v := (V.ref p3)) (v_var (by rfl)) ?_
                refine q_nil ?_
                obtain ⟨r_10, e_r_10, e⟩ := bind_some e
                refine ⟨(upd B17 p3 (.lst (r_7.2.map V.int))), (V.ref p4), y_1, (V.ref p3), r_7.2, r_10, (ex_lent st23.c hp11), rfl, (mono (ex_give st23.c hp11) (show (rL rI) B17 (V.ref p4) y_1 from ⟨p4, _, rfl, hB6, all2I _⟩)), ⟨p3, _, rfl, upd_same, all2I _⟩, e_r_10, ?_⟩
                intro v11 B18 H22 s16 h9
                obtain rfl := h9
                have s17 := s16.keepB st23.c (fun _ z => absurd z List.not_mem_nil)
                have hp10 := s17.h _ _ List.not_mem_nil hp10
                have hp11 := s17.h _ _ List.not_mem_nil hp11
                have st24 := st23.t0 s17
                obtain rfl := Option.some.inj e
                exact q _ _ _ st24 rfl
end K79
/-! walk -/
namespace K79
open PySem PySem.Spec PyProof.Rows L2 Wk RZ ClX
def sp_l_within (K : PySem.W.Frag) : Sp := fun vs H Q _ => ∃ (B : Hp) (v_first : V) (x_first : (List (Int × Int × Int))) (v_second : V) (x_second : (List (Int × Int × Int))) (r : Bool), Ex B H ∧ vs = [v_first, v_second] ∧ (rL (rT3 rI rI rI)) B v_first x_first ∧ (rL (rT3 rI rI rI)) B v_second x_second ∧ m_l_within x_first x_second = some r ∧ ∀ v B' H', Stp [] B H B' H' → rB B' v r → Q v H'
theorem ok_l_within {P : Program} {w : World} {K : PySem.W.Frag} {mg : Str → Option Value} {base : Heap} (E : Tx K mg) : Ok P w K mg base CX0 1 "_law_within" ["first", "second"] (sp_l_within K) := by
  obtain ⟨fd, F⟩ := E.def_ 39 (d := d_l_within) rfl
  replace F : FunD K "_law_within" "_law_within" (defArgs s_l_within) (defBody s_l_within) (defScope s_l_within) [] [] (He.ga K "_law_within") fd := F
  have g_int : mg "int" = none := E.free 45
  have g_len : mg "len" = none := E.free 41
  refine ⟨fd, F.ok sc_l_within (fun vs H Q E h => ?_) (fun cdv A outer s H0 vs Q X hr h => ?_), F.bindsN fun _ _ _ _ _ _ us hl => match us, hl with | [_, _], _ => rfl, F.kp, E.glo 34⟩
  · obtain ⟨_, _, _, _, _, _, _, rfl, _⟩ := h; rfl
  ·
    obtain ⟨B0, v_first, x_first, v_second, x_second, r, c0, rfl, h_first, h_second, e, q⟩ := h
    obtain ⟨a_first1, vs_first1, rfl, hB_first1, hA_first1⟩ := h_first
    obtain ⟨a_second1, vs_second1, rfl, hB_second1, hA_second1⟩ := h_second
    have st0 : Stp [] B0 H0 B0 H0 := Stp.refl c0
    unfold m_l_within at e
    refine ⟨_, PSs.nox ((pss_cons (ps_for PassesOwn.never rfl (pi_list (pv 0)) (pg_name (i := 2) sc_l_within.nd rfl (by first | exact Or.inl rfl | exact Or.inr rfl)) (pss_cons (ps_set (i := 3) sc_l_within.nd rfl (by first | exact Or.inl rfl | exact Or.inr rfl) (pe_lst pa_nil)) (pss_cons (ps_for PassesOwn.never rfl (pi_list (pv 1)) (pg_name (i := 4) sc_l_within.nd rfl (by first | exact Or.inl rfl | exact Or.inr rfl)) (pss_one (ps_if (PW.pt (pw_and (pt_cmpR op_le (pe_ix ix_tup (pv 4) pe_int (fun _ _ => rfl)) (pe_ix ix_tup (pv 2) pe_int (fun _ _ => rfl)) (nomark _)) (pw_and1 (pt_cmpR op_le (pe_ix ix_tup (pv 2) pe_int (fun _ _ => rfl)) (pe_ix ix_tup (pv 4) pe_int (fun _ _ => rfl)) (nomark _))))) (pss_one (ps_if (pt_cmpR op_eq (pe_op op_mod (pe_callTy call_int1 (by rfl) g_int (by decide +kernel) (pa_cons (pe_ix ix_tup (pv 2) pe_int (fun _ _ => rfl)) pa_nil)) (pe_ix ix_tup (pv 4) pe_int (fun _ _ => rfl))) pe_int (nomark _)) (pss_one (ps_expr (pe_bm PySem.F.plainAttrs_list PySem.F.slot_list_append PySem.F.type_list_append mt_append (pv 3) (pa_cons (pv 4) pa_nil)))) pss_nil)) pss_nil))) (pss_one (ps_if (pt_cmpR op_ne (pe_callB call_len_seq (by rfl) g_len PySem.boot_len (pa_cons (pv 3) pa_nil)) pe_int (nomark _)) (pss_one (ps_ret pe_bl)) pss_nil))))) (pss_one (ps_ret pe_bl)))), ?_⟩
    refine q_st (σ' := [some (V.ref a_first1), some (V.ref a_second1), none, none, none]) rfl ?_
    refine q_seq ?_
    refine q_for ?_
    refine q_itl ?_
    refine go (v := (V.ref a_first1)) (v_var (by rfl)) ?_
    refine ⟨_, rfl, ⟨_, (Or.inl (Or.inl (st0.c _ _ hB_first1)))⟩, ?_⟩
    obtain ⟨r_1, er1, e⟩ := bind_some e
    refine for_R (Inv := fun (s : Unit) σ H => ∃ (B : Hp) (y_one : Option V) (y_homes : Option V) (y_run : Option V), σ = [some (V.ref a_first1), some (V.ref a_second1), y_one, y_homes, y_run] ∧ Ex B0 B ∧ Stp [] B0 H0 B H) er1 ?_ ?_ ?_ ?_ ?_
    · exact ⟨B0, _, _, _, rfl, (Ex.refl B0), st0⟩
    · refine lst_st (vs := vs_first1) ?_ hA_first1.length
      rintro s σ H ⟨B, _, _, _, rfl, ex, st⟩
      exact Or.inl (Or.inl (st.c _ _ (ex _ _ hB_first1)))
    · refine lst_go (vs := vs_first1) ?_ hA_first1.length
      rintro s σ H ⟨B, _, _, _, rfl, ex, st⟩
      exact Or.inl (Or.inl (st.c _ _ (ex _ _ hB_first1)))
    ·
      rintro i1 x1 _ t1 _ H1 hx1 ⟨B1, y1, y2, y3, rfl, ex1, st1⟩ ef1 v1 Hy1 hy1 N1 _ hN1
      have hB_first1 := ex1 _ _ hB_first1
      have hA_first1 := hA_first1.imp fun _ _ h => mono ex1 h
      have hB_second1 := ex1 _ _ hB_second1
      have hA_second1 := hA_second1.imp fun _ _ h => mono ex1 h
      change l_within_b0 x_second x1  = some t1 at ef1
      unfold l_within_b0 at ef1
      obtain ⟨rfl, hv1⟩ := lst_yld hy1 (Or.inl (Or.inl (st1.c _ _ hB_first1)))
      have hr1 := hA_first1.get hv1 hx1
      obtain ⟨a_x1, w_x1, w_x2, w_x3, rfl, hB_x1, h_x1, h_x2, h_x3⟩ := hr1
      obtain rfl := h_x1
      obtain rfl := h_x2
      obtain rfl := h_x3
      refine q_gname ?_
      refine q_st (σ' := [some (V.ref a_first1), some (V.ref a_second1), some (V.ref a_x1), y2, y3]) rfl ?_
      refine q_seq ?_
      refine q_set ?_
      refine q_lst ?_
      refine q_nil ?_
      refine ⟨by show _ ≤ 16777216; simp, ?_⟩
      have hA1 : All2 ((rT3 rI rI rI) B1) [] ([] : (List (Int × Int × Int))) := All2.nil
      refine al_own st1.c fun p1 np1 H2 s1 hB1 nb1 => ?_
      have z1 := st1.g _ np1
      have st2 := st1.t0 s1
      refine q_nx (σ' := [some (V.ref a_first1), some (V.ref a_second1), some (V.ref a_x1), some (V.ref p1), y3]) rfl ?_
      refine q_seq ?_
      refine q_for ?_
      refine q_itl ?_
      refine go (v := (V.ref a_second1)) (v_var (by rfl)) ?_
      refine ⟨_, rfl, ⟨_, (Or.inl (Or.inl (st2.c _ _ hB_second1)))⟩, ?_⟩
      obtain ⟨r_2, er2, ef1⟩ := bind_some ef1
      refine for_N (Inv := fun (s : (List (Int × Int × Int))) σ H => ∃ (B : Hp) (y_run : Option V) (vs_homes : List V), σ = [some (V.ref a_first1), some (V.ref a_second1), some (V.ref a_x1), some (V.ref p1), y_run] ∧ Ex B1 B ∧ Stp [] B0 H0 B H ∧ B p1 = none ∧ H p1 = some (.lst vs_homes) ∧ All2 ((rT3 rI rI rI) B) vs_homes s) er2 ?_ ?_ ?_ ?_ ?_
      · exact ⟨B1, _, _, rfl, (Ex.refl B1), st2, nb1, hB1, hA1⟩
      · refine lst_st (vs := vs_second1) ?_ hA_second1.length
        rintro s σ H ⟨B, _, _, rfl, ex, st, _, _, _⟩
        exact Or.inl (Or.inl (st.c _ _ (ex _ _ hB_second1)))
      · refine lst_go (vs := vs_second1) ?_ hA_second1.length
        rintro s σ H ⟨B, _, _, rfl, ex, st, _, _, _⟩
        exact Or.inl (Or.inl (st.c _ _ (ex _ _ hB_second1)))
      ·
        rintro i2 x2 c_homes1 t2 _ H3 hx2 ⟨B2, y4, vs1, rfl, ex2, st3, nb2, hp1, hA2⟩ ef2 v2 Hy2 hy2 N2 hN2
        replace hp1 : H3 p1 = some (.lst vs1) := hp1
        replace hA2 : All2 ((rT3 rI rI rI) B2) vs1 c_homes1 := hA2
        have hB_first1 := ex2 _ _ hB_first1
        have hA_first1 := hA_first1.imp fun _ _ h => mono ex2 h
        have hB_second1 := ex2 _ _ hB_second1
        have hA_second1 := hA_second1.imp fun _ _ h => mono ex2 h
        have hB_x1 := ex2 _ _ hB_x1
        change l_within_b1 x1 x2 c_homes1 = some t2 at ef2
        unfold l_within_b1 at ef2
        obtain ⟨rfl, hv2⟩ := lst_yld hy2 (Or.inl (Or.inl (st3.c _ _ hB_second1)))
        have hr2 := hA_second1.get hv2 hx2
        obtain ⟨a_x2, w_x4, w_x5, w_x6, rfl, hB_x2, h_x4, h_x5, h_x6⟩ := hr2
        obtain rfl := h_x4
        obtain rfl := h_x5
        obtain rfl := h_x6
        refine q_gname ?_
        refine q_st (σ' := [some (V.ref a_first1), some (V.ref a_second1), some (V.ref a_x1), some (V.ref p1), some (V.ref a_x2)]) rfl ?_
        refine q_if ?_
        by_cases hb : ((decide (x2.1 ≤ x1.1)) && (decide (x1.2.1 ≤ x2.2.1))) = true
        · have ef2 := if_inv_t hb ef2
          refine goT (b := true) (Ans.to (v_andT (v_tb (v_op (v_op (v_var (by rfl)) v_c (v_ixT (Or.inl (Or.inl (st3.c _ _ hB_x2))) rfl)) (v_op (v_var (by rfl)) v_c (v_ixT (Or.inl (Or.inl (st3.c _ _ hB_x1))) rfl)) (fun _ q => ⟨_, _, rfl, rfl, q⟩))) (v_tb (v_op (v_op (v_var (by rfl)) v_c (v_ixT (Or.inl (Or.inl (st3.c _ _ hB_x1))) rfl)) (v_op (v_var (by rfl)) v_c (v_ixT (Or.inl (Or.inl (st3.c _ _ hB_x2))) rfl)) (fun _ q => ⟨_, _, rfl, rfl, q⟩)))) hb) ?_
          refine if_t rfl ?_
          refine q_if ?_
          obtain ⟨q1, ef2⟩ := ask_some ef2
          by_cases hb : (decide ((x1.2.2 % x2.2.2) = (0 : Int))) = true
          · have ef2 := if_inv_t hb ef2
            refine goT (b := true) (Ans.to (v_tb (v_op (v_op (v_cb1 (v_op (v_var (by rfl)) v_c (v_ixT (Or.inl (Or.inl (st3.c _ _ hB_x1))) rfl)) v_intI) (v_op (v_var (by rfl)) v_c (v_ixT (Or.inl (Or.inl (st3.c _ _ hB_x2))) rfl)) (fun _ q => ⟨_, _, rfl, rfl, q1, q⟩)) v_c v_eqI)) hb) ?_
            refine if_t rfl ?_
            refine q_drop ?_
            refine q_bm ?_
            refine go (v := (V.ref p1)) (v_var (by rfl)) ?_
            refine ⟨tyL (Or.inl (Or.inl hp1)), ?_⟩
            refine q_cons ?_
            refine go (v := (V.ref a_x2)) (v_var (by rfl)) ?_
            refine q_nil ?_
            obtain ⟨q2, ef2⟩ := ask_some ef2
            have hA3 := hA2.snoc (show (rT3 rI rI rI) B2 (V.ref a_x2) x2 from ⟨a_x2, _, _, _, rfl, hB_x2, rfl, rfl, rfl⟩)
            refine ap_go st3 (Or.inl z1) nb2 hp1 (by rw [hA2.length]; exact q2) fun H4 st4 hp2 kp1 => ?_
            obtain rfl := Option.some.inj ef2
            exact hN2 _ _ ⟨B2, _, _, rfl, ex2, st4, nb2, hp2, hA3⟩
          · have hb := Bool.eq_false_iff.mpr hb
            have ef2 := if_inv_f hb ef2
            refine goT (b := false) (Ans.to (v_tb (v_op (v_op (v_cb1 (v_op (v_var (by rfl)) v_c (v_ixT (Or.inl (Or.inl (st3.c _ _ hB_x1))) rfl)) v_intI) (v_op (v_var (by rfl)) v_c (v_ixT (Or.inl (Or.inl (st3.c _ _ hB_x2))) rfl)) (fun _ q => ⟨_, _, rfl, rfl, q1, q⟩)) v_c v_eqI)) hb) ?_
            refine if_f rfl ?_
            refine q_next ?_
            obtain rfl := Option.some.inj ef2
            exact hN2 _ _ ⟨B2, _, _, rfl, ex2, st3, nb2, hp1, hA2⟩
        · have hb := Bool.eq_false_iff.mpr hb
          have ef2 := if_inv_f hb ef2
          refine goT (b := false) (Ans.to (v_andT (v_tb (v_op (v_op (v_var (by rfl)) v_c (v_ixT (Or.inl (Or.inl (st3.c _ _ hB_x2))) rfl)) (v_op (v_var (by rfl)) v_c (v_ixT (Or.inl (Or.inl (st3.c _ _ hB_x1))) rfl)) (fun _ q => ⟨_, _, rfl, rfl, q⟩))) (v_tb (v_op (v_op (v_var (by rfl)) v_c (v_ixT (Or.inl (Or.inl (st3.c _ _ hB_x1))) rfl)) (v_op (v_var (by rfl)) v_c (v_ixT (Or.inl (Or.inl (st3.c _ _ hB_x2))) rfl)) (fun _ q => ⟨_, _, rfl, rfl, q⟩)))) hb) ?_
          refine if_f rfl ?_
          refine q_next ?_
          obtain rfl := Option.some.inj ef2
          exact hN2 _ _ ⟨B2, _, _, rfl, ex2, st3, nb2, hp1, hA2⟩
      ·
        rintro _ H5 ⟨B3, y5, vs2, rfl, ex3, st5, nb3, hp3, hA4⟩
        replace hp3 : H5 p1 = some (.lst vs2) := hp3
        replace hA4 : All2 ((rT3 rI rI rI) B3) vs2 r_2 := hA4
        have hB_first1 := ex3 _ _ hB_first1
        have hA_first1 := hA_first1.imp fun _ _ h => mono ex3 h
        have hB_second1 := ex3 _ _ hB_second1
        have hA_second1 := hA_second1.imp fun _ _ h => mono ex3 h
        have hB_x1 := ex3 _ _ hB_x1
        refine q_if ?_
        by_cases hb : (decide ((r_2.length : Int) ≠ (1 : Int))) = true
        · have ef1 := if_inv_t hb ef1
          refine goT (b := true) (Ans.to (v_tb (v_op (v_cb1 (v_var (by rfl)) (v_lenL (Or.inl (Or.inl (Or.inl hp3))) hA4.length)) v_c v_neI)) hb) ?_
          refine if_t rfl ?_
          refine q_ret ?_
          refine go (v := (V.bl false)) v_c ?_
          obtain rfl := Option.some.inj ef1
          rw [hN1] at e
          replace e := fin_rt e
          obtain rfl := Option.some.inj e
          exact q _ _ _ st5 rfl
        · have hb := Bool.eq_false_iff.mpr hb
          have ef1 := if_inv_f hb ef1
          refine goT (b := false) (Ans.to (v_tb (v_op (v_cb1 (v_var (by rfl)) (v_lenL (Or.inl (Or.inl (Or.inl hp3))) hA4.length)) v_c v_neI)) hb) ?_
          refine if_f rfl ?_
          refine q_next ?_
          obtain rfl := Option.some.inj ef1
          exact hN1 _ _ ⟨B3, _, _, _, rfl, (ex1.trans ex3), st5⟩
    ·
      rintro s2 _ H6 hz1 ⟨B4, y6, y7, y8, rfl, ex4, st6⟩
      have hB_first1 := ex4 _ _ hB_first1
      have hA_first1 := hA_first1.imp fun _ _ h => mono ex4 h
      have hB_second1 := ex4 _ _ hB_second1
      have hA_second1 := hA_second1.imp fun _ _ h => mono ex4 h
      rw [hz1] at e
      replace e := fin_nx e
      refine q_ret ?_
      refine go (v := (V.bl true)) v_c ?_
      obtain rfl := Option.some.inj e
      exact q _ _ _ st6 rfl
end K79
/-! walk -/
namespace K79
open PySem PySem.Spec PyProof.Rows L2 Wk RZ ClX
def sp_l_stays (K : PySem.W.Frag) : Sp := fun vs H Q _ => ∃ (B : Hp) (x_word : (List Nat)) (x_led : (List Nat)) (r : Bool), Ex B H ∧ vs = [(tS x_word), (tS x_led)] ∧ m_l_stays x_word x_led = some r ∧ ∀ v B' H', Stp [] B H B' H' → rB B' v r → Q v H'
theorem ok_l_stays {P : Program} {w : World} {K : PySem.W.Frag} {mg : Str → Option Value} {base : Heap} (E : Tx K mg) : Ok P w K mg base CX0 6 "_law_stays" ["word", "led"] (sp_l_stays K) := by
  obtain ⟨fd, F⟩ := E.def_ 40 (d := d_l_stays) rfl
  replace F : FunD K "_law_stays" "_law_stays" (defArgs s_l_stays) (defBody s_l_stays) (defScope s_l_stays) [] [] (He.ga K "_law_stays") fd := F
  obtain ⟨fd_periods, G_periods, b_periods, kp_periods, m_periods⟩ := ok_periods (P := P) (w := w) (base := base) E
  obtain ⟨fd_covers, G_covers, b_covers, kp_covers, m_covers⟩ := ok_covers (P := P) (w := w) (base := base) E
  obtain ⟨fd_border_table, G_border_table, b_border_table, kp_border_table, m_border_table⟩ := ok_border_table (P := P) (w := w) (base := base) E
  obtain ⟨fd_prefix_table, G_prefix_table, b_prefix_table, kp_prefix_table, m_prefix_table⟩ := ok_prefix_table (P := P) (w := w) (base := base) E
  obtain ⟨fd_mirror_table, G_mirror_table, b_mirror_table, kp_mirror_table, m_mirror_table⟩ := ok_mirror_table (P := P) (w := w) (base := base) E
  have g_range : mg "range" = none := E.free 42
  have g_len : mg "len" = none := E.free 41
  refine ⟨fd, F.ok sc_l_stays (fun vs H Q E h => ?_) (fun cdv A outer s H0 vs Q X hr h => ?_), F.bindsN fun _ _ _ _ _ _ us hl => match us, hl with | [_, _], _ => rfl, F.kp, E.glo 35⟩
  · obtain ⟨_, _, _, _, _, rfl, _⟩ := h; rfl
  ·
    obtain ⟨B0, x_word, x_led, r, c0, rfl, e, q⟩ := h
    have st0 : Stp [] B0 H0 B0 H0 := Stp.refl c0
    unfold m_l_stays at e
    refine ⟨_, PSs.nox ((pss_cons (ps_set (i := 2) sc_l_stays.nd rfl (by first | exact Or.inl rfl | exact Or.inr rfl) (pe_lst (pa_cons (pe_lst (pa_cons (pe_call G_periods (hr.mono (by decide)) (by rfl) m_periods kp_periods b_periods .nil pass0 (pa_cons (pv 0) pa_nil)) (pa_cons (pe_call G_periods (hr.mono (by decide)) (by rfl) m_periods kp_periods b_periods .nil pass0 (pa_cons (pv 1) pa_nil)) pa_nil))) pa_nil))) (pss_cons (ps_expr (pe_bm PySem.F.plainAttrs_list PySem.F.slot_list_append PySem.F.type_list_append mt_append (pv 2) (pa_cons (pe_lst (pa_cons (pe_call G_covers (hr.mono (by decide)) (by rfl) m_covers kp_covers b_covers .nil pass0 (pa_cons (pv 0) pa_nil)) (pa_cons (pe_call G_covers (hr.mono (by decide)) (by rfl) m_covers kp_covers b_covers .nil pass0 (pa_cons (pv 1) pa_nil)) pa_nil))) pa_nil))) (pss_cons (ps_for PassesOwn.never rfl (pi_list (pv 2)) (pg_name (i := 3) sc_l_stays.nd rfl (by first | exact Or.inl rfl | exact Or.inr rfl)) (pss_one (ps_for PassesOwn.never rfl (pi_list (pe_ix ix_list (pv 3) pe_int (fun _ _ => rfl))) (pg_name (i := 4) sc_l_stays.nd rfl (by first | exact Or.inl rfl | exact Or.inr rfl)) (pss_one (ps_if (pt_cmpR op_notIn_seq (pv 4) (pe_ix ix_list (pv 3) pe_int (fun _ _ => rfl)) (by rfl)) (pss_one (ps_ret pe_bl)) pss_nil))))) (pss_cons (ps_set (i := 2) sc_l_stays.nd rfl (by first | exact Or.inl rfl | exact Or.inr rfl) (pe_lst (pa_cons (pe_lst (pa_cons (pe_call G_border_table (hr.mono (by decide)) (by rfl) m_border_table kp_border_table b_border_table .nil pass0 (pa_cons (pv 0) pa_nil)) (pa_cons (pe_call G_border_table (hr.mono (by decide)) (by rfl) m_border_table kp_border_table b_border_table .nil pass0 (pa_cons (pv 1) pa_nil)) pa_nil))) pa_nil))) (pss_cons (ps_expr (pe_bm PySem.F.plainAttrs_list PySem.F.slot_list_append PySem.F.type_list_append mt_append (pv 2) (pa_cons (pe_lst (pa_cons (pe_call G_prefix_table (hr.mono (by decide)) (by rfl) m_prefix_table kp_prefix_table b_prefix_table .nil pass0 (pa_cons (pv 0) pa_nil)) (pa_cons (pe_call G_prefix_table (hr.mono (by decide)) (by rfl) m_prefix_table kp_prefix_table b_prefix_table .nil pass0 (pa_cons (pv 1) pa_nil)) pa_nil))) pa_nil))) (pss_cons (ps_expr (pe_bm PySem.F.plainAttrs_list PySem.F.slot_list_append PySem.F.type_list_append mt_append (pv 2) (pa_cons (pe_lst (pa_cons (pe_call G_mirror_table (hr.mono (by decide)) (by rfl) m_mirror_table kp_mirror_table b_mirror_table .nil pass0 (pa_cons (pv 0) pa_nil)) (pa_cons (pe_call G_mirror_table (hr.mono (by decide)) (by rfl) m_mirror_table kp_mirror_table b_mirror_table .nil pass0 (pa_cons (pv 1) pa_nil)) pa_nil))) pa_nil))) (pss_cons (ps_for PassesOwn.never rfl (pi_list (pv 2)) (pg_name (i := 3) sc_l_stays.nd rfl (by first | exact Or.inl rfl | exact Or.inr rfl)) (pss_one (ps_for PassesOwn.never rfl (pi_range1 (by rfl) g_range (pa_cons (pe_callB call_len_seq (by rfl) g_len PySem.boot_len (pa_cons (pe_ix ix_list (pv 3) pe_int (fun _ _ => rfl)) pa_nil)) pa_nil)) (pg_name (i := 5) sc_l_stays.nd rfl (by first | exact Or.inl rfl | exact Or.inr rfl)) (pss_one (ps_if (pt_cmpR op_gt (pe_ix ix_list (pe_ix ix_list (pv 3) pe_int (fun _ _ => rfl)) (pv 5) (fun _ _ => rfl)) (pe_ix ix_list (pe_ix ix_list (pv 3) pe_int (fun _ _ => rfl)) (pv 5) (fun _ _ => rfl)) (nomark _)) (pss_one (ps_ret pe_bl)) pss_nil))))) (pss_one (ps_ret pe_bl)))))))))), ?_⟩
    refine q_st (σ' := [some (tS x_word), some (tS x_led), none, none, none, none]) rfl ?_
    refine q_seq ?_
    refine q_set ?_
    refine q_lst ?_
    refine q_cons ?_
    refine q_lst ?_
    refine q_cons ?_
    refine q_call ?_
    refine q_cons ?_
    refine go (v := (tS x_word)) (v_var (by rfl)) ?_
    refine q_nil ?_
    obtain ⟨r_1, e_r_1, e⟩ := bind_some e
    refine ⟨B0, x_word, r_1, st0.c, rfl, e_r_1, ?_⟩
    intro v1 B1 H1 s1 h1
    have st1 := st0.t0 s1
    obtain ⟨a_r1, vs_r1, rfl, hB_r1, hA_r1⟩ := h1
    obtain rfl := all2_I hA_r1
    refine q_cons ?_
    refine q_call ?_
    refine q_cons ?_
    refine go (v := (tS x_led)) (v_var (by rfl)) ?_
    refine q_nil ?_
    obtain ⟨r_2, e_r_2, e⟩ := bind_some e
    refine ⟨B1, x_led, r_2, st1.c, rfl, e_r_2, ?_⟩
    intro v2 B2 H2 s2 h2
    have hB_r1 := s2.b _ _ hB_r1
    have st2 := st1.t0 s2
    obtain ⟨a_r2, vs_r2, rfl, hB_r2, hA_r2⟩ := h2
    obtain rfl := all2_I hA_r2
    refine q_nil ?_
    refine ⟨by show _ ≤ 16777216; simp, ?_⟩
    have hA1 : All2 ((rL rI) B2) [(V.ref a_r1), (V.ref a_r2)] ([r_1, r_2] : (List (List Int))) := (All2.cons ⟨a_r1, _, rfl, hB_r1, all2I _⟩ (All2.cons ⟨a_r2, _, rfl, hB_r2, all2I _⟩ All2.nil))
    refine al_giv st2.c fun p1 np1 B3 H3 s3 hB1 => ?_
    have hB_r1 := s3.b _ _ hB_r1
    have hB_r2 := s3.b _ _ hB_r2
    have st3 := st2.t0 s3
    have hA1 := hA1.imp fun _ _ h => mono s3.b h
    refine q_nil ?_
    refine ⟨by show _ ≤ 16777216; simp, ?_⟩
    have hA2 : All2 ((rL (rL rI)) B3) [(V.ref p1)] ([([r_1, r_2] : (List (List Int)))] : (List (List (List Int)))) := (All2.cons ⟨p1, _, rfl, hB1, hA1⟩ All2.nil)
    refine al_own st3.c fun p2 np2 H4 s4 hB2 nb1 => ?_
    have z1 := st3.g _ np2
    have st4 := st3.t0 s4
    refine q_nx (σ' := [some (tS x_word), some (tS x_led), some (V.ref p2), none, none, none]) rfl ?_
    refine q_seq ?_
    refine q_drop ?_
    refine q_bm ?_
    refine go (v := (V.ref p2)) (v_var (by rfl)) ?_
    refine ⟨tyL (Or.inl (Or.inl hB2)), ?_⟩
    refine q_cons ?_
    refine q_lst ?_
    refine q_cons ?_
    refine q_call ?_
    refine q_cons ?_
    refine go (v := (tS x_word)) (v_var (by rfl)) ?_
    refine q_nil ?_
    obtain ⟨r_3, e_r_3, e⟩ := bind_some e
    refine ⟨B3, x_word, r_3, st4.c, rfl, e_r_3, ?_⟩
    intro v3 B4 H5 s5 h3
    have nb1 := s5.out nb1 hB2
    have hB2 := s5.h _ _ List.not_mem_nil hB2
    have hA2 := hA2.imp fun _ _ h => mono s5.b h
    have st5 := st4.t0 s5
    obtain ⟨a_r3, vs_r3, rfl, hB_r3, hA_r3⟩ := h3
    obtain rfl := all2_I hA_r3
    refine q_cons ?_
    refine q_call ?_
    refine q_cons ?_
    refine go (v := (tS x_led)) (v_var (by rfl)) ?_
    refine q_nil ?_
    obtain ⟨r_4, e_r_4, e⟩ := bind_some e
    refine ⟨B4, x_led, r_4, st5.c, rfl, e_r_4, ?_⟩
    intro v4 B5 H6 s6 h4
    have nb1 := s6.out nb1 hB2
    have hB2 := s6.h _ _ List.not_mem_nil hB2
    have hA2 := hA2.imp fun _ _ h => mono s6.b h
    have hB_r3 := s6.b _ _ hB_r3
    have st6 := st5.t0 s6
    obtain ⟨a_r4, vs_r4, rfl, hB_r4, hA_r4⟩ := h4
    obtain rfl := all2_I hA_r4
    refine q_nil ?_
    refine ⟨by show _ ≤ 16777216; simp, ?_⟩
    have hA3 : All2 ((rL rI) B5) [(V.ref a_r3), (V.ref a_r4)] ([r_3, r_4] : (List (List Int))) := (All2.cons ⟨a_r3, _, rfl, hB_r3, all2I _⟩ (All2.cons ⟨a_r4, _, rfl, hB_r4, all2I _⟩ All2.nil))
    refine al_giv st6.c fun p3 np3 B6 H7 s7 hB3 => ?_
    have nb1 := s7.out nb1 hB2
    have hB2 := s7.h _ _ List.not_mem_nil hB2
    have hA2 := hA2.imp fun _ _ h => mono s7.b h
    have hB_r3 := s7.b _ _ hB_r3
    have hB_r4 := s7.b _ _ hB_r4
    have st7 := st6.t0 s7
    have hA3 := hA3.imp fun _ _ h => mono s7.b h
    refine q_nil ?_
    obtain ⟨q1, e⟩ := ask_some e
    have hA4 := hA2.snoc (show (rL (rL rI)) B6 (V.ref p3) ([r_3, r_4] : (List (List Int))) from ⟨p3, _, rfl, hB3, hA3⟩)
    refine ap_go st7 (Or.inl z1) nb1 hB2 (by rw [hA2.length]; exact q1) fun H8 st8 hp1 kp1 => ?_
    refine q_seq ?_
    refine q_for ?_
    refine q_itl ?_
    refine go (v := (V.ref p2)) (v_var (by rfl)) ?_
    obtain ⟨B7, st9, ex1, hB4, out1⟩ := give st8 hp1 z1
    have hA4 := hA4.imp fun _ _ h => mono ex1 h
    refine ⟨_, rfl, ⟨_, (Or.inl (Or.inl (st9.c _ _ hB4)))⟩, ?_⟩
    obtain ⟨r_5, er1, e⟩ := bind_some e
    refine for_R (Inv := fun (s : Unit) σ H => ∃ (B : Hp) (y_told : Option V) (y_one : Option V), σ = [some (tS x_word), some (tS x_led), some (V.ref p2), y_told, y_one, none] ∧ Ex B7 B ∧ Stp [] B0 H0 B H) er1 ?_ ?_ ?_ ?_ ?_
    · exact ⟨B7, _, _, rfl, (Ex.refl B7), st9⟩
    · refine lst_st (vs := ([(V.ref p1)] ++ [(V.ref p3)])) ?_ hA4.length
      rintro s σ H ⟨B, _, _, rfl, ex, st⟩
      exact Or.inl (Or.inl (st.c _ _ (ex _ _ hB4)))
    · refine lst_go (vs := ([(V.ref p1)] ++ [(V.ref p3)])) ?_ hA4.length
      rintro s σ H ⟨B, _, _, rfl, ex, st⟩
      exact Or.inl (Or.inl (st.c _ _ (ex _ _ hB4)))
    ·
      rintro i1 x1 _ t1 _ H9 hx1 ⟨B8, y1, y2, rfl, ex2, st10⟩ ef1 v5 Hy1 hy1 N1 _ hN1
      have hB4 := ex2 _ _ hB4
      have hA4 := hA4.imp fun _ _ h => mono ex2 h
      change l_stays_b0  x1  = some t1 at ef1
      unfold l_stays_b0 at ef1
      obtain ⟨rfl, hv1⟩ := lst_yld hy1 (Or.inl (Or.inl (st10.c _ _ hB4)))
      have hr1 := hA4.get hv1 hx1
      obtain ⟨a_x1, vs_x1, rfl, hB_x1, hA_x1⟩ := hr1
      refine q_gname ?_
      refine q_st (σ' := [some (tS x_word), some (tS x_led), some (V.ref p2), some (V.ref a_x1), y2, none]) rfl ?_
      refine q_for ?_
      refine q_itl ?_
      obtain ⟨x_1, e_x_1, ef1⟩ := bind_some ef1
      obtain ⟨w1, hw1, kw1⟩ := all2_at hA_x1 e_x_1
      obtain ⟨a_x2, vs_x2, rfl, hB_x2, hA_x2⟩ := hw1
      obtain rfl := all2_I hA_x2
      refine go (v := (V.ref a_x2)) (v_op (v_var (by rfl)) v_c (v_ixL (Or.inl (Or.inl (st10.c _ _ hB_x1))) kw1)) ?_
      refine ⟨_, rfl, ⟨_, (Or.inl (Or.inl (st10.c _ _ hB_x2)))⟩, ?_⟩
      obtain ⟨r_6, er2, ef1⟩ := bind_some ef1
      refine for_R (Inv := fun (s : Unit) σ H => ∃ (B : Hp) (y_one : Option V), σ = [some (tS x_word), some (tS x_led), some (V.ref p2), some (V.ref a_x1), y_one, none] ∧ Ex B8 B ∧ Stp [] B0 H0 B H) er2 ?_ ?_ ?_ ?_ ?_
      · exact ⟨B8, _, rfl, (Ex.refl B8), st10⟩
      · refine lst_st (vs := (x_1.map V.int)) ?_ (by simp)
        rintro s σ H ⟨B, _, rfl, ex, st⟩
        exact Or.inl (Or.inl (st.c _ _ (ex _ _ hB_x2)))
      · refine lst_go (vs := (x_1.map V.int)) ?_ (by simp)
        rintro s σ H ⟨B, _, rfl, ex, st⟩
        exact Or.inl (Or.inl (st.c _ _ (ex _ _ hB_x2)))
      ·
        rintro i2 x2 _ t2 _ H10 hx2 ⟨B9, y3, rfl, ex3, st11⟩ ef2 v6 Hy2 hy2 N2 _ hN2
        have hB4 := ex3 _ _ hB4
        have hA4 := hA4.imp fun _ _ h => mono ex3 h
        have hB_x1 := ex3 _ _ hB_x1
        have hA_x1 := hA_x1.imp fun _ _ h => mono ex3 h
        have hB_x2 := ex3 _ _ hB_x2
        change l_stays_b1 x1 x2  = some t2 at ef2
        unfold l_stays_b1 at ef2
        obtain ⟨rfl, hv2⟩ := lst_yld hy2 (Or.inl (Or.inl (st11.c _ _ hB_x2)))
        obtain rfl := map_at hv2 hx2
        refine q_gname ?_
        refine q_st (σ' := [some (tS x_word), some (tS x_led), some (V.ref p2), some (V.ref a_x1), some (V.int x2), none]) rfl ?_
        refine q_if ?_
        obtain ⟨x_2, e_x_2, ef2⟩ := bind_some ef2
        obtain ⟨w2, hw2, kw2⟩ := all2_at hA_x1 e_x_2
        obtain ⟨a_x3, vs_x3, rfl, hB_x3, hA_x3⟩ := hw2
        obtain rfl := all2_I hA_x3
        by_cases hb : (!x_2.contains x2) = true
        · have ef2 := if_inv_t hb ef2
          refine goT (b := true) (Ans.to (v_tb (v_op (v_var (by rfl)) (v_op (v_var (by rfl)) v_c (v_ixL (Or.inl (Or.inl (st11.c _ _ hB_x1))) kw2)) (v_ninI (Or.inl (Or.inl (Or.inl (st11.c _ _ hB_x3))))))) hb) ?_
          refine if_t rfl ?_
          refine q_ret ?_
          refine go (v := (V.bl false)) v_c ?_
          obtain rfl := Option.some.inj ef2
          rw [hN2] at ef1
          replace ef1 := fin_rt ef1
          obtain rfl := Option.some.inj ef1
          rw [hN1] at e
          replace e := fin_rt e
          obtain rfl := Option.some.inj e
          exact q _ _ _ st11 rfl
        · have hb := Bool.eq_false_iff.mpr hb
          have ef2 := if_inv_f hb ef2
          refine goT (b := false) (Ans.to (v_tb (v_op (v_var (by rfl)) (v_op (v_var (by rfl)) v_c (v_ixL (Or.inl (Or.inl (st11.c _ _ hB_x1))) kw2)) (v_ninI (Or.inl (Or.inl (Or.inl (st11.c _ _ hB_x3))))))) hb) ?_
          refine if_f rfl ?_
          refine q_next ?_
          obtain rfl := Option.some.inj ef2
          exact hN2 _ _ ⟨B9, _, rfl, ex3, st11⟩
      ·
        rintro s8 _ H11 hz1 ⟨B10, y4, rfl, ex4, st12⟩
        have hB4 := ex4 _ _ hB4
        have hA4 := hA4.imp fun _ _ h => mono ex4 h
        have hB_x1 := ex4 _ _ hB_x1
        have hA_x1 := hA_x1.imp fun _ _ h => mono ex4 h
        have hB_x2 := ex4 _ _ hB_x2
        rw [hz1] at ef1
        replace ef1 := fin_nx ef1
        obtain rfl := Option.some.inj ef1
        exact hN1 _ _ ⟨B10, _, _, rfl, (ex2.trans ex4), st12⟩
    ·
      rintro s9 _ H12 hz2 ⟨B11, y5, y6, rfl, ex5, st13⟩
      have hB4 := ex5 _ _ hB4
      have hA4 := hA4.imp fun _ _ h => mono ex5 h
      rw [hz2] at e
      replace e := fin_nx e
      refine q_seq ?_
      refine q_set ?_
      refine q_lst ?_
      refine q_cons ?_
      refine q_lst ?_
      refine q_cons ?_
      refine q_call ?_
      refine q_cons ?_
      refine go (v := (tS x_word)) (v_var (by rfl)) ?_
      refine q_nil ?_
      obtain ⟨r_7, e_r_7, e⟩ := bind_some e
      refine ⟨B11, x_word, r_7, st13.c, rfl, e_r_7, ?_⟩
      intro v7 B12 H13 s10 h5
      have hB4 := s10.b _ _ hB4
      have hA4 := hA4.imp fun _ _ h => mono s10.b h
      have st14 := st13.t0 s10
      obtain ⟨a_r5, vs_r5, rfl, hB_r5, hA_r5⟩ := h5
      obtain rfl := all2_I hA_r5
      refine q_cons ?_
      refine q_call ?_
      refine q_cons ?_
      refine go (v := (tS x_led)) (v_var (by rfl)) ?_
      refine q_nil ?_
      obtain ⟨r_8, e_r_8, e⟩ := bind_some e
      refine ⟨B12, x_led, r_8, st14.c, rfl, e_r_8, ?_⟩
      intro v8 B13 H14 s11 h6
      have hB4 := s11.b _ _ hB4
      have hA4 := hA4.imp fun _ _ h => mono s11.b h
      have hB_r5 := s11.b _ _ hB_r5
      have st15 := st14.t0 s11
      obtain ⟨a_r6, vs_r6, rfl, hB_r6, hA_r6⟩ := h6
      obtain rfl := all2_I hA_r6
      refine q_nil ?_
      refine ⟨by show _ ≤ 16777216; simp, ?_⟩
      have hA5 : All2 ((rL rI) B13) [(V.ref a_r5), (V.ref a_r6)] ([r_7, r_8] : (List (List Int))) := (All2.cons ⟨a_r5, _, rfl, hB_r5, all2I _⟩ (All2.cons ⟨a_r6, _, rfl, hB_r6, all2I _⟩ All2.nil))
      refine al_giv st15.c fun p4 np4 B14 H15 s12 hB5 => ?_
      have hB4 := s12.b _ _ hB4
      have hA4 := hA4.imp fun _ _ h => mono s12.b h
      have hB_r5 := s12.b _ _ hB_r5
      have hB_r6 := s12.b _ _ hB_r6
      have st16 := st15.t0 s12
      have hA5 := hA5.imp fun _ _ h => mono s12.b h
      refine q_nil ?_
      refine ⟨by show _ ≤ 16777216; simp, ?_⟩
      have hA6 : All2 ((rL (rL rI)) B14) [(V.ref p4)] ([([r_7, r_8] : (List (List Int)))] : (List (List (List Int)))) := (All2.cons ⟨p4, _, rfl, hB5, hA5⟩ All2.nil)
      refine al_own st16.c fun p5 np5 H16 s13 hB6 nb2 => ?_
      have z2 := st16.g _ np5
      have st17 := st16.t0 s13
      refine q_nx (σ' := [some (tS x_word), some (tS x_led), some (V.ref p5), y5, y6, none]) rfl ?_
      refine q_seq ?_
      refine q_drop ?_
      refine q_bm ?_
      refine go (v := (V.ref p5)) (v_var (by rfl)) ?_
      refine ⟨tyL (Or.inl (Or.inl hB6)), ?_⟩
      refine q_cons ?_
      refine q_lst ?_
      refine q_cons ?_
      refine q_call ?_
      refine q_cons ?_
      refine go (v := (tS x_word)) (v_var (by rfl)) ?_
      refine q_nil ?_
      obtain ⟨r_9, e_r_9, e⟩ := bind_some e
      refine ⟨B14, x_word, r_9, st17.c, rfl, e_r_9, ?_⟩
      intro v9 B15 H17 s14 h7
      have nb2 := s14.out nb2 hB6
      have hB6 := s14.h _ _ List.not_mem_nil hB6
      have hA6 := hA6.imp fun _ _ h => mono s14.b h
      have hB4 := s14.b _ _ hB4
      have hA4 := hA4.imp fun _ _ h => mono s14.b h
      have st18 := st17.t0 s14
      obtain ⟨a_r7, vs_r7, rfl, hB_r7, hA_r7⟩ := h7
      obtain rfl := all2_I hA_r7
      refine q_cons ?_
      refine q_call ?_
      refine q_cons ?_
      refine go (v := (tS x_led)) (v_var (by rfl)) ?_
      refine q_nil ?_
      obtain ⟨r_10, e_r_10, e⟩ := bind_some e
      refine ⟨B15, x_led, r_10, st18.c, rfl, e_r_10, ?_⟩
      intro v10 B16 H18 s15 h8
      have nb2 := s15.out nb2 hB6
      have hB6 := s15.h _ _ List.not_mem_nil hB6
      have hA6 := hA6.imp fun _ _ h => mono s15.b h
      have hB4 := s15.b _ _ hB4
      have hA4 := hA4.imp fun _ _ h => mono s15.b h
      have hB_r7 := s15.b _ _ hB_r7
      have st19 := st18.t0 s15
      obtain ⟨a_r8, vs_r8, rfl, hB_r8, hA_r8⟩ := h8
      obtain rfl := all2_I hA_r8
      refine q_nil ?_
      refine ⟨by show _ ≤ 16777216; simp, ?_⟩
      have hA7 : All2 ((rL rI) B16) [(V.ref a_r7), (V.ref a_r8)] ([r_9, r_10] : (List (List Int))) := (All2.cons ⟨a_r7, _, rfl, hB_r7, all2I _⟩ (All2.cons ⟨a_r8, _, rfl, hB_r8, all2I _⟩ All2.nil))
      refine al_giv st19.c fun p6 np6 B17 H19 s16 hB7 => ?_
      have nb2 := s16.out nb2 hB6
      have hB6 := s16.h _ _ List.not_mem_nil hB6
      have hA6 := hA6.imp fun _ _ h => mono s16.b h
      have hB4 := s16.b _ _ hB4
      have hA4 := hA4.imp fun _ _ h => mono s16.b h
      have hB_r7 := s16.b _ _ hB_r7
      have hB_r8 := s16.b _ _ hB_r8
      have st20 := st19.t0 s16
      have hA7 := hA7.imp fun _ _ h => mono s16.b h
      refine q_nil ?_
      obtain ⟨q2, e⟩ := ask_some e
      have hA8 := hA6.snoc (show (rL (rL rI)) B17 (V.ref p6) ([r_9, r_10] : (List (List Int))) from ⟨p6, _, rfl, hB7, hA7⟩)
      refine ap_go st20 (Or.inl z2) nb2 hB6 (by rw [hA6.length]; exact q2) fun H20 st21 hp2 kp2 => ?_
      refine q_seq ?_
      refine q_drop ?_
      refine q_bm ?_
      refine go (v := (V.ref p5)) (v_var (by rfl)) ?_
      refine ⟨tyL (Or.inl (Or.inl hp2)), ?_⟩
      refine q_cons ?_
      refine q_lst ?_
      refine q_cons ?_
      refine q_call ?_
      refine q_cons ?_
      refine go (v := (tS x_word)) (v_var (by rfl)) ?_
      refine q_nil ?_
      obtain ⟨r_11, e_r_11, e⟩ := bind_some e
      refine ⟨B17, x_word, r_11, st21.c, rfl, e_r_11, ?_⟩
      intro v11 B18 H21 s17 h9
      have nb2 := s17.out nb2 hp2
      have hp2 := s17.h _ _ List.not_mem_nil hp2
      have hA8 := hA8.imp fun _ _ h => mono s17.b h
      have hB4 := s17.b _ _ hB4
      have hA4 := hA4.imp fun _ _ h => mono s17.b h
      have st22 := st21.t0 s17
      obtain ⟨a_r9, vs_r9, rfl, hB_r9, hA_r9⟩ := h9
      obtain rfl := all2_I hA_r9
      refine q_cons ?_
      refine q_call ?_
      refine q_cons ?_
      refine go (v := (tS x_led)) (v_var (by rfl)) ?_
      refine q_nil ?_
      obtain ⟨r_12, e_r_12, e⟩ := bind_some e
      refine ⟨B18, x_led, r_12, st22.c, rfl, e_r_12, ?_⟩
      intro v12 B19 H22 s18 h10
      have nb2 := s18.out nb2 hp2
      have hp2 := s18.h _ _ List.not_mem_nil hp2
      have hA8 := hA8.imp fun _ _ h => mono s18.b h
      have hB4 := s18.b _ _ hB4
      have hA4 := hA4.imp fun _ _ h => mono s18.b h
      have hB_r9 := s18.b _ _ hB_r9
      have st23 := st22.t0 s18
      obtain ⟨a_r10, vs_r10, rfl, hB_r10, hA_r10⟩ := h10
      obtain rfl := all2_I hA_r10
      refine q_nil ?_
      refine ⟨by show _ ≤ 16777216; simp, ?_⟩
      have hA9 : All2 ((rL rI) B19) [(V.ref a_r9), (V.ref a_r10)] ([r_11, r_12] : (List (List Int))) := (All2.cons ⟨a_r9, _, rfl, hB_r9, all2I _⟩ (All2.cons ⟨a_r10, _, rfl, hB_r10, all2I _⟩ All2.nil))
      refine al_giv st23.c fun p7 np7 B20 H23 s19 hB8 => ?_
      have nb2 := s19.out nb2 hp2
      have hp2 := s19.h _ _ List.not_mem_nil hp2
      have hA8 := hA8.imp fun _ _ h => mono s19.b h
      have hB4 := s19.b _ _ hB4
      have hA4 := hA4.imp fun _ _ h => mono s19.b h
      have hB_r9 := s19.b _ _ hB_r9
      have hB_r10 := s19.b _ _ hB_r10
      have st24 := st23.t0 s19
      have hA9 := hA9.imp fun _ _ h => mono s19.b h
      refine q_nil ?_
      obtain ⟨q3, e⟩ := ask_some e
      have hA10 := hA8.snoc (show (rL (rL rI)) B20 (V.ref p7) ([r_11, r_12] : (List (List Int))) from ⟨p7, _, rfl, hB8, hA9⟩)
      refine ap_go st24 (Or.inl z2) nb2 hp2 (by rw [hA8.length]; exact q3) fun H24 st25 hp3 kp3 => ?_
      refine q_seq ?_
      refine q_for ?_
      refine q_itl ?_
      refine go (v := (V.ref p5)) (v_var (by rfl)) ?_
      obtain ⟨B21, st26, ex6, hB9, out2⟩ := give st25 hp3 z2
      have hB4 := ex6 _ _ hB4
      have hA4 := hA4.imp fun _ _ h => mono ex6 h
      have hA10 := hA10.imp fun _ _ h => mono ex6 h
      refine ⟨_, rfl, ⟨_, (Or.inl (Or.inl (st26.c _ _ hB9)))⟩, ?_⟩
      obtain ⟨r_13, er3, e⟩ := bind_some e
      refine for_R (Inv := fun (s : Unit) σ H => ∃ (B : Hp) (y_told : Option V) (y_k : Option V), σ = [some (tS x_word), some (tS x_led), some (V.ref p5), y_told, y6, y_k] ∧ Ex B21 B ∧ Stp [] B0 H0 B H) er3 ?_ ?_ ?_ ?_ ?_
      · exact ⟨B21, _, _, rfl, (Ex.refl B21), st26⟩
      · refine lst_st (vs := (([(V.ref p4)] ++ [(V.ref p6)]) ++ [(V.ref p7)])) ?_ hA10.length
        rintro s σ H ⟨B, _, _, rfl, ex, st⟩
        exact Or.inl (Or.inl (st.c _ _ (ex _ _ hB9)))
      · refine lst_go (vs := (([(V.ref p4)] ++ [(V.ref p6)]) ++ [(V.ref p7)])) ?_ hA10.length
        rintro s σ H ⟨B, _, _, rfl, ex, st⟩
        exact Or.inl (Or.inl (st.c _ _ (ex _ _ hB9)))
      ·
        rintro i3 x3 _ t3 _ H25 hx3 ⟨B22, y7, y8, rfl, ex7, st27⟩ ef3 v13 Hy3 hy3 N3 _ hN3
        have hB9 := ex7 _ _ hB9
        have hA10 := hA10.imp fun _ _ h => mono ex7 h
        have hB4 := ex7 _ _ hB4
        have hA4 := hA4.imp fun _ _ h => mono ex7 h
        change l_stays_b2  x3  = some t3 at ef3
        unfold l_stays_b2 at ef3
        obtain ⟨rfl, hv3⟩ := lst_yld hy3 (Or.inl (Or.inl (st27.c _ _ hB9)))
        have hr2 := hA10.get hv3 hx3
        obtain ⟨a_x4, vs_x4, rfl, hB_x4, hA_x4⟩ := hr2
        refine q_gname ?_
        refine q_st (σ' := [some (tS x_word), some (tS x_led), some (V.ref p5), some (V.ref a_x4), y6, y8]) rfl ?_
        refine q_for ?_
        refine q_rng1 ?_
        refine q_cons ?_
        obtain ⟨x_3, e_x_3, ef3⟩ := bind_some ef3
        obtain ⟨w3, hw3, kw3⟩ := all2_at hA_x4 e_x_3
        obtain ⟨a_x5, vs_x5, rfl, hB_x5, hA_x5⟩ := hw3
        obtain rfl := all2_I hA_x5
        refine go (v := (V.int (x_3.length : Int))) (v_cb1 (v_op (v_var (by rfl)) v_c (v_ixL (Or.inl (Or.inl (st27.c _ _ hB_x4))) kw3)) (v_lenL (Or.inl (Or.inl (Or.inl (st27.c _ _ hB_x5)))) (by simp))) ?_
        refine q_nil ?_
        obtain ⟨q4, ef3⟩ := ask_some ef3
        refine ⟨_, rfl, q4.1, q4.2, ?_⟩
        obtain ⟨r_14, er4, ef3⟩ := bind_some ef3
        refine for_R (Inv := fun (s : Unit) σ H => ∃ (B : Hp) (y_k : Option V), σ = [some (tS x_word), some (tS x_led), some (V.ref p5), some (V.ref a_x4), y6, y_k] ∧ Ex B22 B ∧ Stp [] B0 H0 B H) er4 ?_ ?_ ?_ ?_ ?_
        · exact ⟨B22, _, rfl, (Ex.refl B22), st27⟩
        · exact rng0_st
        · exact rng0_go
        ·
          rintro i4 x4 _ t4 _ H26 hx4 ⟨B23, y9, rfl, ex8, st28⟩ ef4 v14 Hy4 hy4 N4 _ hN4
          have hB9 := ex8 _ _ hB9
          have hA10 := hA10.imp fun _ _ h => mono ex8 h
          have hB_x4 := ex8 _ _ hB_x4
          have hA_x4 := hA_x4.imp fun _ _ h => mono ex8 h
          have hB4 := ex8 _ _ hB4
          have hA4 := hA4.imp fun _ _ h => mono ex8 h
          have hB_x5 := ex8 _ _ hB_x5
          change l_stays_b3 x3 x4  = some t4 at ef4
          unfold l_stays_b3 at ef4
          obtain ⟨rfl, rfl⟩ := rng0_yld hy4 hx4
          refine q_gname ?_
          refine q_st (σ' := [some (tS x_word), some (tS x_led), some (V.ref p5), some (V.ref a_x4), y6, some (V.int x4)]) rfl ?_
          refine q_if ?_
          obtain ⟨x_4, e_x_4, ef4⟩ := bind_some ef4
          obtain ⟨w4, hw4, kw4⟩ := all2_at hA_x4 e_x_4
          obtain ⟨a_x6, vs_x6, rfl, hB_x6, hA_x6⟩ := hw4
          obtain rfl := all2_I hA_x6
          obtain ⟨x_5, e_x_5, ef4⟩ := bind_some ef4
          obtain ⟨x_6, e_x_6, ef4⟩ := bind_some ef4
          obtain ⟨w5, hw5, kw5⟩ := all2_at hA_x4 e_x_6
          obtain ⟨a_x7, vs_x7, rfl, hB_x7, hA_x7⟩ := hw5
          obtain rfl := all2_I hA_x7
          obtain ⟨x_7, e_x_7, ef4⟩ := bind_some ef4
          by_cases hb : (decide (x_5 > x_7)) = true
          · have ef4 := if_inv_t hb ef4
            refine goT (b := true) (Ans.to (v_tb (v_op (v_op (v_op (v_var (by rfl)) v_c (v_ixL (Or.inl (Or.inl (st28.c _ _ hB_x4))) kw4)) (v_var (by rfl)) (v_ixL (Or.inl (Or.inl (st28.c _ _ hB_x6))) (atI_map e_x_5))) (v_op (v_op (v_var (by rfl)) v_c (v_ixL (Or.inl (Or.inl (st28.c _ _ hB_x4))) kw5)) (v_var (by rfl)) (v_ixL (Or.inl (Or.inl (st28.c _ _ hB_x7))) (atI_map e_x_7))) (fun _ q => ⟨_, _, rfl, rfl, q⟩))) hb) ?_
            refine if_t rfl ?_
            refine q_ret ?_
            refine go (v := (V.bl false)) v_c ?_
            obtain rfl := Option.some.inj ef4
            rw [hN4] at ef3
            replace ef3 := fin_rt ef3
            obtain rfl := Option.some.inj ef3
            rw [hN3] at e
            replace e := fin_rt e
            obtain rfl := Option.some.inj e
            exact q _ _ _ st28 rfl
          · have hb := Bool.eq_false_iff.mpr hb
            have ef4 := if_inv_f hb ef4
            refine goT (b := false) (Ans.to (v_tb (v_op (v_op (v_op (v_var (by rfl)) v_c (v_ixL (Or.inl (Or.inl (st28.c _ _ hB_x4))) kw4)) (v_var (by rfl)) (v_ixL (Or.inl (Or.inl (st28.c _ _ hB_x6))) (atI_map e_x_5))) (v_op (v_op (v_var (by rfl)) v_c (v_ixL (Or.inl (Or.inl (st28.c _ _ hB_x4))) kw5)) (v_var (by rfl)) (v_ixL (Or.inl (Or.inl (st28.c _ _ hB_x7))) (atI_map e_x_7))) (fun _ q => ⟨_, _, rfl, rfl, q⟩))) hb) ?_
            refine if_f rfl ?_
            refine q_next ?_
            obtain rfl := Option.some.inj ef4
            exact hN4 _ _ ⟨B23, _, rfl, ex8, st28⟩
        ·
          rintro s20 _ H27 hz3 ⟨B24, y10, rfl, ex9, st29⟩
          have hB9 := ex9 _ _ hB9
          have hA10 := hA10.imp fun _ _ h => mono ex9 h
          have hB_x4 := ex9 _ _ hB_x4
          have hA_x4 := hA_x4.imp fun _ _ h => mono ex9 h
          have hB4 := ex9 _ _ hB4
          have hA4 := hA4.imp fun _ _ h => mono ex9 h
          have hB_x5 := ex9 _ _ hB_x5
          rw [hz3] at ef3
          replace ef3 := fin_nx ef3
          obtain rfl := Option.some.inj ef3
          exact hN3 _ _ ⟨B24, _, _, rfl, (ex7.trans ex9), st29⟩
      ·
        rintro s21 _ H28 hz4 ⟨B25, y11, y12, rfl, ex10, st30⟩
        have hB9 := ex10 _ _ hB9
        have hA10 := hA10.imp fun _ _ h => mono ex10 h
        have hB4 := ex10 _ _ hB4
        have hA4 := hA4.imp fun _ _ h => mono ex10 h
        rw [hz4] at e
        replace e := fin_nx e
        refine q_ret ?_
        refine go (v := (V.bl true)) v_c ?_
        obtain rfl := Option.some.inj e
        exact q _ _ _ st30 rfl
end K79
/-! walk -/
namespace K79
open PySem PySem.Spec PyProof.Rows L2 Wk RZ ClX
def sp_l_right (K : PySem.W.Frag) : Sp := fun vs H Q _ => ∃ (B : Hp) (x_word : (List Nat)) (v_table : V) (x_table : (List ((List Nat) × (List Nat)))) (v_known : V) (x_known : ((List (Int × Int × Int)) × (List (Int × Int)) × (List (Int × Int × Int)))) (r : Bool), Ex B H ∧ vs = [(tS x_word), v_table, v_known] ∧ (rD kS tS) B v_table x_table ∧ (rLT3 (rL (rT3 rI rI rI)) (rL (rT2 rI rI)) (rL (rT3 rI rI rI))) B v_known x_known ∧ m_l_right x_word x_table x_known = some r ∧ ∀ v B' H', Stp [] B H B' H' → rB B' v r → Q v H'
theorem ok_l_right {P : Program} {w : World} {K : PySem.W.Frag} {mg : Str → Option Value} {base : Heap} (E : Tx K mg) : Ok P w K mg base CX0 8 "_law_right" ["word", "table", "known"] (sp_l_right K) := by
  obtain ⟨fd, F⟩ := E.def_ 43 (d := d_l_right) rfl
  replace F : FunD K "_law_right" "_law_right" (defArgs s_l_right) (defBody s_l_right) (defScope s_l_right) [] [] (He.ga K "_law_right") fd := F
  obtain ⟨fd_l_put, G_l_put, b_l_put, kp_l_put, m_l_put⟩ := ok_l_put (P := P) (w := w) (base := base) E
  obtain ⟨fd_l_led, G_l_led, b_l_led, kp_l_led, m_l_led⟩ := ok_l_led (P := P) (w := w) (base := base) E
  obtain ⟨fd_l_known, G_l_known, b_l_known, kp_l_known, m_l_known⟩ := ok_l_known (P := P) (w := w) (base := base) E
  obtain ⟨fd_l_within, G_l_within, b_l_within, kp_l_within, m_l_within⟩ := ok_l_within (P := P) (w := w) (base := base) E
  obtain ⟨fd_l_stays, G_l_stays, b_l_stays, kp_l_stays, m_l_stays⟩ := ok_l_stays (P := P) (w := w) (base := base) E
  obtain ⟨fd_runs, G_runs, b_runs, kp_runs, m_runs⟩ := ok_runs (P := P) (w := w) (base := base) E
  obtain ⟨fd_l_rowsT, G_l_rowsT, b_l_rowsT, kp_l_rowsT, m_l_rowsT⟩ := ok_l_rowsT (P := P) (w := w) (base := base) E
  refine ⟨fd, F.ok sc_l_right (fun vs H Q E h => ?_) (fun cdv A outer s H0 vs Q X hr h => ?_), F.bindsN fun _ _ _ _ _ _ us hl => match us, hl with | [_, _, _], _ => rfl, F.kp, E.glo 38⟩
  · obtain ⟨_, _, _, _, _, _, _, _, rfl, _⟩ := h; rfl
  ·
    obtain ⟨B0, x_word, v_table, x_table, v_known, x_known, r, c0, rfl, h_table, h_known, e, q⟩ := h
    obtain ⟨a_table1, rfl, hB_table1⟩ := h_table
    obtain ⟨a_known1, w_known1, w_known2, w_known3, rfl, hB_known1, h_known1, h_known2, h_known3⟩ := h_known
    obtain ⟨a_known2, vs_known1, rfl, hB_known2, hA_known1⟩ := h_known1
    obtain ⟨a_known3, vs_known2, rfl, hB_known3, hA_known2⟩ := h_known2
    obtain ⟨a_known4, vs_known3, rfl, hB_known4, hA_known3⟩ := h_known3
    have st0 : Stp [] B0 H0 B0 H0 := Stp.refl c0
    unfold m_l_right at e
    refine ⟨_, PSs.nox ((pss_cons (ps_set (i := 3) sc_l_right.nd rfl (by first | exact Or.inl rfl | exact Or.inr rfl) (pe_call G_l_put (hr.mono (by decide)) (by rfl) m_l_put kp_l_put b_l_put .nil pass0 (pa_cons (pv 0) (pa_cons (pv 1) pa_nil)))) (pss_cons (ps_if (pt_not (pt_val (pe_call G_l_led (hr.mono (by decide)) (by rfl) m_l_led kp_l_led b_l_led .nil pass0 (pa_cons (pv 0) (pa_cons (pv 1) pa_nil))))) (pss_one (ps_ret pe_bl)) pss_nil) (pss_cons (ps_set (i := 4) sc_l_right.nd rfl (by first | exact Or.inl rfl | exact Or.inr rfl) (pe_call G_l_known (hr.mono (by decide)) (by rfl) m_l_known kp_l_known b_l_known .nil pass0 (pa_cons (pv 3) pa_nil))) (pss_cons (ps_if (PW.pt (pw_or (pt_cmpR op_isN (pv 4) pe_non (nomark _)) (pw_or1 (pt_not (pt_val (pe_call G_l_within (hr.mono (by decide)) (by rfl) m_l_within kp_l_within b_l_within .nil pass0 (pa_cons (pe_ix ix_list (pv 2) pe_int (fun _ _ => rfl)) (pa_cons (pe_ix ix_list (pv 4) pe_int (fun _ _ => rfl)) pa_nil)))))))) (pss_one (ps_ret pe_bl)) pss_nil) (pss_cons (ps_for PassesOwn.never rfl (pi_list (pe_ix ix_list (pv 2) pe_int (fun _ _ => rfl))) (pg_name (i := 5) sc_l_right.nd rfl (by first | exact Or.inl rfl | exact Or.inr rfl)) (pss_one (ps_if (pt_cmpR (op_notInD hr.u65) (pv 5) (pe_ix ix_list (pv 4) pe_int (fun _ _ => rfl)) (by rfl)) (pss_one (ps_ret pe_bl)) pss_nil))) (pss_cons (ps_if (pt_not (pt_val (pe_call G_l_stays (hr.mono (by decide)) (by rfl) m_l_stays kp_l_stays b_l_stays .nil pass0 (pa_cons (pv 0) (pa_cons (pv 3) pa_nil))))) (pss_one (ps_ret pe_bl)) pss_nil) (pss_cons (ps_expr (pe_bm PySem.F.plainAttrs_list PySem.F.slot_list_append PySem.F.type_list_append mt_append (pe_ix ix_list (pv 4) pe_int (fun _ _ => rfl)) (pa_cons pe_non pa_nil))) (pss_one (ps_ret (pe_call G_l_rowsT (hr.mono (by decide)) (by rfl) m_l_rowsT kp_l_rowsT b_l_rowsT .nil pass0 (pa_cons (pe_call G_runs (hr.mono (by decide)) (by rfl) m_runs kp_runs b_runs .nil pass0 (pa_cons (pv 3) pa_nil)) (pa_cons (pe_ix ix_list (pv 4) pe_int (fun _ _ => rfl)) pa_nil))))))))))))), ?_⟩
    refine q_st (σ' := [some (tS x_word), some (V.ref a_table1), some (V.ref a_known1), none, none, none]) rfl ?_
    refine q_seq ?_
    refine q_set ?_
    refine q_call ?_
    refine q_cons ?_
    refine go (v := (tS x_word)) (v_var (by rfl)) ?_
    refine q_cons ?_
    refine go (v := (V.ref a_table1)) (v_var (by rfl)) ?_
    refine q_nil ?_
    obtain ⟨r_1, e_r_1, e⟩ := bind_some e
    refine ⟨B0, x_word, (V.ref a_table1), x_table, r_1, st0.c, rfl, ⟨a_table1, rfl, hB_table1⟩, e_r_1, ?_⟩
    intro v1 B1 H1 s1 h1
    obtain rfl := h1
    have s2 := s1.keepB st0.c (fun _ z => absurd z List.not_mem_nil)
    have st1 := st0.t0 s2
    refine q_nx (σ' := [some (tS x_word), some (V.ref a_table1), some (V.ref a_known1), some (tS r_1), none, none]) rfl ?_
    refine q_seq ?_
    refine q_if ?_
    refine q_not ?_
    refine q_tB ?_
    refine q_call ?_
    refine q_cons ?_
    refine go (v := (tS x_word)) (v_var (by rfl)) ?_
    refine q_cons ?_
    refine go (v := (V.ref a_table1)) (v_var (by rfl)) ?_
    refine q_nil ?_
    obtain ⟨r_2, e_r_2, e⟩ := bind_some e
    refine ⟨B0, x_word, (V.ref a_table1), x_table, r_2, st1.c, rfl, ⟨a_table1, rfl, hB_table1⟩, e_r_2, ?_⟩
    intro v2 B2 H2 s3 h2
    obtain rfl := h2
    have s4 := s3.keepB st1.c (fun _ z => absurd z List.not_mem_nil)
    have st2 := st1.t0 s4
    by_cases hb : r_2 = true
    · have e := if_inv_t hb e
      refine ⟨true, by rw [hb], ?_⟩
      refine if_f rfl ?_
      refine q_next ?_
      refine q_seq ?_
      refine q_set ?_
      refine q_call ?_
      refine q_cons ?_
      refine go (v := (tS r_1)) (v_var (by rfl)) ?_
      refine q_nil ?_
      obtain ⟨r_3, e_r_3, e⟩ := bind_some e
      refine ⟨B0, r_1, r_3, st2.c, rfl, e_r_3, ?_⟩
      intro v3 B3 H3 s5 h3
      have hB_table1 := s5.b _ _ hB_table1
      have hB_known1 := s5.b _ _ hB_known1
      have hB_known2 := s5.b _ _ hB_known2
      have hA_known1 := hA_known1.imp fun _ _ h => mono s5.b h
      have hB_known3 := s5.b _ _ hB_known3
      have hA_known2 := hA_known2.imp fun _ _ h => mono s5.b h
      have hB_known4 := s5.b _ _ hB_known4
      have hA_known3 := hA_known3.imp fun _ _ h => mono s5.b h
      have st3 := st2.t0 s5
      rcases oelim_some e with ⟨hy1, e⟩ | ⟨y_1, hy1, e⟩
      ·
        obtain rfl := rKN_none h3 hy1
        refine q_nx (σ' := [some (tS x_word), some (V.ref a_table1), some (V.ref a_known1), some (tS r_1), some V.non, none]) rfl ?_
        refine q_seq ?_
        refine q_if ?_
        refine q_or ?_
        have hb : true = true := rfl
        refine goT (b := true) (Ans.to (v_tb (v_op (v_var (by rfl)) v_c v_isN0)) hb) ?_
        refine if_t rfl ?_
        refine if_t rfl ?_
        refine q_ret ?_
        refine go (v := (V.bl false)) v_c ?_
        obtain rfl := Option.some.inj e
        exact q _ _ _ st3 rfl
      ·
        obtain ⟨a1, p1, ws1, w1, w2, rfl, hB1, hz1, nb1, hp1, hA1, h4, h5⟩ := rKN_some h3 hy1
        have z1 := st2.g _ hz1
        obtain ⟨a_more1, vs_more1, rfl, hB_more1, hA_more1⟩ := h4
        obtain ⟨a_more2, vs_more2, rfl, hB_more2, hA_more2⟩ := h5
        refine q_nx (σ' := [some (tS x_word), some (V.ref a_table1), some (V.ref a_known1), some (tS r_1), some (V.ref a1), none]) rfl ?_
        refine q_seq ?_
        refine q_if ?_
        refine q_or ?_
        have hb : false = false := rfl
        refine goT (b := false) (Ans.to (v_tb (v_op (v_var (by rfl)) v_c v_isN1)) hb) ?_
        refine if_f rfl ?_
        refine q_not ?_
        refine q_tB ?_
        refine q_call ?_
        refine q_cons ?_
        refine go (v := (V.ref a_known2)) (v_op (v_var (by rfl)) v_c (v_ixL (Or.inl (Or.inl (st3.c _ _ hB_known1))) rfl)) ?_
        refine q_cons ?_
        refine go (v := (V.ref p1)) (v_op (v_var (by rfl)) v_c (v_ixL (Or.inl (Or.inl (st3.c _ _ hB1))) rfl)) ?_
        refine q_nil ?_
        obtain ⟨r_4, e_r_4, e⟩ := bind_some e
        refine ⟨(upd B3 p1 (.lst ws1)), (V.ref a_known2), x_known.1, (V.ref p1), y_1.1, r_4, (ex_lent st3.c hp1), rfl, (mono (ex_give st3.c hp1) (show (rL (rT3 rI rI rI)) B3 (V.ref a_known2) x_known.1 from ⟨a_known2, _, rfl, hB_known2, hA_known1⟩)), ⟨p1, _, rfl, upd_same, hA1.imp fun _ _ h => mono (ex_give st3.c hp1) h⟩, e_r_4, ?_⟩
        intro v4 B4 H4 s6 h6
        obtain rfl := h6
        have s7 := s6.keepB st3.c (fun _ z => absurd z List.not_mem_nil)
        have hp1 := s7.h _ _ List.not_mem_nil hp1
        have st4 := st3.t0 s7
        by_cases hb : r_4 = true
        · have e := if_inv_t hb e
          refine ⟨true, by rw [hb], ?_⟩
          refine if_f rfl ?_
          refine q_next ?_
          refine q_seq ?_
          refine q_for ?_
          refine q_itl ?_
          refine go (v := (V.ref a_known3)) (v_op (v_var (by rfl)) v_c (v_ixL (Or.inl (Or.inl (st4.c _ _ hB_known1))) rfl)) ?_
          refine ⟨_, rfl, ⟨_, (Or.inl (Or.inl (st4.c _ _ hB_known3)))⟩, ?_⟩
          obtain ⟨r_5, er1, e⟩ := bind_some e
          refine for_R (Inv := fun (s : Unit) σ H => ∃ (B : Hp) (y_one : Option V) (vs_more_0 : List V), σ = [some (tS x_word), some (V.ref a_table1), some (V.ref a_known1), some (tS r_1), some (V.ref a1), y_one] ∧ Ex B3 B ∧ Stp [] B0 H0 B H ∧ B p1 = none ∧ H p1 = some (.lst vs_more_0) ∧ All2 ((rT3 rI rI rI) B) vs_more_0 y_1.1) er1 ?_ ?_ ?_ ?_ ?_
          · exact ⟨B3, _, _, rfl, (Ex.refl B3), st4, nb1, hp1, hA1⟩
          · refine lst_st (vs := vs_known2) ?_ hA_known2.length
            rintro s σ H ⟨B, _, _, rfl, ex, st, _, _, _⟩
            exact Or.inl (Or.inl (st.c _ _ (ex _ _ hB_known3)))
          · refine lst_go (vs := vs_known2) ?_ hA_known2.length
            rintro s σ H ⟨B, _, _, rfl, ex, st, _, _, _⟩
            exact Or.inl (Or.inl (st.c _ _ (ex _ _ hB_known3)))
          ·
            rintro i1 x1 _ t1 _ H5 hx1 ⟨B5, y1, vs1, rfl, ex1, st5, nb2, hp2, hA2⟩ ef1 v5 Hy1 hy2 N1 _ hN1
            replace hp2 : H5 p1 = some (.lst vs1) := hp2
            replace hA2 : All2 ((rT3 rI rI rI) B5) vs1 y_1.1 := hA2
            have hB_table1 := ex1 _ _ hB_table1
            have hB_known1 := ex1 _ _ hB_known1
            have hB_known2 := ex1 _ _ hB_known2
            have hA_known1 := hA_known1.imp fun _ _ h => mono ex1 h
            have hB_known3 := ex1 _ _ hB_known3
            have hA_known2 := hA_known2.imp fun _ _ h => mono ex1 h
            have hB_known4 := ex1 _ _ hB_known4
            have hA_known3 := hA_known3.imp fun _ _ h => mono ex1 h
            have hB1 := ex1 _ _ hB1
            have hB_more1 := ex1 _ _ hB_more1
            have hA_more1 := hA_more1.imp fun _ _ h => mono ex1 h
            have hB_more2 := ex1 _ _ hB_more2
            have hA_more2 := hA_more2.imp fun _ _ h => mono ex1 h
            change l_right_b0 y_1 x1  = some t1 at ef1
            unfold l_right_b0 at ef1
            obtain ⟨rfl, hv1⟩ := lst_yld hy2 (Or.inl (Or.inl (st5.c _ _ hB_known3)))
            have hr1 := hA_known2.get hv1 hx1
            obtain ⟨a_x1, w_x1, w_x2, rfl, hB_x1, h_x1, h_x2⟩ := hr1
            obtain rfl := h_x1
            obtain rfl := h_x2
            refine q_gname ?_
            refine q_st (σ' := [some (tS x_word), some (V.ref a_table1), some (V.ref a_known1), some (tS r_1), some (V.ref a1), some (V.ref a_x1)]) rfl ?_
            refine q_if ?_
            refine q_test ?_
            refine q_opR ?_
            refine go (v := (V.ref a_x1)) (v_var (by rfl)) ?_
            refine go (v := (V.ref a_more1)) (v_op (v_var (by rfl)) v_c (v_ixL (Or.inl (Or.inl (st5.c _ _ hB1))) rfl)) ?_
            refine r2_of (v_ninD (by decide) (show (rT2 rI rI) B5 (V.ref a_x1) x1 from ⟨a_x1, _, _, rfl, hB_x1, rfl, rfl⟩) st5.c (show (rL (rT2 rI rI)) B5 (V.ref a_more1) y_1.2.1 from ⟨a_more1, _, rfl, hB_more1, hA_more1⟩) st5.c) ?_
            by_cases hb : (!inB x1 y_1.2.1) = true
            · have ef1 := if_inv_t hb ef1
              refine ⟨true, by rw [hb], ?_⟩
              refine if_t rfl ?_
              refine q_ret ?_
              refine go (v := (V.bl false)) v_c ?_
              obtain rfl := Option.some.inj ef1
              rw [hN1] at e
              replace e := fin_rt e
              obtain rfl := Option.some.inj e
              exact q _ _ _ st5 rfl
            · have hb := Bool.eq_false_iff.mpr hb
              have ef1 := if_inv_f hb ef1
              refine ⟨false, by rw [hb], ?_⟩
              refine if_f rfl ?_
              refine q_next ?_
              obtain rfl := Option.some.inj ef1
              exact hN1 _ _ ⟨B5, _, _, rfl, ex1, st5, nb2, hp2, hA2⟩
          ·
            rintro s8 _ H6 hz2 ⟨B6, y2, vs2, rfl, ex2, st6, nb3, hp3, hA3⟩
            replace hp3 : H6 p1 = some (.lst vs2) := hp3
            replace hA3 : All2 ((rT3 rI rI rI) B6) vs2 y_1.1 := hA3
            have hB_table1 := ex2 _ _ hB_table1
            have hB_known1 := ex2 _ _ hB_known1
            have hB_known2 := ex2 _ _ hB_known2
            have hA_known1 := hA_known1.imp fun _ _ h => mono ex2 h
            have hB_known3 := ex2 _ _ hB_known3
            have hA_known2 := hA_known2.imp fun _ _ h => mono ex2 h
            have hB_known4 := ex2 _ _ hB_known4
            have hA_known3 := hA_known3.imp fun _ _ h => mono ex2 h
            have hB1 := ex2 _ _ hB1
            have hB_more1 := ex2 _ _ hB_more1
            have hA_more1 := hA_more1.imp fun _ _ h => mono ex2 h
            have hB_more2 := ex2 _ _ hB_more2
            have hA_more2 := hA_more2.imp fun _ _ h => mono ex2 h
            rw [hz2] at e
            replace e := fin_nx e
            refine q_seq ?_
            refine q_if ?_
            refine q_not ?_
            refine q_tB ?_
            refine q_call ?_
            refine q_cons ?_
            refine go (v := (tS x_word)) (v_var (by rfl)) ?_
            refine q_cons ?_
            refine go (v := (tS r_1)) (v_var (by rfl)) ?_
            refine q_nil ?_
            obtain ⟨r_6, e_r_6, e⟩ := bind_some e
            refine ⟨B6, x_word, r_1, r_6, st6.c, rfl, e_r_6, ?_⟩
            intro v6 B7 H7 s9 h7
            obtain rfl := h7
            have s10 := s9.keepB st6.c (fun _ z => absurd z List.not_mem_nil)
            have hp3 := s10.h _ _ List.not_mem_nil hp3
            have st7 := st6.t0 s10
            by_cases hb : r_6 = true
            · have e := if_inv_t hb e
              refine ⟨true, by rw [hb], ?_⟩
              refine if_f rfl ?_
              refine q_next ?_
              refine q_seq ?_
              refine q_drop ?_
              refine q_bm ?_
              refine go (v := (V.ref p1)) (v_op (v_var (by rfl)) v_c (v_ixL (Or.inl (Or.inl (st7.c _ _ hB1))) rfl)) ?_
              refine ⟨tyL (Or.inl (Or.inl hp3)), ?_⟩
              refine q_cons ?_
              refine go (v := V.non) v_c ?_
              refine q_nil ?_
              obtain ⟨q1, e⟩ := ask_some e
              refine ap_go st7 (Or.inl z1) nb3 hp3 (by rw [hA3.length]; exact q1) fun H8 st8 hp4 kp1 => ?_
              refine q_ret ?_
              refine q_call ?_
              refine q_cons ?_
              refine q_call ?_
              refine q_cons ?_
              refine go (v := (tS r_1)) (v_var (by rfl)) ?_
              refine q_nil ?_
              obtain ⟨r_7, e_r_7, e⟩ := bind_some e
              refine ⟨B6, r_1, r_7, st8.c, rfl, e_r_7, ?_⟩
              intro v7 B8 H9 vs3 s11 hz3 nb4 hB2 hA4
              have z2 := st8.g _ hz3
              have hB_table1 := s11.b _ _ hB_table1
              have hB_known1 := s11.b _ _ hB_known1
              have hB_known2 := s11.b _ _ hB_known2
              have hA_known1 := hA_known1.imp fun _ _ h => mono s11.b h
              have hB_known3 := s11.b _ _ hB_known3
              have hA_known2 := hA_known2.imp fun _ _ h => mono s11.b h
              have hB_known4 := s11.b _ _ hB_known4
              have hA_known3 := hA_known3.imp fun _ _ h => mono s11.b h
              have hB1 := s11.b _ _ hB1
              have hB_more1 := s11.b _ _ hB_more1
              have hA_more1 := hA_more1.imp fun _ _ h => mono s11.b h
              have hB_more2 := s11.b _ _ hB_more2
              have hA_more2 := hA_more2.imp fun _ _ h => mono s11.b h
              have st9 := st8.t0 s11
              obtain ⟨B9, st10, ex3, hB3, out1⟩ := give st9 hB2 z2
              have hB_table1 := ex3 _ _ hB_table1
              have hB_known1 := ex3 _ _ hB_known1
              have hB_known2 := ex3 _ _ hB_known2
              have hA_known1 := hA_known1.imp fun _ _ h => mono ex3 h
              have hB_known3 := ex3 _ _ hB_known3
              have hA_known2 := hA_known2.imp fun _ _ h => mono ex3 h
              have hB_known4 := ex3 _ _ hB_known4
              have hA_known3 := hA_known3.imp fun _ _ h => mono ex3 h
              have hB1 := ex3 _ _ hB1
              have hB_more1 := ex3 _ _ hB_more1
              have hA_more1 := hA_more1.imp fun _ _ h => mono ex3 h
              have hB_more2 := ex3 _ _ hB_more2
              have hA_more2 := hA_more2.imp fun _ _ h => mono ex3 h
              have hA4 := hA4.imp fun _ _ h => mono ex3 h
              refine q_cons ?_
              refine go (v := (V.ref a_more2)) (v_op (v_var (by rfl)) v_c (v_ixL (Or.inl (Or.inl (st10.c _ _ hB1))) rfl)) ?_
              refine q_nil ?_
              obtain ⟨r_8, e_r_8, e⟩ := bind_some e
              refine ⟨B9, (V.ref v7), r_7, (V.ref a_more2), y_1.2.2, r_8, st10.c, rfl, ⟨v7, _, rfl, hB3, hA4⟩, ⟨a_more2, _, rfl, hB_more2, hA_more2⟩, e_r_8, ?_⟩
              intro v8 B10 H10 s12 h9
              obtain rfl := h9
              have s13 := s12.keepB st10.c (fun _ z => absurd z List.not_mem_nil)
              have st11 := st10.t0 s13
              obtain rfl := Option.some.inj e
              exact q _ _ _ st11 rfl
            · have hb := Bool.eq_false_iff.mpr hb
              have e := if_inv_f hb e
              refine ⟨false, by rw [hb], ?_⟩
              refine if_t rfl ?_
              refine q_ret ?_
              refine go (v := (V.bl false)) v_c ?_
              obtain rfl := Option.some.inj e
              exact q _ _ _ st7 rfl
        · have hb := Bool.eq_false_iff.mpr hb
          have e := if_inv_f hb e
          refine ⟨false, by rw [hb], ?_⟩
          refine if_t rfl ?_
          refine q_ret ?_
          refine go (v := (V.bl false)) v_c ?_
          obtain rfl := Option.some.inj e
          exact q _ _ _ st4 rfl
    · have hb := Bool.eq_false_iff.mpr hb
      have e := if_inv_f hb e
      refine ⟨false, by rw [hb], ?_⟩
      refine if_t rfl ?_
      refine q_ret ?_
      refine go (v := (V.bl false)) v_c ?_
      obtain rfl := Option.some.inj e
      exact q _ _ _ st2 rfl
end K79
/-! walk -/
namespace K79
open PySem PySem.Spec PyProof.Rows L2 Wk RZ ClX
def sp_law (K : PySem.W.Frag) : Sp := fun vs H Q _ => ∃ (B : Hp) (v_script : V) (x_script : (List Int)) (r : Bool), Ex B H ∧ vs = [v_script] ∧ (rX K) B v_script x_script ∧ m_law x_script = some r ∧ ∀ v B' H', Stp [] B H B' H' → rB B' v r → Q v H'
theorem ok_law_at {P : Program} {w : World} {K : PySem.W.Frag} {mg : Str → Option Value} {base : Heap} {fd : FuncData} (E : Tx K mg) (F : FunD K "law" "law" (defArgs s_law) (defBody s_law) (defScope s_law) [] [] (He.ga K "law") fd) : FnOk P w K mg base CX0 9 (He.ga K "law") fd ["script"] (sp_law K) := by
  obtain ⟨fd_l_pool, G_l_pool, b_l_pool, kp_l_pool, m_l_pool⟩ := ok_l_pool (P := P) (w := w) (base := base) E
  obtain ⟨fd_l_pickI, G_l_pickI, b_l_pickI, kp_l_pickI, m_l_pickI⟩ := ok_l_pickI (P := P) (w := w) (base := base) E
  obtain ⟨fd_l_draw, G_l_draw, b_l_draw, kp_l_draw, m_l_draw⟩ := ok_l_draw (P := P) (w := w) (base := base) E
  obtain ⟨fd_l_letters, G_l_letters, b_l_letters, kp_l_letters, m_l_letters⟩ := ok_l_letters (P := P) (w := w) (base := base) E
  obtain ⟨fd_l_word, G_l_word, b_l_word, kp_l_word, m_l_word⟩ := ok_l_word (P := P) (w := w) (base := base) E
  obtain ⟨fd_l_known, G_l_known, b_l_known, kp_l_known, m_l_known⟩ := ok_l_known (P := P) (w := w) (base := base) E
  obtain ⟨fd_runs, G_runs, b_runs, kp_runs, m_runs⟩ := ok_runs (P := P) (w := w) (base := base) E
  obtain ⟨fd_l_rowsT, G_l_rowsT, b_l_rowsT, kp_l_rowsT, m_l_rowsT⟩ := ok_l_rowsT (P := P) (w := w) (base := base) E
  obtain ⟨fd_l_pickS, G_l_pickS, b_l_pickS, kp_l_pickS, m_l_pickS⟩ := ok_l_pickS (P := P) (w := w) (base := base) E
  obtain ⟨fd_l_right, G_l_right, b_l_right, kp_l_right, m_l_right⟩ := ok_l_right (P := P) (w := w) (base := base) E
  have g_range : mg "range" = none := E.free 42
  have g_len : mg "len" = none := E.free 41
  have g_sorted : mg "sorted" = none := E.free 44
  have g_int : mg "int" = none := E.free 45
  refine F.ok sc_law (fun vs H Q E h => ?_) (fun cdv A outer s H0 vs Q X hr h => ?_)
  · obtain ⟨_, _, _, _, _, rfl, _⟩ := h; rfl
  ·
    obtain ⟨B0, v_script, x_script, r, c0, rfl, h_script, e, q⟩ := h
    obtain ⟨a_script1, rfl, hB_script1⟩ := h_script
    have st0 : Stp [] B0 H0 B0 H0 := Stp.refl c0
    unfold m_law at e
    refine ⟨_, PSs.nox ((pss_cons (ps_set (i := 1) sc_law.nd rfl (by first | exact Or.inl rfl | exact Or.inr rfl) (pe_call G_l_pool (hr.mono (by decide)) (by rfl) m_l_pool kp_l_pool b_l_pool .nil pass0 (pa_cons (pv 0) pa_nil))) (pss_cons (ps_set (i := 2) sc_law.nd rfl (by first | exact Or.inl rfl | exact Or.inr rfl) (pe_call G_l_pickI (hr.mono (by decide)) (by rfl) m_l_pickI kp_l_pickI b_l_pickI .nil pass0 (pa_cons (pv 1) (pa_cons (pe_lst (pa_cons pe_int (pa_cons pe_int (pa_cons pe_int (pa_cons pe_int (pa_cons pe_int (pa_cons pe_int (pa_cons pe_int (pa_cons pe_int pa_nil))))))))) pa_nil)))) (Evl.pss_cut (ps_if (pt_cmpR op_eq (pv 2) pe_int (nomark _)) (pss_one (ps_set (i := 2) sc_law.nd rfl (by first | exact Or.inl rfl | exact Or.inr rfl) (pe_call G_l_draw (hr.mono (by decide)) (by rfl) m_l_draw kp_l_draw b_l_draw .nil pass0 (pa_cons (pv 1) (pa_cons pe_int pa_nil))))) pss_nil) (Evl.pss_cut (ps_if (pt_cmpR op_eq (pv 2) pe_int (nomark _)) (pss_one (ps_set (i := 2) sc_law.nd rfl (by first | exact Or.inl rfl | exact Or.inr rfl) (pe_op op_sub pe_int (pe_call G_l_draw (hr.mono (by decide)) (by rfl) m_l_draw kp_l_draw b_l_draw .nil pass0 (pa_cons (pv 1) (pa_cons pe_int pa_nil)))))) pss_nil) (pss_cons (ps_set (i := 3) sc_law.nd rfl (by first | exact Or.inl rfl | exact Or.inr rfl) (pe_call G_l_letters (hr.mono (by decide)) (by rfl) m_l_letters kp_l_letters b_l_letters .nil pass0 (pa_cons (pv 1) (pa_cons (pe_op op_add pe_int (pe_op op_mod (pe_callTy call_int1 (by rfl) g_int (by decide +kernel) (pa_cons (pe_op op_add pe_int (pe_call G_l_draw (hr.mono (by decide)) (by rfl) m_l_draw kp_l_draw b_l_draw .nil pass0 (pa_cons (pv 1) (pa_cons pe_int pa_nil)))) pa_nil)) pe_int)) pa_nil)))) (pss_cons (ps_set (i := 4) sc_law.nd rfl (by first | exact Or.inl rfl | exact Or.inr rfl) (pe_call G_l_word (hr.mono (by decide)) (by rfl) m_l_word kp_l_word b_l_word .nil pass0 (pa_cons (pv 1) (pa_cons (pv 2) (pa_cons (pv 3) pa_nil))))) (pss_cons (ps_set (i := 5) sc_law.nd rfl (by first | exact Or.inl rfl | exact Or.inr rfl) (pe_call G_l_known (hr.mono (by decide)) (by rfl) m_l_known kp_l_known b_l_known .nil pass0 (pa_cons (pv 4) pa_nil))) (pss_cons (ps_if (pt_cmpR op_isN (pv 5) pe_non (nomark _)) (pss_one (ps_ret pe_bl)) pss_nil) (pss_cons (ps_set (i := 6) sc_law.nd rfl (by first | exact Or.inl rfl | exact Or.inr rfl) (pe_lst pa_nil)) (pss_cons (ps_for PassesOwn.never rfl (pi_list (pe_ix ix_list (pv 5) pe_int (fun _ _ => rfl))) (pg_name (i := 7) sc_law.nd rfl (by first | exact Or.inl rfl | exact Or.inr rfl)) (pss_one (ps_expr (pe_bm PySem.F.plainAttrs_list PySem.F.slot_list_append PySem.F.type_list_append mt_append (pv 6) (pa_cons (pe_tup (pa_cons (pe_op op_sub (pv 2) (pe_ix ix_tup (pv 7) pe_int (fun _ _ => rfl))) (pa_cons (pe_op op_sub (pv 2) (pe_ix ix_tup (pv 7) pe_int (fun _ _ => rfl))) (pa_cons (pe_ix ix_tup (pv 7) pe_int (fun _ _ => rfl)) pa_nil)))) pa_nil))))) (pss_cons (ps_if (pt_not (pt_val (pe_call G_l_rowsT (hr.mono (by decide)) (by rfl) m_l_rowsT kp_l_rowsT b_l_rowsT .nil pass0 (pa_cons (pe_call G_runs (hr.mono (by decide)) (by rfl) m_runs kp_runs b_runs .nil pass0 (pa_cons (pe_revS (pv 4)) pa_nil)) (pa_cons (pe_callB (cr_sortT 2) (by rfl) g_sorted (by decide +kernel) (pa_cons (pv 6) pa_nil)) pa_nil))))) (pss_one (ps_ret pe_bl)) pss_nil) (pss_cons (ps_set (i := 8) sc_law.nd rfl (by first | exact Or.inl rfl | exact Or.inr rfl) (pe_call G_l_letters (hr.mono (by decide)) (by rfl) m_l_letters kp_l_letters b_l_letters .nil pass0 (pa_cons (pv 1) (pa_cons pe_int pa_nil)))) (pss_cons (ps_set (i := 9) sc_law.nd rfl (by first | exact Or.inl rfl | exact Or.inr rfl) (pe_call G_l_letters (hr.mono (by decide)) (by rfl) m_l_letters kp_l_letters b_l_letters .nil pass0 (pa_cons (pv 1) (pa_cons pe_int pa_nil)))) (pss_cons (ps_set (i := 10) sc_law.nd rfl (by first | exact Or.inl rfl | exact Or.inr rfl) (pe_lst (pa_cons pe_dnewK (pa_cons pe_dnewK (pa_cons pe_dnewK pa_nil))))) (pss_cons (ps_for PassesOwn.never rfl (pi_range1 (by rfl) g_range (pa_cons (pe_callB call_len_seq (by rfl) g_len PySem.boot_len (pa_cons (pv 3) pa_nil)) pa_nil)) (pg_name (i := 11) sc_law.nd rfl (by first | exact Or.inl rfl | exact Or.inr rfl)) (pss_cons (ps_dput (hu_of hr) (pe_ix ix_list (pv 10) pe_int (fun _ _ => rfl)) (pe_ix ix_list (pv 3) (pv 11) (fun _ _ => rfl)) (pe_call G_l_pickS (hr.mono (by decide)) (by rfl) m_l_pickS kp_l_pickS b_l_pickS .nil pass0 (pa_cons (pv 1) (pa_cons (pv 8) pa_nil))) rfl) (pss_cons (ps_dput (hu_of hr) (pe_ix ix_list (pv 10) pe_int (fun _ _ => rfl)) (pe_ix ix_list (pv 3) (pv 11) (fun _ _ => rfl)) (pe_ix ix_list (pv 8) pe_int (fun _ _ => rfl)) rfl) (pss_one (ps_dput (hu_of hr) (pe_ix ix_list (pv 10) pe_int (fun _ _ => rfl)) (pe_ix ix_list (pv 3) (pv 11) (fun _ _ => rfl)) (pe_ix ix_list (pv 9) (pv 11) (fun _ _ => rfl)) rfl))))) (pss_cons (ps_for PassesOwn.never rfl (pi_list (pv 10)) (pg_name (i := 12) sc_law.nd rfl (by first | exact Or.inl rfl | exact Or.inr rfl)) (pss_one (ps_if (pt_not (pt_val (pe_call G_l_right (hr.mono (by decide)) (by rfl) m_l_right kp_l_right b_l_right .nil pass0 (pa_cons (pv 4) (pa_cons (pv 12) (pa_cons (pv 5) pa_nil)))))) (pss_one (ps_ret pe_bl)) pss_nil))) (pss_one (ps_ret pe_bl))))))))))))))))))), ?_⟩
    refine q_st (σ' := [some (V.ref a_script1), none, none, none, none, none, none, none, none, none, none, none, none]) rfl ?_
    refine q_seq ?_
    refine q_set ?_
    refine q_call ?_
    refine q_cons ?_
    refine go (v := (V.ref a_script1)) (v_var (by rfl)) ?_
    refine q_nil ?_
    obtain ⟨r_1, e_r_1, e⟩ := bind_some e
    refine ⟨B0, (V.ref a_script1), x_script, r_1, st0.c, rfl, ⟨a_script1, rfl, hB_script1⟩, e_r_1, ?_⟩
    intro v1 B1 H1 vs1 s1 hz1 nb1 hB1 hA1
    have z1 := st0.g _ hz1
    have hB_script1 := sq_mono s1.b hB_script1
    have st1 := st0.t0 s1
    obtain rfl := all2_I hA1
    refine q_nx (σ' := [some (V.ref a_script1), some (V.ref v1), none, none, none, none, none, none, none, none, none, none, none]) rfl ?_
    refine q_seq ?_
    refine q_set ?_
    refine q_call ?_
    refine q_cons ?_
    refine go (v := (V.ref v1)) (v_var (by rfl)) ?_
    refine q_cons ?_
    refine q_lst ?_
    refine q_cons ?_
    refine go (v := (V.int (9 : Int))) v_c ?_
    refine q_cons ?_
    refine go (v := (V.int (7 : Int))) v_c ?_
    refine q_cons ?_
    refine go (v := (V.int (12 : Int))) v_c ?_
    refine q_cons ?_
    refine go (v := (V.int (14 : Int))) v_c ?_
    refine q_cons ?_
    refine go (v := (V.int (5 : Int))) v_c ?_
    refine q_cons ?_
    refine go (v := (V.int (10 : Int))) v_c ?_
    refine q_cons ?_
    refine go (v := (V.int (3 : Int))) v_c ?_
    refine q_cons ?_
    refine go (v := (V.int (60 : Int))) v_c ?_
    refine q_nil ?_
    refine ⟨by show _ ≤ 16777216; simp, ?_⟩
    refine al_giv st1.c fun p1 np1 B2 H2 s2 hB2 => ?_
    have hB_script1 := sq_mono s2.b hB_script1
    have nb1 := s2.out nb1 hB1
    have hB1 := s2.h _ _ List.not_mem_nil hB1
    have st2 := st1.t0 s2
    replace hB2 : B2 p1 = some (.lst (([(9 : Int), (7 : Int), (12 : Int), (14 : Int), (5 : Int), (10 : Int), (3 : Int), (60 : Int)] : (List Int)).map V.int)) := hB2
    refine q_nil ?_
    obtain ⟨r_2, e_r_2, e⟩ := bind_some e
    refine ⟨B2, v1, r_1, (V.ref p1), ([(9 : Int), (7 : Int), (12 : Int), (14 : Int), (5 : Int), (10 : Int), (3 : Int), (60 : Int)] : (List Int)), r_2, st2.c, rfl, nb1, hB1, ⟨p1, _, rfl, hB2, all2I ([(9 : Int), (7 : Int), (12 : Int), (14 : Int), (5 : Int), (10 : Int), (3 : Int), (60 : Int)] : (List Int))⟩, e_r_2, ?_⟩
    intro v2 B3 H3 s3 hp1 h2
    obtain rfl := h2
    have s4 := s3.keepB st2.c (nin_all nb1)
    have st3 := st2.loc s4 z1
    refine q_nx (σ' := [some (V.ref a_script1), some (V.ref v1), some (V.int r_2.1), none, none, none, none, none, none, none, none, none, none]) rfl ?_
    obtain ⟨j_1, ej1, e⟩ := bind_some e
    refine q_cut (Mid := MidP fun σ H => ∃ (B : Hp), σ = [some (V.ref a_script1), some (V.ref v1), some (V.int j_1.2), none, none, none, none, none, none, none, none, none, none] ∧ Ex B2 B ∧ Stp [] B0 H0 B H ∧ B v1 = none ∧ H v1 = some (.lst (j_1.1.map V.int))) ?_ ?_
    ·
      refine q_if ?_
      by_cases hb : (decide (r_2.1 = (3 : Int))) = true
      · have ej1 := if_inv_t hb ej1
        refine goT (b := true) (Ans.to (v_tb (v_op (v_var (by rfl)) v_c v_eqI)) hb) ?_
        refine if_t rfl ?_
        refine q_set ?_
        refine q_call ?_
        refine q_cons ?_
        refine go (v := (V.ref v1)) (v_var (by rfl)) ?_
        refine q_cons ?_
        refine go (v := (V.int (5 : Int))) v_c ?_
        refine q_nil ?_
        obtain ⟨r_3, e_r_3, ej1⟩ := bind_some ej1
        refine ⟨B2, v1, r_2.2, (5 : Int), r_3, st3.c, rfl, nb1, hp1, e_r_3, ?_⟩
        intro v3 B4 H4 s5 hp2 h3
        obtain rfl := h3
        have s6 := s5.keepB st3.c (nin_all nb1)
        have st4 := st3.loc s6 z1
        refine q_nx (σ' := [some (V.ref a_script1), some (V.ref v1), some (V.int r_3.1), none, none, none, none, none, none, none, none, none, none]) rfl ?_
        obtain rfl := Option.some.inj ej1
        exact ⟨B2, rfl, (Ex.refl B2), st4, nb1, hp2⟩
      · have hb := Bool.eq_false_iff.mpr hb
        have ej1 := if_inv_f hb ej1
        refine goT (b := false) (Ans.to (v_tb (v_op (v_var (by rfl)) v_c v_eqI)) hb) ?_
        refine if_f rfl ?_
        refine q_next ?_
        obtain rfl := Option.some.inj ej1
        exact ⟨B2, rfl, (Ex.refl B2), st3, nb1, hp1⟩
    ·
      rintro _ H5 ⟨B5, rfl, ex1, st5, nb2, hp3⟩
      replace hp3 : H5 v1 = some (.lst (j_1.1.map V.int)) := hp3
      have hB_script1 := sq_mono ex1 hB_script1
      obtain ⟨j_2, ej2, e⟩ := bind_some e
      refine q_cut (Mid := MidP fun σ H => ∃ (B : Hp), σ = [some (V.ref a_script1), some (V.ref v1), some (V.int j_2.2), none, none, none, none, none, none, none, none, none, none] ∧ Ex B5 B ∧ Stp [] B0 H0 B H ∧ B v1 = none ∧ H v1 = some (.lst (j_2.1.map V.int))) ?_ ?_
      ·
        refine q_if ?_
        by_cases hb : (decide (j_1.2 = (60 : Int))) = true
        · have ej2 := if_inv_t hb ej2
          refine goT (b := true) (Ans.to (v_tb (v_op (v_var (by rfl)) v_c v_eqI)) hb) ?_
          refine if_t rfl ?_
          refine q_set ?_
          refine q_opR ?_
          refine go (v := (V.int (60 : Int))) v_c ?_
          refine q_call ?_
          refine q_cons ?_
          refine go (v := (V.ref v1)) (v_var (by rfl)) ?_
          refine q_cons ?_
          refine go (v := (V.int (40 : Int))) v_c ?_
          refine q_nil ?_
          obtain ⟨r_4, e_r_4, ej2⟩ := bind_some ej2
          refine ⟨B5, v1, j_1.1, (40 : Int), r_4, st5.c, rfl, nb2, hp3, e_r_4, ?_⟩
          intro v4 B6 H6 s7 hp4 h4
          obtain rfl := h4
          have s8 := s7.keepB st5.c (nin_all nb2)
          have st6 := st5.loc s8 z1
          refine ⟨_, _, rfl, rfl, ?_⟩
          refine q_nx (σ' := [some (V.ref a_script1), some (V.ref v1), some (V.int ((60 : Int) - r_4.1)), none, none, none, none, none, none, none, none, none, none]) rfl ?_
          obtain rfl := Option.some.inj ej2
          exact ⟨B5, rfl, (Ex.refl B5), st6, nb2, hp4⟩
        · have hb := Bool.eq_false_iff.mpr hb
          have ej2 := if_inv_f hb ej2
          refine goT (b := false) (Ans.to (v_tb (v_op (v_var (by rfl)) v_c v_eqI)) hb) ?_
          refine if_f rfl ?_
          refine q_next ?_
          obtain rfl := Option.some.inj ej2
          exact ⟨B5, rfl, (Ex.refl B5), st5, nb2, hp3⟩
      ·
        rintro _ H7 ⟨B7, rfl, ex2, st7, nb3, hp5⟩
        replace hp5 : H7 v1 = some (.lst (j_2.1.map V.int)) := hp5
        have hB_script1 := sq_mono ex2 hB_script1
        refine q_seq ?_
        refine q_set ?_
        refine q_call ?_
        refine q_cons ?_
        refine go (v := (V.ref v1)) (v_var (by rfl)) ?_
        refine q_cons ?_
        refine q_opR ?_
        refine go (v := (V.int (1 : Int))) v_c ?_
        refine q_opR ?_
        refine q_cbR ?_
        refine q_cons ?_
        refine q_opR ?_
        refine go (v := (V.int (2 : Int))) v_c ?_
        refine q_call ?_
        refine q_cons ?_
        refine go (v := (V.ref v1)) (v_var (by rfl)) ?_
        refine q_cons ?_
        refine go (v := (V.int (4 : Int))) v_c ?_
        refine q_nil ?_
        obtain ⟨r_5, e_r_5, e⟩ := bind_some e
        refine ⟨B7, v1, j_2.1, (4 : Int), r_5, st7.c, rfl, nb3, hp5, e_r_5, ?_⟩
        intro v5 B8 H8 s9 hp6 h5
        obtain rfl := h5
        have s10 := s9.keepB st7.c (nin_all nb3)
        have st8 := st7.loc s10 z1
        refine ⟨_, _, rfl, rfl, ?_⟩
        refine q_nil ?_
        refine rc_of v_intI ?_
        refine go (v := (V.int (4 : Int))) v_c ?_
        obtain ⟨q1, e⟩ := ask_some e
        refine ⟨_, _, rfl, rfl,  q1, ?_⟩
        refine ⟨_, _, rfl, rfl, ?_⟩
        refine q_nil ?_
        obtain ⟨r_6, e_r_6, e⟩ := bind_some e
        refine ⟨B7, v1, r_5.2, ((1 : Int) + (((2 : Int) + r_5.1) % (4 : Int))), r_6, st8.c, rfl, nb3, hp6, e_r_6, ?_⟩
        intro v6 B9 H9 s11 hp7 h6
        have hB_script1 := sq_mono s11.b hB_script1
        have nb3 := s11.outm (by simp) nb3 hp6
        have st9 := st8.loc s11 z1
        obtain ⟨a_r1, vs_r1, rfl, hB_r1, hA_r1⟩ := h6
        obtain rfl := all2_S hA_r1
        refine q_nx (σ' := [some (V.ref a_script1), some (V.ref v1), some (V.int j_2.2), some (V.ref a_r1), none, none, none, none, none, none, none, none, none]) rfl ?_
        refine q_seq ?_
        refine q_set ?_
        refine q_call ?_
        refine q_cons ?_
        refine go (v := (V.ref v1)) (v_var (by rfl)) ?_
        refine q_cons ?_
        refine go (v := (V.int j_2.2)) (v_var (by rfl)) ?_
        refine q_cons ?_
        refine go (v := (V.ref a_r1)) (v_var (by rfl)) ?_
        refine q_nil ?_
        obtain ⟨r_7, e_r_7, e⟩ := bind_some e
        refine ⟨B9, v1, r_6.2, j_2.2, (V.ref a_r1), r_6.1, r_7, st9.c, rfl, nb3, hp7, ⟨a_r1, _, rfl, hB_r1, all2S _⟩, e_r_7, ?_⟩
        intro v7 B10 H10 s12 hp8 h7
        obtain rfl := h7
        have s13 := s12.keepB st9.c (nin_all nb3)
        have st10 := st9.loc s13 z1
        refine q_nx (σ' := [some (V.ref a_script1), some (V.ref v1), some (V.int j_2.2), some (V.ref a_r1), some (tS r_7.1), none, none, none, none, none, none, none, none]) rfl ?_
        refine q_seq ?_
        refine q_set ?_
        refine q_call ?_
        refine q_cons ?_
        refine go (v := (tS r_7.1)) (v_var (by rfl)) ?_
        refine q_nil ?_
        obtain ⟨r_8, e_r_8, e⟩ := bind_some e
        refine ⟨B9, r_7.1, r_8, st10.c, rfl, e_r_8, ?_⟩
        intro v8 B11 H11 s14 h8
        have ho1 := hp8
        have hB_script1 := sq_mono s14.b hB_script1
        have nb3 := s14.out nb3 hp8
        have hp8 := s14.h _ _ List.not_mem_nil hp8
        have hB_r1 := s14.b _ _ hB_r1
        have st11 := st10.t0 s14
        rcases oelim_some e with ⟨hy1, e⟩ | ⟨y_1, hy1, e⟩
        ·
          obtain rfl := rKN_none h8 hy1
          refine q_nx (σ' := [some (V.ref a_script1), some (V.ref v1), some (V.int j_2.2), some (V.ref a_r1), some (tS r_7.1), some V.non, none, none, none, none, none, none, none]) rfl ?_
          refine q_seq ?_
          refine q_if ?_
          have hb : true = true := rfl
          refine goT (b := true) (Ans.to (v_tb (v_op (v_var (by rfl)) v_c v_isN0)) hb) ?_
          refine if_t rfl ?_
          refine q_ret ?_
          refine go (v := (V.bl false)) v_c ?_
          obtain rfl := Option.some.inj e
          exact q _ _ _ st11 rfl
        ·
          obtain ⟨a1, p2, ws1, w1, w2, rfl, hB3, hz2, nb4, hp9, hA2, h9, h10⟩ := rKN_some h8 hy1
          have ne1 : v1 ≠ p2 := ne_none ho1 hz2
          have z2 := st10.g _ hz2
          obtain ⟨a_known1, vs_known1, rfl, hB_known1, hA_known1⟩ := h9
          obtain ⟨a_known2, vs_known2, rfl, hB_known2, hA_known2⟩ := h10
          obtain ⟨B12, st12, ex3, hB4, out1⟩ := give st11 hp9 z2
          have hB_script1 := sq_mono ex3 hB_script1
          have nb3 := out1 _ ne1 nb3
          have hB_r1 := ex3 _ _ hB_r1
          have hB3 := ex3 _ _ hB3
          have hB_known1 := ex3 _ _ hB_known1
          have hA_known1 := hA_known1.imp fun _ _ h => mono ex3 h
          have hB_known2 := ex3 _ _ hB_known2
          have hA_known2 := hA_known2.imp fun _ _ h => mono ex3 h
          have hA2 := hA2.imp fun _ _ h => mono ex3 h
          refine q_nx (σ' := [some (V.ref a_script1), some (V.ref v1), some (V.int j_2.2), some (V.ref a_r1), some (tS r_7.1), some (V.ref a1), none, none, none, none, none, none, none]) rfl ?_
          refine q_seq ?_
          refine q_if ?_
          have hb : false = false := rfl
          refine goT (b := false) (Ans.to (v_tb (v_op (v_var (by rfl)) v_c v_isN1)) hb) ?_
          refine if_f rfl ?_
          refine q_next ?_
          refine q_seq ?_
          refine q_set ?_
          refine q_lst ?_
          refine q_nil ?_
          refine ⟨by show _ ≤ 16777216; simp, ?_⟩
          have hA3 : All2 ((rT3 rI rI rI) B12) [] ([] : (List (Int × Int × Int))) := All2.nil
          refine al_own st12.c fun p3 np2 H12 s15 hB5 nb5 => ?_
          have z3 := st12.g _ np2
          have ne2 : v1 ≠ p3 := ne_none hp8 np2
          have hp8 := s15.h _ _ List.not_mem_nil hp8
          have st13 := st12.t0 s15
          refine q_nx (σ' := [some (V.ref a_script1), some (V.ref v1), some (V.int j_2.2), some (V.ref a_r1), some (tS r_7.1), some (V.ref a1), some (V.ref p3), none, none, none, none, none, none]) rfl ?_
          refine q_seq ?_
          refine q_for ?_
          refine q_itl ?_
          refine go (v := (V.ref a_known2)) (v_op (v_var (by rfl)) v_c (v_ixL (Or.inl (Or.inl (st13.c _ _ hB3))) rfl)) ?_
          refine ⟨_, rfl, ⟨_, (Or.inl (Or.inl (st13.c _ _ hB_known2)))⟩, ?_⟩
          obtain ⟨r_9, er1, e⟩ := bind_some e
          refine for_N (Inv := fun (s : (List (Int × Int × Int))) σ H => ∃ (B : Hp) (y_one : Option V) (vs_back : List V), σ = [some (V.ref a_script1), some (V.ref v1), some (V.int j_2.2), some (V.ref a_r1), some (tS r_7.1), some (V.ref a1), some (V.ref p3), y_one, none, none, none, none, none] ∧ Ex B12 B ∧ Stp [] B0 H0 B H ∧ B v1 = none ∧ H v1 = some (.lst (r_7.2.map V.int)) ∧ B p3 = none ∧ H p3 = some (.lst vs_back) ∧ All2 ((rT3 rI rI rI) B) vs_back s) er1 ?_ ?_ ?_ ?_ ?_
          · exact ⟨B12, _, _, rfl, (Ex.refl B12), st13, nb3, hp8, nb5, hB5, hA3⟩
          · refine lst_st (vs := vs_known2) ?_ hA_known2.length
            rintro s σ H ⟨B, _, _, rfl, ex, st, _, _, _, _, _⟩
            exact Or.inl (Or.inl (st.c _ _ (ex _ _ hB_known2)))
          · refine lst_go (vs := vs_known2) ?_ hA_known2.length
            rintro s σ H ⟨B, _, _, rfl, ex, st, _, _, _, _, _⟩
            exact Or.inl (Or.inl (st.c _ _ (ex _ _ hB_known2)))
          ·
            rintro i1 x1 c_back1 t1 _ H13 hx1 ⟨B13, y1, vs2, rfl, ex4, st14, nb6, hp10, nb7, hp11, hA4⟩ ef1 v9 Hy1 hy2 N1 hN1
            replace hp10 : H13 v1 = some (.lst (r_7.2.map V.int)) := hp10
            replace hp11 : H13 p3 = some (.lst vs2) := hp11
            replace hA4 : All2 ((rT3 rI rI rI) B13) vs2 c_back1 := hA4
            have hB_script1 := sq_mono ex4 hB_script1
            have hB_r1 := ex4 _ _ hB_r1
            have hB3 := ex4 _ _ hB3
            have hB4 := ex4 _ _ hB4
            have hA2 := hA2.imp fun _ _ h => mono ex4 h
            have hB_known1 := ex4 _ _ hB_known1
            have hA_known1 := hA_known1.imp fun _ _ h => mono ex4 h
            have hB_known2 := ex4 _ _ hB_known2
            have hA_known2 := hA_known2.imp fun _ _ h => mono ex4 h
            change law_b0 j_2 x1 c_back1 = some t1 at ef1
            unfold law_b0 at ef1
            obtain ⟨rfl, hv1⟩ := lst_yld hy2 (Or.inl (Or.inl (st14.c _ _ hB_known2)))
            have hr1 := hA_known2.get hv1 hx1
            obtain ⟨a_x1, w_x1, w_x2, w_x3, rfl, hB_x1, h_x1, h_x2, h_x3⟩ := hr1
            obtain rfl := h_x1
            obtain rfl := h_x2
            obtain rfl := h_x3
            refine q_gname ?_
            refine q_st (σ' := [some (V.ref a_script1), some (V.ref v1), some (V.int j_2.2), some (V.ref a_r1), some (tS r_7.1), some (V.ref a1), some (V.ref p3), some (V.ref a_x1), none, none, none, none, none]) rfl ?_
            refine q_drop ?_
            refine q_bm ?_
            refine go (v := (V.ref p3)) (v_var (by rfl)) ?_
            refine ⟨tyL (Or.inl (Or.inl hp11)), ?_⟩
            refine q_cons ?_
            refine q_tup ?_
            refine q_cons ?_
            refine go (v := (V.int (j_2.2 - x1.2.1))) (v_op (v_var (by rfl)) (v_op (v_var (by rfl)) v_c (v_ixT (Or.inl (Or.inl (st14.c _ _ hB_x1))) rfl)) (fun _ q => ⟨_, _, rfl, rfl, q⟩)) ?_
            refine q_cons ?_
            refine go (v := (V.int (j_2.2 - x1.1))) (v_op (v_var (by rfl)) (v_op (v_var (by rfl)) v_c (v_ixT (Or.inl (Or.inl (st14.c _ _ hB_x1))) rfl)) (fun _ q => ⟨_, _, rfl, rfl, q⟩)) ?_
            refine q_cons ?_
            refine go (v := (V.int x1.2.2)) (v_op (v_var (by rfl)) v_c (v_ixT (Or.inl (Or.inl (st14.c _ _ hB_x1))) rfl)) ?_
            refine q_nil ?_
            refine ⟨by show _ ≤ 16777216; simp, ?_⟩
            refine al_giv st14.c fun p4 np3 B14 H14 s16 hB6 => ?_
            have hB_script1 := sq_mono s16.b hB_script1
            have nb6 := s16.out nb6 hp10
            have hp10 := s16.h _ _ List.not_mem_nil hp10
            have hB_r1 := s16.b _ _ hB_r1
            have hB3 := s16.b _ _ hB3
            have hB4 := s16.b _ _ hB4
            have hA2 := hA2.imp fun _ _ h => mono s16.b h
            have hB_known1 := s16.b _ _ hB_known1
            have hA_known1 := hA_known1.imp fun _ _ h => mono s16.b h
            have hB_known2 := s16.b _ _ hB_known2
            have hA_known2 := hA_known2.imp fun _ _ h => mono s16.b h
            have nb7 := s16.out nb7 hp11
            have hp11 := s16.h _ _ List.not_mem_nil hp11
            have hA4 := hA4.imp fun _ _ h => mono s16.b h
            have hB_x1 := s16.b _ _ hB_x1
            have st15 := st14.t0 s16
            refine q_nil ?_
            obtain ⟨q2, ef1⟩ := ask_some ef1
            have hA5 := hA4.snoc (show (rT3 rI rI rI) B14 (V.ref p4) ((j_2.2 - x1.2.1), (j_2.2 - x1.1), x1.2.2) from ⟨p4, _, _, _, rfl, hB6, rfl, rfl, rfl⟩)
            refine ap_go st15 (Or.inl z3) nb7 hp11 (by rw [hA4.length]; exact q2) fun H15 st16 hp12 kp1 => ?_
            have hp10 := kp1 _ _ ne2 hp10
            obtain rfl := Option.some.inj ef1
            exact hN1 _ _ ⟨B14, _, _, rfl, (ex4.trans s16.b), st16, nb6, hp10, nb7, hp12, hA5⟩
          ·
            rintro _ H16 ⟨B15, y2, vs3, rfl, ex5, st17, nb8, hp13, nb9, hp14, hA6⟩
            replace hp13 : H16 v1 = some (.lst (r_7.2.map V.int)) := hp13
            replace hp14 : H16 p3 = some (.lst vs3) := hp14
            replace hA6 : All2 ((rT3 rI rI rI) B15) vs3 r_9 := hA6
            have hB_script1 := sq_mono ex5 hB_script1
            have hB_r1 := ex5 _ _ hB_r1
            have hB3 := ex5 _ _ hB3
            have hB4 := ex5 _ _ hB4
            have hA2 := hA2.imp fun _ _ h => mono ex5 h
            have hB_known1 := ex5 _ _ hB_known1
            have hA_known1 := hA_known1.imp fun _ _ h => mono ex5 h
            have hB_known2 := ex5 _ _ hB_known2
            have hA_known2 := hA_known2.imp fun _ _ h => mono ex5 h
            refine q_seq ?_
            refine q_if ?_
            refine q_not ?_
            refine q_tB ?_
            refine q_call ?_
            refine q_cons ?_
            refine q_call ?_
            refine q_cons ?_
            obtain ⟨q3, e⟩ := ask_some e
            refine go (v := (tS r_7.1.reverse)) (v_revS (v_var (by rfl)) q3) ?_
            refine q_nil ?_
            obtain ⟨r_10, e_r_10, e⟩ := bind_some e
            refine ⟨B15, r_7.1.reverse, r_10, st17.c, rfl, e_r_10, ?_⟩
            intro v10 B16 H17 vs4 s17 hz3 nb10 hB7 hA7
            have ne3 : v1 ≠ v10 := ne_none hp13 hz3
            have ne4 : p3 ≠ v10 := ne_none hp14 hz3
            have z4 := st17.g _ hz3
            have hB_script1 := sq_mono s17.b hB_script1
            have nb8 := s17.out nb8 hp13
            have hp13 := s17.h _ _ List.not_mem_nil hp13
            have hB_r1 := s17.b _ _ hB_r1
            have hB3 := s17.b _ _ hB3
            have hB4 := s17.b _ _ hB4
            have hA2 := hA2.imp fun _ _ h => mono s17.b h
            have hB_known1 := s17.b _ _ hB_known1
            have hA_known1 := hA_known1.imp fun _ _ h => mono s17.b h
            have hB_known2 := s17.b _ _ hB_known2
            have hA_known2 := hA_known2.imp fun _ _ h => mono s17.b h
            have nb9 := s17.out nb9 hp14
            have hp14 := s17.h _ _ List.not_mem_nil hp14
            have hA6 := hA6.imp fun _ _ h => mono s17.b h
            have st18 := st17.t0 s17
            obtain ⟨B17, st19, ex6, hB8, out2⟩ := give st18 hB7 z4
            have hB_script1 := sq_mono ex6 hB_script1
            have nb8 := out2 _ ne3 nb8
            have hB_r1 := ex6 _ _ hB_r1
            have hB3 := ex6 _ _ hB3
            have hB4 := ex6 _ _ hB4
            have hA2 := hA2.imp fun _ _ h => mono ex6 h
            have hB_known1 := ex6 _ _ hB_known1
            have hA_known1 := hA_known1.imp fun _ _ h => mono ex6 h
            have hB_known2 := ex6 _ _ hB_known2
            have hA_known2 := hA_known2.imp fun _ _ h => mono ex6 h
            have nb9 := out2 _ ne4 nb9
            have hA6 := hA6.imp fun _ _ h => mono ex6 h
            have hA7 := hA7.imp fun _ _ h => mono ex6 h
            refine q_cons ?_
            refine q_cbR ?_
            refine q_cons ?_
            refine go (v := (V.ref p3)) (v_var (by rfl)) ?_
            refine q_nil ?_
            refine sort_T st19.c (Or.inl (Or.inl hp14)) hA6 fun ys1 hA8 => ?_
            refine al_giv st19.c fun p5 np4 B18 H18 s18 hB9 => ?_
            have hB_script1 := sq_mono s18.b hB_script1
            have nb8 := s18.out nb8 hp13
            have hp13 := s18.h _ _ List.not_mem_nil hp13
            have hB_r1 := s18.b _ _ hB_r1
            have hB3 := s18.b _ _ hB3
            have hB4 := s18.b _ _ hB4
            have hA2 := hA2.imp fun _ _ h => mono s18.b h
            have hB_known1 := s18.b _ _ hB_known1
            have hA_known1 := hA_known1.imp fun _ _ h => mono s18.b h
            have hB_known2 := s18.b _ _ hB_known2
            have hA_known2 := hA_known2.imp fun _ _ h => mono s18.b h
            have nb9 := s18.out nb9 hp14
            have hp14 := s18.h _ _ List.not_mem_nil hp14
            have hA6 := hA6.imp fun _ _ h => mono s18.b h
            have hB8 := s18.b _ _ hB8
            have hA7 := hA7.imp fun _ _ h => mono s18.b h
            have st20 := st19.t0 s18
            have hA8 := hA8.imp fun _ _ h => mono s18.b h
            refine q_nil ?_
            obtain ⟨r_11, e_r_11, e⟩ := bind_some e
            refine ⟨B18, (V.ref v10), r_10, (V.ref p5), (sortT codeT r_9), r_11, st20.c, rfl, ⟨v10, _, rfl, hB8, hA7⟩, ⟨p5, _, rfl, hB9, hA8⟩, e_r_11, ?_⟩
            intro v11 B19 H19 s19 h12
            obtain rfl := h12
            have s20 := s19.keepB st20.c (fun _ z => absurd z List.not_mem_nil)
            have hp13 := s20.h _ _ List.not_mem_nil hp13
            have hp14 := s20.h _ _ List.not_mem_nil hp14
            have st21 := st20.t0 s20
            by_cases hb : r_11 = true
            · have e := if_inv_t hb e
              refine ⟨true, by rw [hb], ?_⟩
              refine if_f rfl ?_
              refine q_next ?_
              refine q_seq ?_
              refine q_set ?_
              refine q_call ?_
              refine q_cons ?_
              refine go (v := (V.ref v1)) (v_var (by rfl)) ?_
              refine q_cons ?_
              refine go (v := (V.int (3 : Int))) v_c ?_
              refine q_nil ?_
              obtain ⟨r_12, e_r_12, e⟩ := bind_some e
              refine ⟨B18, v1, r_7.2, (3 : Int), r_12, st21.c, rfl, nb8, hp13, e_r_12, ?_⟩
              intro v12 B20 H20 s21 hp15 h13
              have hB_script1 := sq_mono s21.b hB_script1
              have hB_r1 := s21.b _ _ hB_r1
              have hB3 := s21.b _ _ hB3
              have hB4 := s21.b _ _ hB4
              have hA2 := hA2.imp fun _ _ h => mono s21.b h
              have hB_known1 := s21.b _ _ hB_known1
              have hA_known1 := hA_known1.imp fun _ _ h => mono s21.b h
              have hB_known2 := s21.b _ _ hB_known2
              have hA_known2 := hA_known2.imp fun _ _ h => mono s21.b h
              have nb9 := s21.out nb9 hp14
              have hp14 := s21.h _ _ (nin1 (Ne.symm ne2)) hp14
              have hA6 := hA6.imp fun _ _ h => mono s21.b h
              have nb8 := s21.outm (by simp) nb8 hp13
              have st22 := st21.loc s21 z1
              obtain ⟨a_r2, vs_r2, rfl, hB_r2, hA_r2⟩ := h13
              obtain rfl := all2_S hA_r2
              refine q_nx (σ' := [some (V.ref a_script1), some (V.ref v1), some (V.int j_2.2), some (V.ref a_r1), some (tS r_7.1), some (V.ref a1), some (V.ref p3), y2, some (V.ref a_r2), none, none, none, none]) rfl ?_
              refine q_seq ?_
              refine q_set ?_
              refine q_call ?_
              refine q_cons ?_
              refine go (v := (V.ref v1)) (v_var (by rfl)) ?_
              refine q_cons ?_
              refine go (v := (V.int (4 : Int))) v_c ?_
              refine q_nil ?_
              obtain ⟨r_13, e_r_13, e⟩ := bind_some e
              refine ⟨B20, v1, r_12.2, (4 : Int), r_13, st22.c, rfl, nb8, hp15, e_r_13, ?_⟩
              intro v13 B21 H21 s22 hp16 h14
              have hB_script1 := sq_mono s22.b hB_script1
              have hB_r1 := s22.b _ _ hB_r1
              have hB3 := s22.b _ _ hB3
              have hB4 := s22.b _ _ hB4
              have hA2 := hA2.imp fun _ _ h => mono s22.b h
              have hB_known1 := s22.b _ _ hB_known1
              have hA_known1 := hA_known1.imp fun _ _ h => mono s22.b h
              have hB_known2 := s22.b _ _ hB_known2
              have hA_known2 := hA_known2.imp fun _ _ h => mono s22.b h
              have nb9 := s22.out nb9 hp14
              have hp14 := s22.h _ _ (nin1 (Ne.symm ne2)) hp14
              have hA6 := hA6.imp fun _ _ h => mono s22.b h
              have hB_r2 := s22.b _ _ hB_r2
              have nb8 := s22.outm (by simp) nb8 hp15
              have st23 := st22.loc s22 z1
              obtain ⟨a_r3, vs_r3, rfl, hB_r3, hA_r3⟩ := h14
              obtain rfl := all2_S hA_r3
              refine q_nx (σ' := [some (V.ref a_script1), some (V.ref v1), some (V.int j_2.2), some (V.ref a_r1), some (tS r_7.1), some (V.ref a1), some (V.ref p3), y2, some (V.ref a_r2), some (V.ref a_r3), none, none, none]) rfl ?_
              refine q_seq ?_
              refine q_set ?_
              refine q_lst ?_
              refine q_cons ?_
              refine q_dnew ?_
              refine al_own st23.c fun p6 np5 H22 s23 hB10 nb11 => ?_
              have z5 := st23.g _ np5
              have ne5 : v1 ≠ p6 := ne_none hp16 np5
              have ne6 : p3 ≠ p6 := ne_none hp14 np5
              have hp16 := s23.h _ _ List.not_mem_nil hp16
              have hp14 := s23.h _ _ List.not_mem_nil hp14
              have st24 := st23.t0 s23
              replace hB10 : H22 p6 = some (.dK (dk kS tS ([] : (List ((List Nat) × (List Nat)))))) := hB10
              refine q_cons ?_
              refine q_dnew ?_
              refine al_own st24.c fun p7 np6 H23 s24 hB11 nb12 => ?_
              have z6 := st24.g _ np6
              have ne7 : v1 ≠ p7 := ne_none hp16 np6
              have ne8 : p3 ≠ p7 := ne_none hp14 np6
              have ne9 : p6 ≠ p7 := ne_none hB10 np6
              have hp16 := s24.h _ _ List.not_mem_nil hp16
              have hp14 := s24.h _ _ List.not_mem_nil hp14
              have hB10 := s24.h _ _ List.not_mem_nil hB10
              have st25 := st24.t0 s24
              replace hB11 : H23 p7 = some (.dK (dk kS tS ([] : (List ((List Nat) × (List Nat)))))) := hB11
              refine q_cons ?_
              refine q_dnew ?_
              refine al_own st25.c fun p8 np7 H24 s25 hB12 nb13 => ?_
              have z7 := st25.g _ np7
              have ne10 : v1 ≠ p8 := ne_none hp16 np7
              have ne11 : p3 ≠ p8 := ne_none hp14 np7
              have ne12 : p6 ≠ p8 := ne_none hB10 np7
              have ne13 : p7 ≠ p8 := ne_none hB11 np7
              have hp16 := s25.h _ _ List.not_mem_nil hp16
              have hp14 := s25.h _ _ List.not_mem_nil hp14
              have hB10 := s25.h _ _ List.not_mem_nil hB10
              have hB11 := s25.h _ _ List.not_mem_nil hB11
              have st26 := st25.t0 s25
              replace hB12 : H24 p8 = some (.dK (dk kS tS ([] : (List ((List Nat) × (List Nat)))))) := hB12
              refine q_nil ?_
              refine ⟨by show _ ≤ 16777216; simp, ?_⟩
              refine al_giv st26.c fun p9 np8 B22 H25 s26 hB13 => ?_
              have hB_script1 := sq_mono s26.b hB_script1
              have nb8 := s26.out nb8 hp16
              have hp16 := s26.h _ _ List.not_mem_nil hp16
              have hB_r1 := s26.b _ _ hB_r1
              have hB3 := s26.b _ _ hB3
              have hB4 := s26.b _ _ hB4
              have hA2 := hA2.imp fun _ _ h => mono s26.b h
              have hB_known1 := s26.b _ _ hB_known1
              have hA_known1 := hA_known1.imp fun _ _ h => mono s26.b h
              have hB_known2 := s26.b _ _ hB_known2
              have hA_known2 := hA_known2.imp fun _ _ h => mono s26.b h
              have nb9 := s26.out nb9 hp14
              have hp14 := s26.h _ _ List.not_mem_nil hp14
              have hA6 := hA6.imp fun _ _ h => mono s26.b h
              have hB_r2 := s26.b _ _ hB_r2
              have hB_r3 := s26.b _ _ hB_r3
              have nb11 := s26.out nb11 hB10
              have hB10 := s26.h _ _ List.not_mem_nil hB10
              have nb12 := s26.out nb12 hB11
              have hB11 := s26.h _ _ List.not_mem_nil hB11
              have nb13 := s26.out nb13 hB12
              have hB12 := s26.h _ _ List.not_mem_nil hB12
              have st27 := st26.t0 s26
              refine q_nx (σ' := [some (V.ref a_script1), some (V.ref v1), some (V.int j_2.2), some (V.ref a_r1), some (tS r_7.1), some (V.ref a1), some (V.ref p3), y2, some (V.ref a_r2), some (V.ref a_r3), some (V.ref p9), none, none]) rfl ?_
              refine q_seq ?_
              refine q_for ?_
              refine q_rng1 ?_
              refine q_cons ?_
              refine go (v := (V.int (r_6.1.length : Int))) (v_cb1 (v_var (by rfl)) (v_lenL (Or.inl (Or.inl (Or.inl (st27.c _ _ hB_r1)))) (by simp))) ?_
              refine q_nil ?_
              obtain ⟨q4, e⟩ := ask_some e
              refine ⟨_, rfl, q4.1, q4.2, ?_⟩
              obtain ⟨r_14, er2, e⟩ := bind_some e
              refine for_N (Inv := fun (s : ((List Int) × (List ((List Nat) × (List Nat))) × (List ((List Nat) × (List Nat))) × (List ((List Nat) × (List Nat))))) σ H => ∃ (B : Hp) (y_k : Option V) (vs_back : List V), σ = [some (V.ref a_script1), some (V.ref v1), some (V.int j_2.2), some (V.ref a_r1), some (tS r_7.1), some (V.ref a1), some (V.ref p3), y2, some (V.ref a_r2), some (V.ref a_r3), some (V.ref p9), y_k, none] ∧ Ex B22 B ∧ Stp [] B0 H0 B H ∧ B v1 = none ∧ H v1 = some (.lst (s.1.map V.int)) ∧ B p3 = none ∧ H p3 = some (.lst vs_back) ∧ All2 ((rT3 rI rI rI) B) vs_back r_9 ∧ B p6 = none ∧ H p6 = some (.dK (dk kS tS s.2.1)) ∧ B p7 = none ∧ H p7 = some (.dK (dk kS tS s.2.2.1)) ∧ B p8 = none ∧ H p8 = some (.dK (dk kS tS s.2.2.2))) er2 ?_ ?_ ?_ ?_ ?_
              · exact ⟨B22, _, _, rfl, (Ex.refl B22), st27, nb8, hp16, nb9, hp14, hA6, nb11, hB10, nb12, hB11, nb13, hB12⟩
              · exact rng0_st
              · exact rng0_go
              ·
                rintro i2 x2 ⟨c_stock1, c_tables01, c_tables11, c_tables21⟩ t2 _ H26 hx2 ⟨B23, y3, vs5, rfl, ex7, st28, nb14, hp17, nb15, hp18, hA9, nb16, hp19, nb17, hp20, nb18, hp21⟩ ef2 v14 Hy2 hy3 N2 hN2
                replace hp17 : H26 v1 = some (.lst (c_stock1.map V.int)) := hp17
                replace hp18 : H26 p3 = some (.lst vs5) := hp18
                replace hA9 : All2 ((rT3 rI rI rI) B23) vs5 r_9 := hA9
                replace hp19 : H26 p6 = some (.dK (dk kS tS c_tables01)) := hp19
                replace hp20 : H26 p7 = some (.dK (dk kS tS c_tables11)) := hp20
                replace hp21 : H26 p8 = some (.dK (dk kS tS c_tables21)) := hp21
                have hB_script1 := sq_mono ex7 hB_script1
                have hB_r1 := ex7 _ _ hB_r1
                have hB3 := ex7 _ _ hB3
                have hB4 := ex7 _ _ hB4
                have hA2 := hA2.imp fun _ _ h => mono ex7 h
                have hB_known1 := ex7 _ _ hB_known1
                have hA_known1 := hA_known1.imp fun _ _ h => mono ex7 h
                have hB_known2 := ex7 _ _ hB_known2
                have hA_known2 := hA_known2.imp fun _ _ h => mono ex7 h
                have hB_r2 := ex7 _ _ hB_r2
                have hB_r3 := ex7 _ _ hB_r3
                have hB13 := ex7 _ _ hB13
                change law_b1 r_12 r_6 r_13 x2 c_stock1 c_tables01 c_tables11 c_tables21 = some t2 at ef2
                unfold law_b1 at ef2
                obtain ⟨rfl, rfl⟩ := rng0_yld hy3 hx2
                refine q_gname ?_
                refine q_st (σ' := [some (V.ref a_script1), some (V.ref v1), some (V.int j_2.2), some (V.ref a_r1), some (tS r_7.1), some (V.ref a1), some (V.ref p3), y2, some (V.ref a_r2), some (V.ref a_r3), some (V.ref p9), some (V.int x2), none]) rfl ?_
                refine q_seq ?_
                refine q_dput ?_
                refine q_call ?_
                refine q_cons ?_
                refine go (v := (V.ref v1)) (v_var (by rfl)) ?_
                refine q_cons ?_
                refine go (v := (V.ref a_r2)) (v_var (by rfl)) ?_
                refine q_nil ?_
                obtain ⟨r_15, e_r_15, ef2⟩ := bind_some ef2
                refine ⟨B23, v1, c_stock1, (V.ref a_r2), r_12.1, r_15, st28.c, rfl, nb14, hp17, ⟨a_r2, _, rfl, hB_r2, all2S _⟩, e_r_15, ?_⟩
                intro v15 B24 H27 s27 hp22 h15
                obtain rfl := h15
                have s28 := s27.keepB st28.c (nin_all nb14)
                have hp18 := s28.h _ _ (nin1 (Ne.symm ne2)) hp18
                have hp19 := s28.h _ _ (nin1 (Ne.symm ne5)) hp19
                have hp20 := s28.h _ _ (nin1 (Ne.symm ne7)) hp20
                have hp21 := s28.h _ _ (nin1 (Ne.symm ne10)) hp21
                have st29 := st28.loc s28 z1
                refine go (v := (V.ref p6)) (v_op (v_var (by rfl)) v_c (v_ixL (Or.inl (Or.inl (st29.c _ _ hB13))) rfl)) ?_
                obtain ⟨x_1, e_x_1, ef2⟩ := bind_some ef2
                refine go (v := (tS x_1)) (v_op (v_var (by rfl)) (v_var (by rfl)) (v_ixL (Or.inl (Or.inl (st29.c _ _ hB_r1))) (atI_map e_x_1))) ?_
                obtain ⟨q5, ef2⟩ := ask_some ef2
                refine dput_go (k := x_1) (x := r_15.1) (f := tS) (fun _ _ => kS_inj) st29 (Or.inl z5) nb16 hp19 q5 fun H28 st30 hp23 kp2 => ?_
                have hp22 := kp2 _ _ ne5 hp22
                have hp18 := kp2 _ _ ne6 hp18
                have hp20 := kp2 _ _ (Ne.symm ne9) hp20
                have hp21 := kp2 _ _ (Ne.symm ne12) hp21
                refine q_seq ?_
                refine q_dput ?_
                obtain ⟨x_2, e_x_2, ef2⟩ := bind_some ef2
                refine go (v := (tS x_2)) (v_op (v_var (by rfl)) v_c (v_ixL (Or.inl (Or.inl (st30.c _ _ hB_r2))) (atI_map e_x_2))) ?_
                refine go (v := (V.ref p7)) (v_op (v_var (by rfl)) v_c (v_ixL (Or.inl (Or.inl (st30.c _ _ hB13))) rfl)) ?_
                obtain ⟨x_3, e_x_3, ef2⟩ := bind_some ef2
                refine go (v := (tS x_3)) (v_op (v_var (by rfl)) (v_var (by rfl)) (v_ixL (Or.inl (Or.inl (st30.c _ _ hB_r1))) (atI_map e_x_3))) ?_
                obtain ⟨q6, ef2⟩ := ask_some ef2
                refine dput_go (k := x_3) (x := x_2) (f := tS) (fun _ _ => kS_inj) st30 (Or.inl z6) nb17 hp20 q6 fun H29 st31 hp24 kp3 => ?_
                have hp22 := kp3 _ _ ne7 hp22
                have hp18 := kp3 _ _ ne8 hp18
                have hp23 := kp3 _ _ ne9 hp23
                have hp21 := kp3 _ _ (Ne.symm ne13) hp21
                refine q_dput ?_
                obtain ⟨x_4, e_x_4, ef2⟩ := bind_some ef2
                refine go (v := (tS x_4)) (v_op (v_var (by rfl)) (v_var (by rfl)) (v_ixL (Or.inl (Or.inl (st31.c _ _ hB_r3))) (atI_map e_x_4))) ?_
                refine go (v := (V.ref p8)) (v_op (v_var (by rfl)) v_c (v_ixL (Or.inl (Or.inl (st31.c _ _ hB13))) rfl)) ?_
                obtain ⟨x_5, e_x_5, ef2⟩ := bind_some ef2
                refine go (v := (tS x_5)) (v_op (v_var (by rfl)) (v_var (by rfl)) (v_ixL (Or.inl (Or.inl (st31.c _ _ hB_r1))) (atI_map e_x_5))) ?_
                obtain ⟨q7, ef2⟩ := ask_some ef2
                refine dput_go (k := x_5) (x := x_4) (f := tS) (fun _ _ => kS_inj) st31 (Or.inl z7) nb18 hp21 q7 fun H30 st32 hp25 kp4 => ?_
                have hp22 := kp4 _ _ ne10 hp22
                have hp18 := kp4 _ _ ne11 hp18
                have hp23 := kp4 _ _ ne12 hp23
                have hp24 := kp4 _ _ ne13 hp24
                obtain rfl := Option.some.inj ef2
                exact hN2 _ _ ⟨B23, _, _, rfl, ex7, st32, nb14, hp22, nb15, hp18, hA9, nb16, hp23, nb17, hp24, nb18, hp25⟩
              ·
                rintro _ H31 ⟨B25, y4, vs6, rfl, ex8, st33, nb19, hp26, nb20, hp27, hA10, nb21, hp28, nb22, hp29, nb23, hp30⟩
                replace hp26 : H31 v1 = some (.lst (r_14.1.map V.int)) := hp26
                replace hp27 : H31 p3 = some (.lst vs6) := hp27
                replace hA10 : All2 ((rT3 rI rI rI) B25) vs6 r_9 := hA10
                replace hp28 : H31 p6 = some (.dK (dk kS tS r_14.2.1)) := hp28
                replace hp29 : H31 p7 = some (.dK (dk kS tS r_14.2.2.1)) := hp29
                replace hp30 : H31 p8 = some (.dK (dk kS tS r_14.2.2.2)) := hp30
                have hB_script1 := sq_mono ex8 hB_script1
                have hB_r1 := ex8 _ _ hB_r1
                have hB3 := ex8 _ _ hB3
                have hB4 := ex8 _ _ hB4
                have hA2 := hA2.imp fun _ _ h => mono ex8 h
                have hB_known1 := ex8 _ _ hB_known1
                have hA_known1 := hA_known1.imp fun _ _ h => mono ex8 h
                have hB_known2 := ex8 _ _ hB_known2
                have hA_known2 := hA_known2.imp fun _ _ h => mono ex8 h
                have hB_r2 := ex8 _ _ hB_r2
                have hB_r3 := ex8 _ _ hB_r3
                have hB13 := ex8 _ _ hB13
                refine q_seq ?_
                refine q_for ?_
                refine q_itl ?_
                refine go (v := (V.ref p9)) (v_var (by rfl)) ?_
                obtain ⟨B26, st34, ex9, hB14, out3⟩ := give st33 hp28 z5
                have hB_script1 := sq_mono ex9 hB_script1
                have nb19 := out3 _ ne5 nb19
                have hB_r1 := ex9 _ _ hB_r1
                have hB3 := ex9 _ _ hB3
                have hB4 := ex9 _ _ hB4
                have hA2 := hA2.imp fun _ _ h => mono ex9 h
                have hB_known1 := ex9 _ _ hB_known1
                have hA_known1 := hA_known1.imp fun _ _ h => mono ex9 h
                have hB_known2 := ex9 _ _ hB_known2
                have hA_known2 := hA_known2.imp fun _ _ h => mono ex9 h
                have nb20 := out3 _ ne6 nb20
                have hA10 := hA10.imp fun _ _ h => mono ex9 h
                have hB_r2 := ex9 _ _ hB_r2
                have hB_r3 := ex9 _ _ hB_r3
                have hB13 := ex9 _ _ hB13
                have nb22 := out3 _ (Ne.symm ne9) nb22
                have nb23 := out3 _ (Ne.symm ne12) nb23
                obtain ⟨B27, st35, ex10, hB15, out4⟩ := give st34 hp29 z6
                have hB_script1 := sq_mono ex10 hB_script1
                have nb19 := out4 _ ne7 nb19
                have hB_r1 := ex10 _ _ hB_r1
                have hB3 := ex10 _ _ hB3
                have hB4 := ex10 _ _ hB4
                have hA2 := hA2.imp fun _ _ h => mono ex10 h
                have hB_known1 := ex10 _ _ hB_known1
                have hA_known1 := hA_known1.imp fun _ _ h => mono ex10 h
                have hB_known2 := ex10 _ _ hB_known2
                have hA_known2 := hA_known2.imp fun _ _ h => mono ex10 h
                have nb20 := out4 _ ne8 nb20
                have hA10 := hA10.imp fun _ _ h => mono ex10 h
                have hB_r2 := ex10 _ _ hB_r2
                have hB_r3 := ex10 _ _ hB_r3
                have hB13 := ex10 _ _ hB13
                have nb23 := out4 _ (Ne.symm ne13) nb23
                have hB14 := ex10 _ _ hB14
                obtain ⟨B28, st36, ex11, hB16, out5⟩ := give st35 hp30 z7
                have hB_script1 := sq_mono ex11 hB_script1
                have nb19 := out5 _ ne10 nb19
                have hB_r1 := ex11 _ _ hB_r1
                have hB3 := ex11 _ _ hB3
                have hB4 := ex11 _ _ hB4
                have hA2 := hA2.imp fun _ _ h => mono ex11 h
                have hB_known1 := ex11 _ _ hB_known1
                have hA_known1 := hA_known1.imp fun _ _ h => mono ex11 h
                have hB_known2 := ex11 _ _ hB_known2
                have hA_known2 := hA_known2.imp fun _ _ h => mono ex11 h
                have nb20 := out5 _ ne11 nb20
                have hA10 := hA10.imp fun _ _ h => mono ex11 h
                have hB_r2 := ex11 _ _ hB_r2
                have hB_r3 := ex11 _ _ hB_r3
                have hB13 := ex11 _ _ hB13
                have hB14 := ex11 _ _ hB14
                have hB15 := ex11 _ _ hB15
                have hA11 : All2 ((rD kS tS) B28) [(V.ref p6), (V.ref p7), (V.ref p8)] [r_14.2.1, r_14.2.2.1, r_14.2.2.2] := (All2.cons ⟨p6, rfl, hB14⟩ (All2.cons ⟨p7, rfl, hB15⟩ (All2.cons ⟨p8, rfl, hB16⟩ All2.nil)))
                refine ⟨_, rfl, ⟨_, (Or.inl (Or.inl (st36.c _ _ hB13)))⟩, ?_⟩
                obtain ⟨r_16, er3, e⟩ := bind_some e
                refine for_R (Inv := fun (s : Unit) σ H => ∃ (B : Hp) (y_table : Option V) (vs_back : List V), σ = [some (V.ref a_script1), some (V.ref v1), some (V.int j_2.2), some (V.ref a_r1), some (tS r_7.1), some (V.ref a1), some (V.ref p3), y2, some (V.ref a_r2), some (V.ref a_r3), some (V.ref p9), y4, y_table] ∧ Ex B28 B ∧ Stp [] B0 H0 B H ∧ B v1 = none ∧ H v1 = some (.lst (r_14.1.map V.int)) ∧ B p3 = none ∧ H p3 = some (.lst vs_back) ∧ All2 ((rT3 rI rI rI) B) vs_back r_9) er3 ?_ ?_ ?_ ?_ ?_
                · exact ⟨B28, _, _, rfl, (Ex.refl B28), st36, nb19, hp26, nb20, hp27, hA10⟩
                · refine lst_st (vs := [(V.ref p6), (V.ref p7), (V.ref p8)]) ?_ hA11.length
                  rintro s σ H ⟨B, _, _, rfl, ex, st, _, _, _, _, _⟩
                  exact Or.inl (Or.inl (st.c _ _ (ex _ _ hB13)))
                · refine lst_go (vs := [(V.ref p6), (V.ref p7), (V.ref p8)]) ?_ hA11.length
                  rintro s σ H ⟨B, _, _, rfl, ex, st, _, _, _, _, _⟩
                  exact Or.inl (Or.inl (st.c _ _ (ex _ _ hB13)))
                ·
                  rintro i3 x3 _ t3 _ H32 hx3 ⟨B29, y5, vs7, rfl, ex12, st37, nb24, hp31, nb25, hp32, hA12⟩ ef3 v16 Hy3 hy4 N3 _ hN3
                  replace hp31 : H32 v1 = some (.lst (r_14.1.map V.int)) := hp31
                  replace hp32 : H32 p3 = some (.lst vs7) := hp32
                  replace hA12 : All2 ((rT3 rI rI rI) B29) vs7 r_9 := hA12
                  have hB_script1 := sq_mono ex12 hB_script1
                  have hB_r1 := ex12 _ _ hB_r1
                  have hB3 := ex12 _ _ hB3
                  have hB4 := ex12 _ _ hB4
                  have hA2 := hA2.imp fun _ _ h => mono ex12 h
                  have hB_known1 := ex12 _ _ hB_known1
                  have hA_known1 := hA_known1.imp fun _ _ h => mono ex12 h
                  have hB_known2 := ex12 _ _ hB_known2
                  have hA_known2 := hA_known2.imp fun _ _ h => mono ex12 h
                  have hB_r2 := ex12 _ _ hB_r2
                  have hB_r3 := ex12 _ _ hB_r3
                  have hB13 := ex12 _ _ hB13
                  have hA11 := hA11.imp fun _ _ h => mono ex12 h
                  change law_b2 r_7 y_1 x3  = some t3 at ef3
                  unfold law_b2 at ef3
                  obtain ⟨rfl, hv2⟩ := lst_yld hy4 (Or.inl (Or.inl (st37.c _ _ hB13)))
                  have hr2 := hA11.get hv2 hx3
                  obtain ⟨a_x2, rfl, hB_x2⟩ := hr2
                  refine q_gname ?_
                  refine q_st (σ' := [some (V.ref a_script1), some (V.ref v1), some (V.int j_2.2), some (V.ref a_r1), some (tS r_7.1), some (V.ref a1), some (V.ref p3), y2, some (V.ref a_r2), some (V.ref a_r3), some (V.ref p9), y4, some (V.ref a_x2)]) rfl ?_
                  refine q_if ?_
                  refine q_not ?_
                  refine q_tB ?_
                  refine q_call ?_
                  refine q_cons ?_
                  refine go (v := (tS r_7.1)) (v_var (by rfl)) ?_
                  refine q_cons ?_
                  refine go (v := (V.ref a_x2)) (v_var (by rfl)) ?_
                  refine q_cons ?_
                  refine go (v := (V.ref a1)) (v_var (by rfl)) ?_
                  refine q_nil ?_
                  obtain ⟨r_17, e_r_17, ef3⟩ := bind_some ef3
                  refine ⟨B29, r_7.1, (V.ref a_x2), x3, (V.ref a1), y_1, r_17, st37.c, rfl, ⟨a_x2, rfl, hB_x2⟩, ⟨a1, _, _, _, rfl, hB3, ⟨p2, _, rfl, hB4, hA2⟩, ⟨a_known1, _, rfl, hB_known1, hA_known1⟩, ⟨a_known2, _, rfl, hB_known2, hA_known2⟩⟩, e_r_17, ?_⟩
                  intro v17 B30 H33 s29 h16
                  obtain rfl := h16
                  have s30 := s29.keepB st37.c (fun _ z => absurd z List.not_mem_nil)
                  have hp31 := s30.h _ _ List.not_mem_nil hp31
                  have hp32 := s30.h _ _ List.not_mem_nil hp32
                  have st38 := st37.t0 s30
                  by_cases hb : r_17 = true
                  · have ef3 := if_inv_t hb ef3
                    refine ⟨true, by rw [hb], ?_⟩
                    refine if_f rfl ?_
                    refine q_next ?_
                    obtain rfl := Option.some.inj ef3
                    exact hN3 _ _ ⟨B29, _, _, rfl, ex12, st38, nb24, hp31, nb25, hp32, hA12⟩
                  · have hb := Bool.eq_false_iff.mpr hb
                    have ef3 := if_inv_f hb ef3
                    refine ⟨false, by rw [hb], ?_⟩
                    refine if_t rfl ?_
                    refine q_ret ?_
                    refine go (v := (V.bl false)) v_c ?_
                    obtain rfl := Option.some.inj ef3
                    rw [hN3] at e
                    replace e := fin_rt e
                    obtain rfl := Option.some.inj e
                    exact q _ _ _ st38 rfl
                ·
                  rintro s31 _ H34 hz4 ⟨B31, y6, vs8, rfl, ex13, st39, nb26, hp33, nb27, hp34, hA13⟩
                  replace hp33 : H34 v1 = some (.lst (r_14.1.map V.int)) := hp33
                  replace hp34 : H34 p3 = some (.lst vs8) := hp34
                  replace hA13 : All2 ((rT3 rI rI rI) B31) vs8 r_9 := hA13
                  have hB_script1 := sq_mono ex13 hB_script1
                  have hB_r1 := ex13 _ _ hB_r1
                  have hB3 := ex13 _ _ hB3
                  have hB4 := ex13 _ _ hB4
                  have hA2 := hA2.imp fun _ _ h => mono ex13 h
                  have hB_known1 := ex13 _ _ hB_known1
                  have hA_known1 := hA_known1.imp fun _ _ h => mono ex13 h
                  have hB_known2 := ex13 _ _ hB_known2
                  have hA_known2 := hA_known2.imp fun _ _ h => mono ex13 h
                  have hB_r2 := ex13 _ _ hB_r2
                  have hB_r3 := ex13 _ _ hB_r3
                  have hB13 := ex13 _ _ hB13
                  have hA11 := hA11.imp fun _ _ h => mono ex13 h
                  rw [hz4] at e
                  replace e := fin_nx e
                  refine q_ret ?_
                  refine go (v := (V.bl true)) v_c ?_
                  obtain rfl := Option.some.inj e
                  exact q _ _ _ st39 rfl
            · have hb := Bool.eq_false_iff.mpr hb
              have e := if_inv_f hb e
              refine ⟨false, by rw [hb], ?_⟩
              refine if_t rfl ?_
              refine q_ret ?_
              refine go (v := (V.bl false)) v_c ?_
              obtain rfl := Option.some.inj e
              exact q _ _ _ st21 rfl
theorem ok_law {P : Program} {w : World} {K : PySem.W.Frag} {mg : Str → Option Value} {base : Heap} (E : Tx K mg) : Ok P w K mg base CX0 9 "law" ["script"] (sp_law K) := by
  obtain ⟨fd, F⟩ := E.def_ 45 (d := d_law) rfl
  replace F : FunD K "law" "law" (defArgs s_law) (defBody s_law) (defScope s_law) [] [] (He.ga K "law") fd := F
  exact ⟨fd, ok_law_at E F, F.bindsN fun _ _ _ _ _ _ us hl => match us, hl with | [_], _ => rfl, F.kp, E.glo 40⟩
end K79
/-! the head: facts by names, the run (printed by my generator) -/
namespace K79
open PySem PySem.Spec PyProof.Rows L2 Wk
abbrev R : PySem.W.OpenRow := PySem.W.OpenLaw.row PySem.Challenge.rw_wordruns_k79_whole_led_words_and_runs
abbrev hk : PySem.W.Hook := hookM 8 fa fn hd ex
def ob (s : PySem.W.SharedT) : AlM := obsMG 8 fa fn hd ex (HandSHeadRun.getT s)
theorem ob_eq (s : PySem.W.SharedT) : ob s = hk.obs s.abs := obsMG_eq (HandSHeadRun.getT_eq s)
def loose0 : List PySem.Str := ["_wall", "WordError", "BadWord", "OutOfBounds", "TooMany", "UnlikeLengths", "is_letters", "is_word", "check_word", "check_range", "check_many", "_longest_stretches", "_is_power", "runs_of", "runs", "renumbered"]
def loose1 : List PySem.Str := ["Shape", "squares", "border_table", "prefix_table", "mirror_table", "periods", "is_covering", "covers", "_law_pool", "_law_draw", "_law_pick", "_law_fresh", "_law_small", "_law_text", "_law_word", "_law_letters"]
def loose2 : List PySem.Str := ["_law_least_period", "_law_runs", "_law_squares", "_law_borders", "_law_prefixes", "_law_mirrors", "_law_covers", "_law_periods", "_law_ints", "_law_rows", "_law_known", "_law_within", "_law_stays", "_law_put", "_law_led", "_law_right"]
def loose : List PySem.Str := loose0 ++ loose1 ++ loose2
theorem run (w : World) : HandSHeadRun.RunEq R (PySem.W.view R.prog [55]) hk ob 4000 loose w := by
  intro os
  kernel_rfl
end K79
/-! plain facts about what the mirrors are made of: no program in sight -/
namespace Wk
open PySem L2
/-! ### checks -/
theorem ask_t {c : Prop} [Decidable c] {β : Type} {f : Unit → Option β} (h : c) : (ask c).bind f = f () := by unfold ask; rw [if_pos h]; rfl
/-! ### ranges -/
def nrng (a b : Nat) : List Nat := List.range' a (b - a)
theorem mem_nrng {a b x : Nat} : x ∈ nrng a b ↔ a ≤ x ∧ x < b := by
  unfold nrng; rw [List.mem_range'_1]; omega
theorem nrng_len {a b : Nat} : (nrng a b).length = b - a := by unfold nrng; simp
theorem nrng_pw (a b : Nat) : (nrng a b).Pairwise (· < ·) := by unfold nrng; exact List.pairwise_lt_range'
theorem nrng_nodup (a b : Nat) : (nrng a b).Nodup := by unfold nrng; exact List.nodup_range'
theorem nrng_get {a b i : Nat} (h : i < b - a) : (nrng a b)[i]? = some (a + i) := by
  unfold nrng; rw [List.getElem?_range' h]; simp
theorem nrng_nil {a b : Nat} (h : b ≤ a) : nrng a b = [] := by unfold nrng; rw [show b - a = 0 by omega]; rfl
theorem nrng_succ {a b : Nat} (h : a ≤ b) : nrng a (b + 1) = nrng a b ++ [b] := by
  unfold nrng
  rw [show b + 1 - a = (b - a) + 1 by omega, List.range'_concat]
  simp; omega
theorem nrng_cons {a b : Nat} (h : a < b) : nrng a b = a :: nrng (a + 1) b := by
  unfold nrng
  rw [show b - a = (b - (a + 1)) + 1 by omega, List.range'_succ]
theorem nrng_app {a b c : Nat} (h : a ≤ b) (h2 : b ≤ c) : nrng a c = nrng a b ++ nrng b c := by
  unfold nrng
  rw [show c - a = (b - a) + (c - b) by omega, ← List.range'_append_1, show a + (b - a) = b by omega]
theorem rng_nat {x y : Int} {a b : Nat} (hx : x = a) (hy : (y - x).toNat = b - a) : rng x y = (nrng a b).map fun (i : Nat) => (i : Int) := by
  subst hx
  unfold rng nrng
  rw [hy]
  apply List.ext_getElem?
  intro i
  simp only [List.getElem?_map]
  by_cases h : i < b - a
  · rw [List.getElem?_range h, List.getElem?_range' h]; simp
  · rw [List.getElem?_eq_none (by simp; omega), List.getElem?_eq_none (by simp; omega)]; rfl
/-! ### loops -/
section
variable {α β σ ρ : Type}
theorem forN_map {γ : Type} (f : α → σ → Option σ) (g : γ → α) : ∀ (xs : List γ) (s : σ), forN f (xs.map g) s = forN (fun x => f (g x)) xs s
  | [], _ => rfl
  | x :: xs, s => by
    show (f (g x) s).bind _ = (f (g x) s).bind _
    congr 1; funext s'; exact forN_map f g xs s'
theorem forR_map {γ : Type} (f : α → σ → Option (Fl σ ρ)) (g : γ → α) : ∀ (xs : List γ) (s : σ), forR f (xs.map g) s = forR (fun x => f (g x)) xs s
  | [], _ => rfl
  | x :: xs, s => by
    show (f (g x) s).bind _ = (f (g x) s).bind _
    congr 1; funext t
    cases t with
    | nx s' => exact forR_map f g xs s'
    | br s' => rfl
    | rt r => rfl
theorem forN_inv {f : α → σ → Option σ} {P : Nat → σ → Prop} : ∀ {xs : List α} {s : σ} {k : Nat}, P k s → (∀ i x s, xs[i]? = some x → P (k + i) s → ∃ s', f x s = some s' ∧ P (k + i + 1) s') → ∃ s', forN f xs s = some s' ∧ P (k + xs.length) s'
  | [], s, k, h, _ => ⟨s, rfl, h⟩
  | x :: xs, s, k, h, hs => by
    obtain ⟨s', e, h'⟩ := hs 0 x s rfl h
    obtain ⟨t, e2, h2⟩ := forN_inv (f := f) (P := P) (xs := xs) (s := s') (k := k + 1) h' (fun i x s hx hp => by
      have := hs (i + 1) x s (by simpa using hx) (by rw [show k + (i + 1) = k + 1 + i by omega]; exact hp)
      rw [show k + (i + 1) + 1 = k + 1 + i + 1 by omega] at this; exact this)
    refine ⟨t, ?_, by rw [List.length_cons, show k + (xs.length + 1) = k + 1 + xs.length by omega]; exact h2⟩
    show (f x s).bind _ = _
    rw [e]; exact e2
/-- a loop over a range of naturals -/
theorem forN_rng {f : Nat → σ → Option σ} {P : Nat → σ → Prop} {a b : Nat} {s : σ} (hab : a ≤ b) (h0 : P a s) (hs : ∀ i s, a ≤ i → i < b → P i s → ∃ s', f i s = some s' ∧ P (i + 1) s') : ∃ s', forN f (nrng a b) s = some s' ∧ P b s' := by
  obtain ⟨s', e, h⟩ := forN_inv (f := f) (P := P) (xs := nrng a b) (s := s) (k := a) h0 (fun i x s hx hp => by
    have hi : i < b - a := by have := (List.getElem?_eq_some_iff.mp hx).1; rw [nrng_len] at this; exact this
    rw [nrng_get hi] at hx
    obtain rfl := Option.some.inj hx
    exact hs (a + i) s (by omega) (by omega) hp)
  rw [nrng_len, show a + (b - a) = b by omega] at h
  exact ⟨s', e, h⟩
/-- a loop that appends -/
theorem forN_flat {f : α → List β → Option (List β)} {g : α → List β} {c N : Nat} : ∀ {xs : List α} {s : List β}, (∀ x ∈ xs, (g x).length ≤ c) → (∀ x ∈ xs, ∀ s, s.length + c ≤ N → f x s = some (s ++ g x)) → s.length + xs.length * c ≤ N → forN f xs s = some (s ++ xs.flatMap g)
  | [], s, _, _, _ => by simp [forN]
  | x :: xs, s, hg, h, hn => by
    rw [List.length_cons, Nat.succ_mul] at hn
    have e := h x (List.mem_cons_self ..) s (by omega)
    show (f x s).bind _ = _
    rw [e]
    show forN f xs (s ++ g x) = _
    rw [forN_flat (c := c) (N := N) (fun y hy => hg y (List.mem_cons_of_mem _ hy)) (fun y hy => h y (List.mem_cons_of_mem _ hy)) (by
      have := hg x (List.mem_cons_self ..)
      rw [List.length_append]; omega)]
    simp
/-- a fold -/
theorem forN_fold {f : α → σ → Option σ} {g : α → σ → σ} : ∀ {xs : List α} {s : σ}, (∀ x ∈ xs, ∀ s, f x s = some (g x s)) → forN f xs s = some (xs.foldl (fun s x => g x s) s)
  | [], _, _ => rfl
  | x :: xs, s, h => by
    show (f x s).bind _ = _
    rw [h x (List.mem_cons_self ..)]
    exact forN_fold fun y hy => h y (List.mem_cons_of_mem _ hy)
theorem forR_all {f : α → σ → Option (Fl σ ρ)} {s : σ} : ∀ {xs : List α}, (∀ x ∈ xs, f x s = some (.nx s)) → forR f xs s = some (.nx s)
  | [], _ => rfl
  | x :: xs, h => by
    show (f x s).bind _ = _
    rw [h x (List.mem_cons_self ..)]
    exact forR_all fun y hy => h y (List.mem_cons_of_mem _ hy)
/-- a loop that looks for the first -/
theorem forR_find {f : α → σ → Option (Fl σ ρ)} {s : σ} {p : α → Bool} {g : α → ρ} : ∀ {xs : List α}, (∀ x ∈ xs, f x s = some (if p x = true then .rt (g x) else .nx s)) → forR f xs s = some (match xs.find? p with | some x => .rt (g x) | none => .nx s)
  | [], _ => rfl
  | x :: xs, h => by
    show (f x s).bind _ = _
    rw [h x (List.mem_cons_self ..), List.find?_cons]
    by_cases e : p x = true
    · rw [if_pos e, e]; rfl
    · rw [if_neg e]
      have e2 : p x = false := by simpa using e
      rw [e2]
      exact forR_find fun y hy => h y (List.mem_cons_of_mem _ hy)
theorem forR_inv {f : α → σ → Option (Fl σ ρ)} {P : Nat → σ → Prop} {R : ρ → Prop} : ∀ {xs : List α} {s : σ} {k : Nat}, P k s → (∀ i x s, xs[i]? = some x → P (k + i) s → (∃ s', f x s = some (.nx s') ∧ P (k + i + 1) s') ∨ ∃ r, f x s = some (.rt r) ∧ R r) → (∃ s', forR f xs s = some (.nx s') ∧ P (k + xs.length) s') ∨ ∃ r, forR f xs s = some (.rt r) ∧ R r
  | [], s, k, h, _ => .inl ⟨s, rfl, h⟩
  | x :: xs, s, k, h, hs => by
    rcases hs 0 x s rfl h with ⟨s', e, h'⟩ | ⟨r, e, hr⟩
    · have ih := forR_inv (f := f) (P := P) (R := R) (xs := xs) (s := s') (k := k + 1) h' (fun i x s hx hp => by
        have := hs (i + 1) x s (by simpa using hx) (by rw [show k + (i + 1) = k + 1 + i by omega]; exact hp)
        rw [show k + (i + 1) + 1 = k + 1 + i + 1 by omega] at this; exact this)
      rw [List.length_cons, show k + (xs.length + 1) = k + 1 + xs.length by omega]
      have e3 : forR f (x :: xs) s = forR f xs s' := by
        show (f x s).bind _ = _
        rw [e]; rfl
      rw [e3]; exact ih
    · exact .inr ⟨r, by show (f x s).bind _ = _; rw [e]; rfl, hr⟩
theorem mapO_some {f : α → Option β} {g : α → β} : ∀ {xs : List α}, (∀ x ∈ xs, f x = some (g x)) → mapO f xs = some (xs.map g)
  | [], _ => rfl
  | x :: xs, h => by
    show (f x).bind _ = _
    rw [h x (List.mem_cons_self ..), mapO_some fun y hy => h y (List.mem_cons_of_mem _ hy)]
    rfl
theorem filO_some {t : α → Option Bool} {f : α → Option β} {p : α → Bool} {g : α → β} : ∀ {xs : List α}, (∀ x ∈ xs, t x = some (p x)) → (∀ x ∈ xs, p x = true → f x = some (g x)) → filO t f xs = some ((xs.filter p).map g)
  | [], _, _ => rfl
  | x :: xs, h, h2 => by
    have ih := filO_some (t := t) (f := f) (p := p) (g := g) (xs := xs) (fun y hy => h y (List.mem_cons_of_mem _ hy)) (fun y hy => h2 y (List.mem_cons_of_mem _ hy))
    show (t x).bind _ = _
    rw [h x (List.mem_cons_self ..), List.filter_cons]
    show (if p x = true then (f x).bind _ else filO t f xs) = _
    by_cases e : p x = true
    · rw [if_pos e, if_pos e, h2 x (List.mem_cons_self ..) e]
      show (filO t f xs).bind _ = _
      rw [ih]; rfl
    · rw [if_neg e, if_neg e]; exact ih
theorem whileN_inv {c : σ → Option Bool} {f : σ → Option σ} {P : σ → Prop} (μ : σ → Nat) (h : ∀ s, P s → c s = some false ∨ (c s = some true ∧ ∃ s', f s = some s' ∧ P s' ∧ μ s' < μ s)) : ∀ (n : Nat) (s : σ), P s → μ s < n → ∃ s', whileN c f n s = some s' ∧ P s' ∧ c s' = some false
  | 0, _, _, hn => absurd hn (Nat.not_lt_zero _)
  | n + 1, s, hp, hn => by
    rcases h s hp with e | ⟨e, s', e2, hp', hm⟩
    · refine ⟨s, ?_, hp, e⟩
      show (c s).bind _ = _
      rw [e]; rfl
    · obtain ⟨t, e3, h3⟩ := whileN_inv μ h n s' hp' (by omega)
      refine ⟨t, ?_, h3⟩
      show (c s).bind _ = _
      rw [e]
      show (f s).bind _ = _
      rw [e2]; exact e3
end
/-! ### places of lists and texts -/
section
variable {α : Type}
theorem atI_nat (l : List α) (i : Nat) : atI l (i : Int) = l[i]? := by
  unfold atI ixN
  rw [if_pos (by omega)]
  by_cases h : (i : Int) < l.length
  · rw [if_pos h]; simp
  · rw [if_neg h, List.getElem?_eq_none (by omega)]; rfl
theorem atI_int {l : List α} {x : Int} {i : Nat} (h : x = i) : atI l x = l[i]? := by rw [h, atI_nat]
theorem sIx_n {n d : Nat} {x : Int} {k : Nat} (h : x = k) : HT.sIx n d (some x) = min k n := by rw [h]; exact HT.sIx_nat n d k
theorem cutT_lo {l : List α} {x : Int} {a : Nat} (h : x = a) : cutT l (some x) none = l.drop a := by
  unfold cutT
  rw [sIx_n h, HT.sIx_none]
  by_cases k : a ≤ l.length
  · rw [Nat.min_eq_left k, List.take_of_length_le (by simp)]
  · rw [Nat.min_eq_right (by omega), List.drop_eq_nil_of_le (Nat.le_refl _), List.drop_eq_nil_of_le (by omega)]; simp
theorem cutT_hi {l : List α} {x : Int} {b : Nat} (h : x = b) : cutT l none (some x) = l.take b := by
  unfold cutT
  rw [sIx_n h, HT.sIx_none]
  by_cases k : b ≤ l.length
  · rw [Nat.min_eq_left k]; simp
  · rw [Nat.min_eq_right (by omega), List.drop_zero, List.take_of_length_le (by omega), List.take_of_length_le (by omega)]
theorem cutT_lh {l : List α} {x y : Int} {a b : Nat} (h : x = a) (h2 : y = b) : cutT l (some x) (some y) = (l.drop a).take (b - a) := by
  unfold cutT
  rw [sIx_n h, sIx_n h2]
  by_cases k : a ≤ l.length
  · rw [Nat.min_eq_left k]
    by_cases k2 : b ≤ l.length
    · rw [Nat.min_eq_left k2]
    · rw [Nat.min_eq_right (by omega), List.take_of_length_le (by simp), List.take_of_length_le (by simp; omega)]
  · rw [Nat.min_eq_right (show l.length ≤ a by omega), List.drop_eq_nil_of_le (Nat.le_refl _), List.drop_eq_nil_of_le (by omega)]; simp
end
/-! ### texts -/
theorem prefB_eq (p l : List Nat) : prefB p l = decide (l.take p.length = p) := by
  unfold prefB Txt.startswith
  rw [StrLaws.subAt_eq]
  show (decide (0 + p.length ≤ l.length) && ((l.drop 0).take p.length == p)) = _
  rw [List.drop_zero, Nat.zero_add]
  by_cases h : l.take p.length = p
  · have h1 : p.length ≤ l.length := by
      have := congrArg List.length h
      rw [List.length_take] at this; omega
    rw [decide_eq_true h1, decide_eq_true h, h]; simp
  · rw [decide_eq_false h]
    have : (l.take p.length == p) = false := by simpa using h
    rw [this, Bool.and_false]
def Occ (l p : List Nat) (k : Nat) : Prop := k + p.length ≤ l.length ∧ (l.drop k).take p.length = p
theorem occ_stays (s sub : Str) (hi : Nat) : ∀ (l : List Nat) (st : Array Nat × Nat), 1 ≤ st.fst.size → Id.run (forIn l st (StrLaws.occBody s sub hi 1)) = st
  | [], _, _ => rfl
  | a :: l, st, h => by
    rw [List.forIn_cons]
    unfold StrLaws.occBody
    rw [if_neg (fun z => by have := z.1.1.1; omega)]
    exact occ_stays s sub hi l st h
theorem occ_first (s sub : Str) (hi : Nat) : ∀ (n lo : Nat), 
    (∃ k, (Id.run (forIn (List.range' lo n) ((#[] : Array Nat), lo) (StrLaws.occBody s sub hi 1))).fst = #[k] ∧ lo ≤ k ∧ k < lo + n ∧ (k + sub.length ≤ hi ∧ Builtin.Str.subAt s sub k = true) ∧ ∀ j, lo ≤ j → j < k → ¬ (j + sub.length ≤ hi ∧ Builtin.Str.subAt s sub j = true)) ∨
    ((Id.run (forIn (List.range' lo n) ((#[] : Array Nat), lo) (StrLaws.occBody s sub hi 1))).fst = #[] ∧ ∀ j, lo ≤ j → j < lo + n → ¬ (j + sub.length ≤ hi ∧ Builtin.Str.subAt s sub j = true)) := by
  suffices H : ∀ (n lo free : Nat), free ≤ lo → 
    (∃ k, (Id.run (forIn (List.range' lo n) ((#[] : Array Nat), free) (StrLaws.occBody s sub hi 1))).fst = #[k] ∧ lo ≤ k ∧ k < lo + n ∧ (k + sub.length ≤ hi ∧ Builtin.Str.subAt s sub k = true) ∧ ∀ j, lo ≤ j → j < k → ¬ (j + sub.length ≤ hi ∧ Builtin.Str.subAt s sub j = true)) ∨
    ((Id.run (forIn (List.range' lo n) ((#[] : Array Nat), free) (StrLaws.occBody s sub hi 1))).fst = #[] ∧ ∀ j, lo ≤ j → j < lo + n → ¬ (j + sub.length ≤ hi ∧ Builtin.Str.subAt s sub j = true)) from fun n lo => H n lo lo (Nat.le_refl _)
  intro n
  induction n with
  | zero => intro lo free _; exact .inr ⟨rfl, fun j h1 h2 => by omega⟩
  | succ n ih =>
    intro lo free hf
    rw [List.range'_succ, List.forIn_cons]
    by_cases hc : lo + sub.length ≤ hi ∧ Builtin.Str.subAt s sub lo = true
    · refine .inl ⟨lo, ?_, Nat.le_refl _, by omega, hc, fun j h1 h2 => by omega⟩
      rw [show StrLaws.occBody s sub hi 1 lo ((#[] : Array Nat), free) = pure (ForInStep.yield (#[lo], lo + sub.length)) from by
        unfold StrLaws.occBody
        rw [if_pos ⟨⟨⟨by simp, hf⟩, hc.1⟩, hc.2⟩]; rfl]
      show (Id.run (forIn (List.range' (lo + 1) n) (#[lo], lo + sub.length) (StrLaws.occBody s sub hi 1))).fst = _
      rw [occ_stays s sub hi _ _ (by simp)]
    · rw [show StrLaws.occBody s sub hi 1 lo ((#[] : Array Nat), free) = pure (ForInStep.yield ((#[] : Array Nat), free)) from by
        unfold StrLaws.occBody
        rw [if_neg (fun z => hc ⟨z.1.2, z.2⟩)]]
      rcases ih (lo + 1) free (by omega) with ⟨k, e, h1, h2, h3, h4⟩ | ⟨e, h4⟩
      · refine .inl ⟨k, e, by omega, by omega, h3, fun j j1 j2 => ?_⟩
        by_cases q : j = lo
        · rw [q]; exact hc
        · exact h4 j (by omega) j2
      · refine .inr ⟨e, fun j j1 j2 => ?_⟩
        by_cases q : j = lo
        · rw [q]; exact hc
        · exact h4 j (by omega) (by omega)
theorem occ_iff (l p : List Nat) (k : Nat) : (k + (⟨p.toArray⟩ : Str).length ≤ (⟨l.toArray⟩ : Str).length ∧ Builtin.Str.subAt ⟨l.toArray⟩ ⟨p.toArray⟩ k = true) ↔ Occ l p k := by
  rw [StrLaws.subAt_eq]
  show (k + p.length ≤ l.length ∧ ((l.drop k).take p.length == p) = true) ↔ _
  rw [beq_iff_eq]; exact Iff.rfl
theorem findT_spec (l p : List Nat) (i : Nat) : (∃ k : Nat, findT l p (i : Int) = (k : Int) ∧ i ≤ k ∧ Occ l p k ∧ ∀ j, i ≤ j → j < k → ¬ Occ l p j) ∨ (findT l p (i : Int) = -1 ∧ ∀ j, i ≤ j → ¬ Occ l p j) := by
  unfold findT Txt.find3
  rw [show fromIndex (⟨l.toArray⟩ : Str).length (i : Int) = i from by unfold fromIndex; rw [if_neg (by omega)]; omega, StrLaws.occ_eq]
  rcases occ_first ⟨l.toArray⟩ ⟨p.toArray⟩ (⟨l.toArray⟩ : Str).length ((⟨l.toArray⟩ : Str).length + 1 - i) i with ⟨k, e, h1, h2, h3, h4⟩ | ⟨e, h4⟩
  · rw [e]
    exact .inl ⟨k, rfl, h1, (occ_iff l p k).mp h3, fun j j1 j2 z => h4 j j1 j2 ((occ_iff l p j).mpr z)⟩
  · rw [e]
    refine .inr ⟨rfl, fun j j1 z => ?_⟩
    have h1 : j + p.length ≤ l.length := z.1
    exact h4 j j1 (by show j < i + (l.length + 1 - i); omega) ((occ_iff l p j).mpr z)
theorem joinT_nil (ls : List (List Nat)) : joinT [] ls = ls.flatten := by
  unfold joinT
  rw [show Txt.join = fun y parts => Str.join y parts from funext fun y => funext fun p => StrLaws.glued_eq_join y p]
  induction ls with
  | nil => rfl
  | cons x r ih =>
    cases r with
    | nil => simp [Str.join]
    | cons y q =>
      show ((⟨x.toArray⟩ : Str) ++ (⟨([] : List Nat).toArray⟩ : Str) ++ Str.join _ ((y :: q).map fun (l : List Nat) => (⟨l.toArray⟩ : Str))).cps.toList = _
      show (x.toArray ++ #[] ++ (Str.join (⟨([] : List Nat).toArray⟩ : Str) ((y :: q).map fun (l : List Nat) => (⟨l.toArray⟩ : Str))).cps).toList = _
      rw [Array.toList_append, ih]; simp
/-! ### sorted lists -/
theorem sort_uniq {α : Type} {code : α → List Int} {xs ys : List α} (hx : xs.Nodup) (hy : ys.Nodup) (hs : ys.Pairwise fun a b => lexW (code b) (code a) = false) (hm : ∀ a, a ∈ xs ↔ a ∈ ys)
    (inj : ∀ a b, lexW (code b) (code a) = false → lexW (code a) (code b) = false → a = b) : sortT code xs = ys :=
  List.Perm.eq_of_pairwise (le := fun a b => lexW (code b) (code a) = false) (fun a b _ _ h1 h2 => inj a b h1 h2) (sortT_srt code xs) hs ((sortT_perm code xs).trans ((List.perm_ext_iff_of_nodup hx hy).mpr hm))
def ltP (a b : Int × Int) : Prop := a.1 < b.1 ∨ (a.1 = b.1 ∧ a.2 < b.2)
def ltT (a b : Int × Int × Int) : Prop := a.1 < b.1 ∨ (a.1 = b.1 ∧ a.2.1 < b.2.1)
theorem codeP_lt (a b : Int × Int) : lexW (codeP a) (codeP b) = true ↔ ltP a b := by
  unfold lexW codeP ltP
  rw [if_pos (show [a.1, a.2].length = [b.1, b.2].length from rfl)]
  show (if a.1 = b.1 then (if a.2 = b.2 then lexL [] [] else decide (a.2 < b.2)) else decide (a.1 < b.1)) = true ↔ _
  by_cases h1 : a.1 = b.1
  · rw [if_pos h1]
    by_cases h2 : a.2 = b.2
    · rw [if_pos h2]
      constructor
      · intro z; cases z
      · intro z; omega
    · rw [if_neg h2, decide_eq_true_eq]; omega
  · rw [if_neg h1, decide_eq_true_eq]; omega
theorem codeP_anti (a b : Int × Int) (h1 : lexW (codeP b) (codeP a) = false) (h2 : lexW (codeP a) (codeP b) = false) : a = b := by
  have h1 : ¬ ltP b a := fun z => by rw [(codeP_lt b a).mpr z] at h1; cases h1
  have h2 : ¬ ltP a b := fun z => by rw [(codeP_lt a b).mpr z] at h2; cases h2
  unfold ltP at h1 h2
  exact Prod.ext (by omega) (by omega)
theorem codeP_le {a b : Int × Int} (h : ltP a b) : lexW (codeP b) (codeP a) = false := by
  cases q : lexW (codeP b) (codeP a) with
  | false => rfl
  | true =>
    have := (codeP_lt b a).mp q
    unfold ltP at *; omega
def ltT3 (a b : Int × Int × Int) : Prop := a.1 < b.1 ∨ (a.1 = b.1 ∧ (a.2.1 < b.2.1 ∨ (a.2.1 = b.2.1 ∧ a.2.2 < b.2.2)))
theorem codeT_lt (a b : Int × Int × Int) : lexW (codeT a) (codeT b) = true ↔ ltT3 a b := by
  unfold lexW codeT ltT3
  rw [if_pos (show [a.1, a.2.1, a.2.2].length = [b.1, b.2.1, b.2.2].length from rfl)]
  show (if a.1 = b.1 then (if a.2.1 = b.2.1 then (if a.2.2 = b.2.2 then lexL [] [] else decide (a.2.2 < b.2.2)) else decide (a.2.1 < b.2.1)) else decide (a.1 < b.1)) = true ↔ _
  by_cases h1 : a.1 = b.1
  · rw [if_pos h1]
    by_cases h2 : a.2.1 = b.2.1
    · rw [if_pos h2]
      by_cases h3 : a.2.2 = b.2.2
      · rw [if_pos h3]
        constructor
        · intro z; cases z
        · intro z; omega
      · rw [if_neg h3, decide_eq_true_eq]; omega
    · rw [if_neg h2, decide_eq_true_eq]; omega
  · rw [if_neg h1, decide_eq_true_eq]; omega
theorem codeT_anti (a b : Int × Int × Int) (h1 : lexW (codeT b) (codeT a) = false) (h2 : lexW (codeT a) (codeT b) = false) : a = b := by
  have h1 : ¬ ltT3 b a := fun z => by rw [(codeT_lt b a).mpr z] at h1; cases h1
  have h2 : ¬ ltT3 a b := fun z => by rw [(codeT_lt a b).mpr z] at h2; cases h2
  unfold ltT3 at h1 h2
  exact Prod.ext (by omega) (Prod.ext (by omega) (by omega))
theorem codeT_le {a b : Int × Int × Int} (h : ltT a b) : lexW (codeT b) (codeT a) = false := by
  cases q : lexW (codeT b) (codeT a) with
  | false => rfl
  | true =>
    have := (codeT_lt b a).mp q
    unfold ltT ltT3 at *; omega
theorem sortT_of {xs ys : List (Int × Int × Int)} (hx : xs.Nodup) (hs : ys.Pairwise ltT) (hm : ∀ a, a ∈ xs ↔ a ∈ ys) : sortT codeT xs = ys :=
  sort_uniq hx (hs.imp fun h e => by subst e; unfold ltT at h; omega) (hs.imp codeT_le) hm codeT_anti
theorem sortP_of {xs ys : List (Int × Int)} (hx : xs.Nodup) (hs : ys.Pairwise ltP) (hm : ∀ a, a ∈ xs ↔ a ∈ ys) : sortT codeP xs = ys :=
  sort_uniq hx (hs.imp fun h e => by subst e; unfold ltP at h; omega) (hs.imp codeP_le) hm codeP_anti
end Wk
/-! k79, plain part 1: periods of stretches -/
namespace K79
open PySem L2 Wk
/-! ### two letters of the word -/
theorem cmpAt {w : List Nat} (hL : w.length ≤ L24) {x y : Int} {i j : Nat} (hx : x = i) (hy : y = j) (hi : i < w.length) (hj : j < w.length) :
    ((ask (w.length ≤ L24)).bind fun _ => (atI w x).bind fun c1 => (ask (w.length ≤ L24)).bind fun _ => (atI w y).bind fun c2 => some (decide ([c1] = [c2]))) = some (decide (w[i]? = w[j]?)) := by
  rw [ask_t hL, atI_int hx, List.getElem?_eq_getElem hi]
  show (ask (w.length ≤ L24)).bind _ = _
  rw [ask_t hL, atI_int hy, List.getElem?_eq_getElem hj]
  show some (decide ([w[i]] = [w[j]])) = _
  congr 1
  rw [decide_eq_decide]; simp
theorem cmpNe {w : List Nat} (hL : w.length ≤ L24) {x y : Int} {i j : Nat} (hx : x = i) (hy : y = j) (hi : i < w.length) (hj : j < w.length) :
    ((ask (w.length ≤ L24)).bind fun _ => (atI w x).bind fun c1 => (ask (w.length ≤ L24)).bind fun _ => (atI w y).bind fun c2 => some (decide ([c1] ≠ [c2]))) = some (decide (w[i]? ≠ w[j]?)) := by
  rw [ask_t hL, atI_int hx, List.getElem?_eq_getElem hi]
  show (ask (w.length ≤ L24)).bind _ = _
  rw [ask_t hL, atI_int hy, List.getElem?_eq_getElem hj]
  show some (decide ([w[i]] ≠ [w[j]])) = _
  congr 1
  rw [decide_eq_decide]; simp
theorem condAt {c : Prop} [Decidable c] {m : Option Bool} {b : Bool} (h : c → m = some b) : (if decide c = true then m else some false) = some (decide c && b) := by
  by_cases k : c
  · rw [if_pos (decide_eq_true k), h k, decide_eq_true k]; rfl
  · rw [if_neg (by simp [k]), decide_eq_false k]; rfl
theorem smul_lt {i j : Int} (h : i.natAbs + j.natAbs < 1000000) : Wk.SMul i j := by
  unfold Wk.SMul
  have h1 := Nat.log2_le_self i.natAbs
  have h2 := Nat.log2_le_self j.natAbs
  omega
theorem sdiv_lt {i j : Int} (h0 : 0 < j) (h : j.natAbs < 9000) : SDiv i j := by
  have h2 := Nat.log2_le_self j.natAbs
  exact ⟨h0, by omega⟩
theorem rng1_ok {j : Int} (h : -1000000 ≤ j) (h2 : j < 1000000) : Rng1 j := by unfold Rng1; omega
theorem rng2_ok {i j : Int} (h : -1000000 ≤ j) (h2 : j < 1000000) (h3 : -1000000 ≤ i) (h4 : i < 1000000) : Rng2 i j := by unfold Rng2; omega
/-! ### periods -/
/-- the places s .. e-1 of w have the period p -/
def Per (w : List Nat) (s e p : Nat) : Prop := ∀ j, s ≤ j → j + p < e → w[j]? = w[j + p]?
def perB (w : List Nat) (s e p : Nat) : Bool := (nrng s (e - p)).all fun j => decide (w[j]? = w[j + p]?)
theorem perB_iff {w : List Nat} {s e p : Nat} : perB w s e p = true ↔ Per w s e p := by
  unfold perB Per
  rw [List.all_eq_true]
  constructor
  · intro h j h1 h2
    exact of_decide_eq_true (h j (mem_nrng.mpr ⟨h1, by omega⟩))
  · intro h j hj
    have := mem_nrng.mp hj
    exact decide_eq_true (h j this.1 (by omega))
theorem Per.sub {w : List Nat} {s e s' e' p : Nat} (h : Per w s e p) (h1 : s ≤ s') (h2 : e' ≤ e) : Per w s' e' p := fun j a b => h j (by omega) (by omega)
theorem Per.add {w : List Nat} {s e p : Nat} (h : Per w s e p) (m : Nat) : ∀ j, s ≤ j → j + m * p < e → w[j]? = w[j + m * p]? := by
  induction m with
  | zero => intro j _ _; simp
  | succ m ih =>
    intro j h1 h2
    rw [Nat.succ_mul] at h2 ⊢
    rw [ih j h1 (by omega), h (j + m * p) (by omega) (by omega), Nat.add_assoc]
theorem Per.mul {w : List Nat} {s e p q : Nat} (h : Per w s e p) (d : p ∣ q) : Per w s e q := by
  obtain ⟨m, rfl⟩ := d
  intro j h1 h2
  rw [Nat.mul_comm] at h2 ⊢
  exact h.add m j h1 h2
/-- Fine and Wilf, the weak form -/
theorem fw {w : List Nat} {s e : Nat} : ∀ (n p q : Nat), p + q = n → 0 < p → 0 < q → s + (p + q) ≤ e → Per w s e p → Per w s e q → Per w s e (Nat.gcd p q) := by
  intro n
  induction n using Nat.strongRecOn with
  | ind n ih =>
    intro p q hn hp hq hl a b
    have step : ∀ (p q : Nat), 0 < p → p < q → s + (p + q) ≤ e → Per w s e p → Per w s e q → Per w s e (q - p) := by
      intro p q hp hpq hl a b j h1 h2
      by_cases k : j + q < e
      · rw [b j h1 k]
        have := a (j + (q - p)) (by omega) (by omega)
        rw [show j + (q - p) + p = j + q by omega] at this
        exact this.symm
      · have h3 := a (j - p) (by omega) (by omega)
        rw [show j - p + p = j by omega] at h3
        have h4 := b (j - p) (by omega) (by omega)
        rw [show j - p + q = j + (q - p) by omega] at h4
        rw [← h3, h4]
    rcases Nat.lt_trichotomy p q with h | h | h
    · have r := ih (p + (q - p)) (by omega) p (q - p) rfl hp (by omega) (by omega) a (step p q hp h hl a b)
      have e1 : Nat.gcd p (q - p) = Nat.gcd p q := by rw [Nat.gcd_sub_self_right (by omega)]
      rw [← e1]; exact r
    · subst h; rw [Nat.gcd_self]; exact a
    · have r := ih ((p - q) + q) (by omega) (p - q) q rfl (by omega) hq (by omega) (step q p hq h (by omega) b a) b
      have e1 : Nat.gcd (p - q) q = Nat.gcd p q := by rw [Nat.gcd_sub_self_left (by omega)]
      rw [← e1]; exact r
/-- the least period -/
structure Least (w : List Nat) (s e k : Nat) : Prop where
  pos : 1 ≤ k
  per : Per w s e k
  min : ∀ q, 1 ≤ q → q < k → ¬ Per w s e q
theorem Least.uniq {w : List Nat} {s e k k' : Nat} (h : Least w s e k) (h' : Least w s e k') : k = k' := by
  rcases Nat.lt_trichotomy k k' with c | c | c
  · exact absurd h.per (h'.min k h.pos c)
  · exact c
  · exact absurd h'.per (h.min k' h'.pos c)
theorem Least.dvd {w : List Nat} {s e k p : Nat} (h : Least w s e k) (hp : Per w s e p) (h0 : 0 < p) (hl : s + (k + p) ≤ e) : k ∣ p := by
  have g := fw _ k p rfl h.pos h0 hl h.per hp
  have gp : 0 < Nat.gcd k p := Nat.gcd_pos_of_pos_left _ h.pos
  have gl : Nat.gcd k p ≤ k := Nat.gcd_le_left _ h.pos
  have ge : Nat.gcd k p = k := by
    rcases Nat.lt_or_ge (Nat.gcd k p) k with c | c
    · exact absurd g (h.min _ gp c)
    · omega
  rw [← ge]; exact Nat.gcd_dvd_right k p
def leastP (w : List Nat) (s e : Nat) : Nat := ((nrng 1 (e - s)).find? fun k => perB w s e k).getD (e - s)
theorem find_nrng {p : Nat → Bool} {a b k : Nat} (h : (nrng a b).find? p = some k) : a ≤ k ∧ k < b ∧ p k = true ∧ ∀ j, a ≤ j → j < k → p j = false := by
  have h1 := List.find?_some h
  have h2 := mem_nrng.mp (List.mem_of_find?_eq_some h)
  refine ⟨h2.1, h2.2, h1, fun j j1 j2 => ?_⟩
  rw [nrng_app (show a ≤ k by omega) (show k ≤ b by omega), List.find?_append] at h
  cases q : (nrng a k).find? p with
  | none =>
    have := List.find?_eq_none.mp q j (mem_nrng.mpr ⟨j1, j2⟩)
    simpa using this
  | some x =>
    rw [q] at h
    have hx := mem_nrng.mp (List.mem_of_find?_eq_some q)
    have : x = k := by simpa using h
    omega
theorem find_nrng_none {p : Nat → Bool} {a b : Nat} (h : (nrng a b).find? p = none) : ∀ j, a ≤ j → j < b → p j = false := fun j j1 j2 => by
  have := List.find?_eq_none.mp h j (mem_nrng.mpr ⟨j1, j2⟩)
  simpa using this
theorem leastP_ok {w : List Nat} {s e : Nat} (h : s < e) : Least w s e (leastP w s e) ∧ leastP w s e ≤ e - s := by
  unfold leastP
  cases q : (nrng 1 (e - s)).find? fun k => perB w s e k with
  | none =>
    have n := find_nrng_none q
    refine ⟨⟨by show 1 ≤ e - s; omega, fun j h1 h2 => ?_, fun k k1 k2 hp => ?_⟩, Nat.le_refl _⟩
    · have h3 : j + (e - s) < e := h2
      omega
    · have := n k k1 k2
      rw [perB_iff.mpr hp] at this; cases this
  | some k =>
    obtain ⟨h1, h2, h3, h4⟩ := find_nrng q
    refine ⟨⟨h1, perB_iff.mp h3, fun j j1 j2 hp => ?_⟩, by show k ≤ _; omega⟩
    have := h4 j j1 j2
    rw [perB_iff.mpr hp] at this; cases this
/-- a stretch -/
def sub (w : List Nat) (s e : Nat) : List Nat := (w.drop s).take (e - s)
theorem sub_len {w : List Nat} {s e : Nat} (h : e ≤ w.length) : (sub w s e).length = e - s := by unfold sub; rw [List.length_take, List.length_drop]; omega
theorem sub_get {w : List Nat} {s e i : Nat} (h : i < e - s) : (sub w s e)[i]? = w[s + i]? := by
  unfold sub
  rw [List.getElem?_take, if_pos h, List.getElem?_drop]
theorem ext_le {a b : List Nat} {n : Nat} (h1 : a.length = n) (h2 : b.length = n) : a = b ↔ ∀ i, i < n → a[i]? = b[i]? := by
  constructor
  · intro h; subst h; intro _ _; rfl
  · intro h
    apply List.ext_getElem?
    intro i
    by_cases k : i < n
    · exact h i k
    · rw [List.getElem?_eq_none (by omega), List.getElem?_eq_none (by omega)]
theorem per_pref {w : List Nat} {k : Nat} (hk : k ≤ w.length) : w.take (w.length - k) = w.drop k ↔ Per w 0 w.length k := by
  rw [ext_le (n := w.length - k) (by rw [List.length_take]; omega) (by rw [List.length_drop])]
  constructor
  · intro h j _ h2
    have := h j (by omega)
    rw [List.getElem?_take, if_pos (by omega), List.getElem?_drop, Nat.add_comm] at this
    exact this
  · intro h i hi
    rw [List.getElem?_take, if_pos hi, List.getElem?_drop, Nat.add_comm]
    exact h i (Nat.zero_le _) (by omega)
theorem per_sub {w : List Nat} {s e k : Nat} (he : e ≤ w.length) : Per (sub w s e) 0 (e - s) k ↔ Per w s e k := by
  constructor
  · intro h j h1 h2
    have := h (j - s) (Nat.zero_le _) (by omega)
    rw [sub_get (by omega), sub_get (by omega), show s + (j - s) = j by omega, show s + (j - s + k) = j + k by omega] at this
    exact this
  · intro h j _ h2
    rw [sub_get (by omega), sub_get (by omega), ← Nat.add_assoc]
    exact h (s + j) (by omega) (by omega)
theorem startsB {w : List Nat} {x : Int} {k : Nat} (hx : x = k) (hk : k ≤ w.length) : prefB (cutT w (some x) none) w = perB w 0 w.length k := by
  rw [prefB_eq, cutT_lo hx, Bool.eq_iff_iff, decide_eq_true_eq, perB_iff, List.length_drop]
  exact per_pref hk
theorem least_period_eq {t : List Nat} (hL : t.length ≤ 1000) (h1 : 1 ≤ t.length) : m_l_least_period t = some ((leastP t 0 t.length : Nat) : Int) := by
  have hL2 : t.length ≤ L24 := by show _ ≤ 16777216; omega
  unfold m_l_least_period
  rw [ask_t hL2, ask_t (rng2_ok (by omega) (by omega) (by omega) (by omega)), rng_nat (x := 1) (y := (t.length : Int)) (a := 1) (b := t.length) rfl (by omega), forR_map,
    forR_find (p := fun k => perB t 0 t.length k) (g := fun k => (k : Int)) (fun k hk => by
      have := mem_nrng.mp hk
      unfold l_least_period_b0
      rw [ask_t hL2, startsB rfl (by omega)]
      by_cases c : perB t 0 t.length k = true
      · rw [if_pos c, if_pos c]
      · rw [if_neg c, if_neg c])]
  unfold leastP
  rw [Nat.sub_zero]
  cases (nrng 1 t.length).find? fun k => perB t 0 t.length k with
  | none =>
    show (ask _).bind _ = _
    rw [ask_t hL2]; rfl
  | some k => rfl
theorem least_sub {w : List Nat} {s e : Nat} (hL : w.length ≤ 1000) (he : e ≤ w.length) (h : s < e) : m_l_least_period (sub w s e) = some ((leastP w s e : Nat) : Int) := by
  have hl := sub_len (s := s) he
  rw [least_period_eq (by rw [hl]; omega) (by rw [hl]; omega), hl]
  congr 2
  unfold leastP
  rw [Nat.sub_zero]
  congr 2
  funext k
  rw [Bool.eq_iff_iff, perB_iff, perB_iff]
  exact per_sub he
end K79
/-! k79, plain part 2: the runs by trying all stretches -/
namespace K79
open PySem L2 Wk
structure Run (w : List Nat) (s e k : Nat) : Prop where
  he : e ≤ w.length
  least : Least w s e k
  len : s + 2 * k ≤ e
  right : e < w.length → w[e]? ≠ w[e - k]?
  left : 0 < s → w[s - 1]? ≠ w[s - 1 + k]?
def tri (s e k : Nat) : Int × Int × Int := ((s : Int), (e : Int), (k : Int))
theorem tri_inj {s e k s' e' k' : Nat} (h : tri s e k = tri s' e' k') : s = s' ∧ e = e' ∧ k = k' := by
  unfold tri at h
  simp only [Prod.mk.injEq] at h
  omega
def runOk (w : List Nat) (s e : Nat) : Bool :=
  decide (2 * leastP w s e ≤ e - s) && !((decide (e < w.length) && decide (w[e]? = w[e - leastP w s e]?)) || (decide (0 < s) && decide (w[s - 1]? = w[s - 1 + leastP w s e]?)))
theorem runOk_iff {w : List Nat} {s e : Nat} (hs : s < e) (he : e ≤ w.length) : runOk w s e = true ↔ Run w s e (leastP w s e) := by
  unfold runOk
  obtain ⟨hl, hle⟩ := leastP_ok (w := w) hs
  simp only [Bool.and_eq_true, Bool.not_eq_true', Bool.or_eq_false_iff, Bool.and_eq_false_iff, decide_eq_true_eq, decide_eq_false_iff_not]
  constructor
  · rintro ⟨h1, h2, h3⟩
    exact ⟨he, hl, by omega, fun h => h2.resolve_left (fun z => z h), fun h => h3.resolve_left (fun z => z h)⟩
  · rintro ⟨_, _, h1, h2, h3⟩
    refine ⟨by omega, ?_, ?_⟩
    · by_cases c : e < w.length
      · exact .inr (h2 c)
      · exact .inl c
    · by_cases c : 0 < s
      · exact .inr (h3 c)
      · exact .inl c
def runsIn (w : List Nat) (s e : Nat) : List (Int × Int × Int) := if runOk w s e = true then [tri s e (leastP w s e)] else []
theorem if_join {c : Bool} {b : Bool} : (if c = true then some true else some b) = some (b || c) := by cases c <;> cases b <;> rfl
theorem l_runs_b1_eq {w : List Nat} (hL : w.length ≤ 1000) {s e : Nat} (hs : s + 2 ≤ e) (he : e ≤ w.length) (found : List (Int × Int × Int)) (hf : found.length + 1 ≤ L24) :
    l_runs_b1 w (s : Int) (e : Int) found = some (found ++ runsIn w s e) := by
  have hL2 : w.length ≤ L24 := by show _ ≤ 16777216; omega
  obtain ⟨hl, hle⟩ := leastP_ok (w := w) (show s < e by omega)
  have hp := hl.pos
  unfold l_runs_b1
  rw [ask_t hL2, cutT_lh (a := s) (b := e) rfl rfl, show (w.drop s).take (e - s) = sub w s e from rfl, least_sub hL he (by omega), Option.bind_some, ask_t (smul_lt (by omega))]
  unfold runsIn runOk
  generalize hk : leastP w s e = k at *
  by_cases h2 : 2 * k ≤ e - s
  · rw [if_pos (decide_eq_true (by omega)), condAt (b := decide (w[e]? = w[e - k]?)) (fun h => cmpAt hL2 (i := e) (j := e - k) rfl (by omega) (by omega) (by omega)), Option.bind_some,
      condAt (b := decide (w[s - 1]? = w[s - 1 + k]?)) (fun h => cmpAt hL2 (i := s - 1) (j := s - 1 + k) (by omega) (by omega) (by omega) (by omega)), Option.bind_some, if_join, Option.bind_some]
    rw [show decide ((e : Int) < (w.length : Int)) = decide (e < w.length) from decide_eq_decide.mpr (by omega), show decide ((s : Int) > 0) = decide (0 < s) from decide_eq_decide.mpr (by omega), decide_eq_true h2, Bool.true_and]
    cases (decide (e < w.length) && decide (w[e]? = w[e - k]?)) || (decide (0 < s) && decide (w[s - 1]? = w[s - 1 + k]?)) with
    | true => simp
    | false =>
      rw [if_pos (by rfl), if_pos (by rfl), ask_t (show found.length < L24 by omega)]
      rfl
  · rw [if_neg (by simp; omega), decide_eq_false h2, Bool.false_and, if_neg (by simp), List.append_nil]
def runsFrom (w : List Nat) (s : Nat) : List (Int × Int × Int) := (nrng (s + 2) (w.length + 1)).flatMap fun e => runsIn w s e
def runsL (w : List Nat) : List (Int × Int × Int) := (nrng 0 w.length).flatMap fun s => runsFrom w s
theorem runsIn_len (w : List Nat) (s e : Nat) : (runsIn w s e).length ≤ 1 := by unfold runsIn; split <;> simp
theorem flat_len {α β : Type} {g : α → List β} {c : Nat} : ∀ {xs : List α}, (∀ x ∈ xs, (g x).length ≤ c) → (xs.flatMap g).length ≤ xs.length * c
  | [], _ => by simp
  | x :: xs, h => by
    rw [List.flatMap_cons, List.length_append, List.length_cons, Nat.succ_mul]
    have h1 := h x (List.mem_cons_self ..)
    have h2 := flat_len (g := g) (c := c) (xs := xs) fun y hy => h y (List.mem_cons_of_mem _ hy)
    omega
theorem runsFrom_len (w : List Nat) (s : Nat) : (runsFrom w s).length ≤ w.length := by
  have h := flat_len (g := fun e => runsIn w s e) (c := 1) (xs := nrng (s + 2) (w.length + 1)) fun e _ => runsIn_len w s e
  rw [nrng_len] at h
  show (List.flatMap _ _).length ≤ _
  omega
theorem l_runs_eq {w : List Nat} (hL : w.length ≤ 1000) : m_l_runs w = some (runsL w) := by
  have hL2 : w.length ≤ L24 := by show _ ≤ 16777216; omega
  unfold m_l_runs
  rw [ask_t hL2, ask_t (rng1_ok (by omega) (by omega)), rng_nat (x := 0) (y := (w.length : Int)) (a := 0) (b := w.length) rfl (by omega), forN_map,
    forN_flat (g := fun s => runsFrom w s) (c := 1000) (N := 10000000) (fun s _ => by have := runsFrom_len w s; omega) (fun s hs found hf => by
      have hs := mem_nrng.mp hs
      unfold l_runs_b0
      rw [ask_t (rng2_ok (by omega) (by omega) (by omega) (by omega)), rng_nat (x := (s : Int) + 2) (y := (w.length : Int) + 1) (a := s + 2) (b := w.length + 1) (by omega) (by omega), forN_map,
        forN_flat (g := fun e => runsIn w s e) (c := 1) (N := L24) (fun e _ => runsIn_len w s e) (fun e he found hf => by
          have he := mem_nrng.mp he
          exact l_runs_b1_eq hL (by omega) (by omega) found hf) (by rw [nrng_len]; show _ ≤ 16777216; omega)]
      rfl) (by rw [nrng_len]; simp; omega)]
  rw [List.nil_append]; rfl
theorem mem_runsL {w : List Nat} {x : Int × Int × Int} : x ∈ runsL w ↔ ∃ s e k, x = tri s e k ∧ Run w s e k := by
  unfold runsL runsFrom runsIn
  simp only [List.mem_flatMap, mem_nrng]
  constructor
  · rintro ⟨s, ⟨_, hs⟩, e, ⟨he1, he2⟩, hx⟩
    by_cases c : runOk w s e = true
    · rw [if_pos c, List.mem_singleton] at hx
      exact ⟨s, e, _, hx, (runOk_iff (by omega) (by omega)).mp c⟩
    · rw [if_neg c] at hx; cases hx
  · rintro ⟨s, e, k, rfl, r⟩
    have h1 := r.least.pos
    have h2 := r.len
    have h3 := r.he
    refine ⟨s, ⟨Nat.zero_le _, by omega⟩, e, ⟨by omega, by omega⟩, ?_⟩
    have hk : leastP w s e = k := (leastP_ok (w := w) (show s < e by omega)).1.uniq r.least
    rw [if_pos ((runOk_iff (by omega) (by omega)).mpr (by rw [hk]; exact r)), hk]
    exact List.mem_singleton.mpr rfl
theorem runsL_pw (w : List Nat) : (runsL w).Pairwise ltT := by
  have hin : ∀ {s e : Nat} {x : Int × Int × Int}, x ∈ runsIn w s e → x.1 = s ∧ x.2.1 = e := by
    intro s e x hx
    unfold runsIn at hx
    by_cases c : runOk w s e = true
    · rw [if_pos c, List.mem_singleton] at hx; subst hx; exact ⟨rfl, rfl⟩
    · rw [if_neg c] at hx; cases hx
  have hfr : ∀ {s : Nat} {x : Int × Int × Int}, x ∈ runsFrom w s → x.1 = s := by
    intro s x hx
    unfold runsFrom at hx
    obtain ⟨e, _, hx⟩ := List.mem_flatMap.mp hx
    exact (hin hx).1
  unfold runsL
  rw [List.pairwise_flatMap]
  refine ⟨fun s _ => ?_, (nrng_pw 0 w.length).imp fun {a b} hab x hx y hy => .inl (by rw [hfr hx, hfr hy]; omega)⟩
  unfold runsFrom
  rw [List.pairwise_flatMap]
  refine ⟨fun e _ => ?_, (nrng_pw _ _).imp fun {a b} hab x hx y hy => .inr ⟨by rw [(hin hx).1, (hin hy).1], by rw [(hin hx).2, (hin hy).2]; omega⟩⟩
  unfold runsIn
  split
  · simp
  · exact .nil
theorem runsL_nodup (w : List Nat) : (runsL w).Nodup := (runsL_pw w).imp fun h e => by subst e; unfold ltT at h; omega
theorem runsL_len {w : List Nat} (hL : w.length ≤ 1000) : (runsL w).length ≤ 1000000 := by
  have h := flat_len (g := fun s => runsFrom w s) (c := 1000) (xs := nrng 0 w.length) fun s _ => by have := runsFrom_len w s; omega
  rw [nrng_len] at h
  show (List.flatMap _ _).length ≤ _
  omega
end K79
/-! k79, plain part 3: the runs by the longest stretches -/
namespace K79
open PySem L2 Wk
structure Stch (w : List Nat) (p s e : Nat) : Prop where
  he : e ≤ w.length
  len : s + 2 * p ≤ e
  per : Per w s e p
  right : e < w.length → w[e]? ≠ w[e - p]?
  left : 0 < s → w[s - 1]? ≠ w[s - 1 + p]?
def pr (s e : Nat) : Int × Int := ((s : Int), (e : Int))
theorem pr_inj {s e s' e' : Nat} (h : pr s e = pr s' e') : s = s' ∧ e = e' := by
  unfold pr at h
  simp only [Prod.mk.injEq] at h
  omega
structure LInv (w : List Nat) (p i : Nat) (st : List (Int × Int) × Int) (a : Nat) : Prop where
  sa : st.2 = (a : Int)
  ai : a + p ≤ i
  per : Per w a i p
  left : 0 < a → w[a - 1]? ≠ w[a - 1 + p]?
  len : st.1.length ≤ i
  mem : ∀ x, x ∈ st.1 ↔ ∃ s e, x = pr s e ∧ e < i ∧ Stch w p s e
  pw : st.1.Pairwise fun x y => x.2 < y.2
theorem longest_step {w : List Nat} (hL : w.length ≤ 1000) {p i : Nat} (hp : 1 ≤ p) (h1 : p ≤ i) (h2 : i ≤ w.length) {st : List (Int × Int) × Int} {a : Nat} (h : LInv w p i st a) :
    ∃ st', longest_stretches_b0 w (p : Int) (i : Int) st.1 st.2 = some st' ∧ ∃ a', LInv w p (i + 1) st' a' := by
  have hL2 : w.length ≤ L24 := by show _ ≤ 16777216; omega
  obtain ⟨found, start⟩ := st
  obtain ⟨rfl, ai, per, left, len, mem, pw⟩ := h
  unfold longest_stretches_b0
  rw [ask_t hL2, condAt (b := decide (w[i]? = w[i - p]?)) (fun h => cmpAt hL2 (i := i) (j := i - p) rfl (by omega) (by omega) (by omega)), Option.bind_some,
    show decide ((i : Int) < (w.length : Int)) = decide (i < w.length) from decide_eq_decide.mpr (by omega)]
  by_cases c : i < w.length ∧ w[i]? = w[i - p]?
  · rw [decide_eq_true c.1, decide_eq_true c.2, Bool.and_self, if_pos rfl]
    refine ⟨_, rfl, a, rfl, by omega, fun j j1 j2 => ?_, left, by show found.length ≤ _; exact Nat.le_succ_of_le len, fun x => ?_, pw⟩
    · by_cases q : j + p < i
      · exact per j j1 q
      · have e1 : j = i - p := by omega
        have e2 : j + p = i := by omega
        rw [e2, e1]; exact c.2.symm
    · rw [mem]
      constructor
      · rintro ⟨s, e, rfl, he, hs⟩; exact ⟨s, e, rfl, by omega, hs⟩
      · rintro ⟨s, e, rfl, he, hs⟩
        refine ⟨s, e, rfl, ?_, hs⟩
        rcases Nat.lt_or_ge e i with q | q
        · exact q
        · have : e = i := by omega
          subst this
          exact absurd c.2 (hs.right c.1)
  · have cf : (decide (i < w.length) && decide (w[i]? = w[i - p]?)) = false := by
      rw [Bool.and_eq_false_iff, decide_eq_false_iff_not, decide_eq_false_iff_not]
      by_cases q : i < w.length
      · exact .inr fun z => c ⟨q, z⟩
      · exact .inl q
    rw [cf, if_neg (by simp), ask_t (smul_lt (by omega))]
    have hleft : w[i - p]? ≠ w[i]? := by
      by_cases q : i < w.length
      · exact fun z => c ⟨q, z.symm⟩
      · rw [List.getElem?_eq_none (show w.length ≤ i by omega), List.getElem?_eq_getElem (show i - p < w.length by omega)]; simp
    have per' : Per w (i - p + 1) (i + 1) p := fun j j1 j2 => by omega
    have left' : 0 < i - p + 1 → w[i - p + 1 - 1]? ≠ w[i - p + 1 - 1 + p]? := fun _ => by
      rw [Nat.add_sub_cancel, show i - p + p = i by omega]; exact hleft
    have hu : ∀ s, Stch w p s i → s = a := fun s hs => by
      rcases Nat.lt_trichotomy s a with q | q | q
      · have := hs.per (a - 1) (by omega) (by omega)
        exact absurd this (left (by omega))
      · exact q
      · have := per (s - 1) (by omega) (by have := hs.len; omega)
        exact absurd this (hs.left (by omega))
    by_cases c2 : a + 2 * p ≤ i
    · rw [if_pos (decide_eq_true (by omega)), ask_t (show found.length < L24 by show _ < 16777216; have : found.length ≤ i := len; omega), Option.bind_some]
      have ha : Stch w p a i := ⟨h2, c2, per, fun q z => hleft z.symm, left⟩
      refine ⟨_, rfl, i - p + 1, by show (i : Int) - p + 1 = _; omega, by omega, per', left', by simp only [List.length_append, List.length_singleton]; have : found.length ≤ i := len; omega, fun x => ?_, ?_⟩
      · rw [List.mem_append, List.mem_singleton, mem]
        constructor
        · rintro (⟨s, e, rfl, he, hs⟩ | rfl)
          · exact ⟨s, e, rfl, by omega, hs⟩
          · exact ⟨a, i, rfl, by omega, ha⟩
        · rintro ⟨s, e, rfl, he, hs⟩
          rcases Nat.lt_or_ge e i with q | q
          · exact .inl ⟨s, e, rfl, q, hs⟩
          · have : e = i := by omega
            subst this
            rw [hu s hs]; exact .inr rfl
      · rw [List.pairwise_append]
        refine ⟨pw, by simp, fun x hx y hy => ?_⟩
        rw [List.mem_singleton] at hy
        subst hy
        obtain ⟨s, e, rfl, he, _⟩ := (mem x).mp hx
        show (e : Int) < (i : Int)
        omega
    · rw [if_neg (by simp; omega), Option.bind_some]
      refine ⟨_, rfl, i - p + 1, by show (i : Int) - p + 1 = _; omega, by omega, per', left', Nat.le_succ_of_le len, fun x => ?_, pw⟩
      rw [mem]
      constructor
      · rintro ⟨s, e, rfl, he, hs⟩; exact ⟨s, e, rfl, by omega, hs⟩
      · rintro ⟨s, e, rfl, he, hs⟩
        refine ⟨s, e, rfl, ?_, hs⟩
        rcases Nat.lt_or_ge e i with q | q
        · exact q
        · have : e = i := by omega
          subst this
          have := hu s hs
          subst this
          exact absurd hs.len c2
theorem longest_eq {w : List Nat} (hL : w.length ≤ 1000) {p : Nat} (hp : 1 ≤ p) (hp2 : p ≤ w.length) : ∃ F, m_longest_stretches w (p : Int) = some F ∧ F.length ≤ w.length + 1 ∧ (F.Pairwise fun x y => x.2 < y.2) ∧ ∀ x, x ∈ F ↔ ∃ s e, x = pr s e ∧ Stch w p s e := by
  have hL2 : w.length ≤ L24 := by show _ ≤ 16777216; omega
  unfold m_longest_stretches
  rw [ask_t hL2, ask_t (rng2_ok (by omega) (by omega) (by omega) (by omega)), rng_nat (x := (p : Int)) (y := (w.length : Int) + 1) (a := p) (b := w.length + 1) rfl (by omega), forN_map]
  obtain ⟨st, e, a, h⟩ := forN_rng (f := fun (i : Nat) s => longest_stretches_b0 w (p : Int) (i : Int) s.1 s.2) (P := fun i st => ∃ a, LInv w p i st a) (a := p) (b := w.length + 1) (s := (([] : List (Int × Int)), (0 : Int))) (by omega)
    ⟨0, rfl, by omega, fun j _ h => by omega, fun h => by omega, by simp, fun x => ⟨fun h => (by cases h), fun ⟨s, e, _, he, hs⟩ => by have := hs.len; omega⟩, .nil⟩
    (fun i st h1 h2 ⟨a, h⟩ => longest_step hL hp h1 (by omega) h)
  rw [e]
  refine ⟨st.1, rfl, h.len, h.pw, fun x => ?_⟩
  rw [h.mem]
  constructor
  · rintro ⟨s, e, hx, _, hs⟩; exact ⟨s, e, hx, hs⟩
  · rintro ⟨s, e, hx, hs⟩; exact ⟨s, e, hx, by have := hs.he; omega, hs⟩
/-! ### the primitive root -/
theorem dbl_get {w : List Nat} {p s e m : Nat} (hs : Stch w p s e) (hm : m < 2 * p) : (sub w s (s + p) ++ sub w s (s + p))[m]? = w[s + m]? := by
  have h1 := hs.he
  have h2 := hs.len
  have hl : (sub w s (s + p)).length = p := by rw [sub_len (by omega)]; omega
  by_cases c : m < p
  · rw [List.getElem?_append_left (by omega), sub_get (by omega)]
  · rw [List.getElem?_append_right (by omega), hl, sub_get (by omega)]
    have := hs.per (s + (m - p)) (by omega) (by omega)
    rw [this, show s + (m - p) + p = s + m by omega]
theorem occ_per {w : List Nat} {p s e i : Nat} (hs : Stch w p s e) (hi : i < p) : Occ (sub w s (s + p) ++ sub w s (s + p)) (sub w s (s + p)) i ↔ Per w s e i := by
  have h1 := hs.he
  have h2 := hs.len
  have hl : (sub w s (s + p)).length = p := by rw [sub_len (by omega)]; omega
  have hl2 : (sub w s (s + p) ++ sub w s (s + p)).length = 2 * p := by rw [List.length_append]; omega
  unfold Occ
  rw [hl, hl2, ext_le (n := p) (by rw [List.length_take, List.length_drop]; omega) hl]
  constructor
  · rintro ⟨_, h⟩ j j1 j2
    have hr : (j - s) % p < p := Nat.mod_lt _ (by omega)
    have hd := Nat.div_add_mod (j - s) p
    have g := h ((j - s) % p) hr
    rw [List.getElem?_take, if_pos hr, List.getElem?_drop, dbl_get hs (by omega), sub_get (by omega)] at g
    have hmul : p * ((j - s) / p) = (j - s) / p * p := Nat.mul_comm _ _
    have a1 := hs.per.add ((j - s) / p) (s + (j - s) % p) (by omega) (by omega)
    have a2 := hs.per.add ((j - s) / p) (s + (i + (j - s) % p)) (by omega) (by omega)
    rw [show s + (j - s) % p + (j - s) / p * p = j by omega] at a1
    rw [show s + (i + (j - s) % p) + (j - s) / p * p = j + i by omega] at a2
    rw [← a1, ← a2]; exact g.symm
  · intro h
    refine ⟨by omega, fun m hm => ?_⟩
    rw [List.getElem?_take, if_pos hm, List.getElem?_drop, dbl_get hs (by omega), sub_get (by omega)]
    have := h (s + m) (by omega) (by omega)
    rw [this]; congr 1; omega
def powB (t : List Nat) : Bool := decide (findT (t ++ t) t (1 : Int) < (t.length : Int))
theorem is_power_eq {t : List Nat} (h : t.length ≤ 1000) : m_is_power t = some (powB t) := by
  unfold m_is_power
  rw [ask_t (show t.length + t.length ≤ 16777216 by omega), ask_t (show t.length ≤ 16777216 by omega)]; rfl
theorem powB_iff {w : List Nat} {p s e : Nat} (hp : 1 ≤ p) (hs : Stch w p s e) : powB (sub w s (s + p)) = true ↔ ∃ i, 1 ≤ i ∧ i < p ∧ Per w s e i := by
  have h1 := hs.he
  have h2 := hs.len
  have hl : (sub w s (s + p)).length = p := by rw [sub_len (by omega)]; omega
  unfold powB
  rw [decide_eq_true_eq, hl]
  have hocc : Occ (sub w s (s + p) ++ sub w s (s + p)) (sub w s (s + p)) p := by
    refine ⟨by rw [List.length_append, hl]; exact Nat.le_refl _, ?_⟩
    rw [show (sub w s (s + p) ++ sub w s (s + p)).drop p = sub w s (s + p) from by rw [List.drop_append_of_le_length (by omega), List.drop_of_length_le (by omega), List.nil_append], List.take_of_length_le (Nat.le_refl _)]
  rcases findT_spec (sub w s (s + p) ++ sub w s (s + p)) (sub w s (s + p)) 1 with ⟨k, e1, k1, k2, k3⟩ | ⟨_, n⟩
  · rw [show ((1 : Nat) : Int) = 1 from rfl] at e1
    rw [e1]
    constructor
    · intro h
      exact ⟨k, k1, by omega, (occ_per hs (by omega)).mp k2⟩
    · rintro ⟨i, i1, i2, hi⟩
      rcases Nat.lt_or_ge i k with c | c
      · exact absurd ((occ_per hs i2).mpr hi) (k3 i i1 c)
      · omega
  · exact absurd hocc (n p hp)
theorem str_run {w : List Nat} {p s e : Nat} (hp : 1 ≤ p) (hs : Stch w p s e) : powB (sub w s (s + p)) = false ↔ Run w s e p := by
  rw [← Bool.not_eq_true, powB_iff hp hs]
  constructor
  · intro h
    exact ⟨hs.he, ⟨hp, hs.per, fun q q1 q2 hq => h ⟨q, q1, q2, hq⟩⟩, hs.len, hs.right, hs.left⟩
  · rintro r ⟨i, i1, i2, hi⟩
    exact r.least.min i i1 i2 hi
theorem Run.str {w : List Nat} {p s e : Nat} (r : Run w s e p) : Stch w p s e := ⟨r.he, r.len, r.least.per, r.right, r.left⟩
/-! ### all of them -/
theorem cut_pr {w : List Nat} {s e p : Nat} : cutT w (some (pr s e).1) (some ((pr s e).1 + (p : Int))) = sub w s (s + p) := by
  show cutT w (some (s : Int)) (some ((s : Int) + p)) = _
  rw [cutT_lh (a := s) (b := s + p) rfl (by omega)]; rfl
def longF (w : List Nat) (p : Nat) : List (Int × Int) := (m_longest_stretches w (p : Int)).getD []
def runsP (w : List Nat) (p : Nat) : List (Int × Int × Int) := (longF w p).flatMap fun x => if powB (cutT w (some x.1) (some (x.1 + (p : Int)))) = true then [] else [(x.1, x.2, (p : Int))]
def runsX (w : List Nat) : List (Int × Int × Int) := (nrng 1 (w.length / 2 + 1)).flatMap fun p => runsP w p
theorem longF_ok {w : List Nat} (hL : w.length ≤ 1000) {p : Nat} (hp : 1 ≤ p) (hp2 : p ≤ w.length) : m_longest_stretches w (p : Int) = some (longF w p) ∧ (longF w p).length ≤ w.length + 1 ∧ ((longF w p).Pairwise fun x y => x.2 < y.2) ∧ ∀ x, x ∈ longF w p ↔ ∃ s e, x = pr s e ∧ Stch w p s e := by
  obtain ⟨F, e, h⟩ := longest_eq hL hp hp2
  have : longF w p = F := by unfold longF; rw [e]; rfl
  rw [this]; exact ⟨e, h⟩
theorem one_len {α : Type} {c : Bool} {x : α} : (if c = true then ([] : List α) else [x]).length ≤ 1 := by split <;> simp
theorem runsP_len {w : List Nat} (hL : w.length ≤ 1000) {p : Nat} (hp : 1 ≤ p) (hp2 : p ≤ w.length) : (runsP w p).length ≤ w.length + 1 := by
  have h := flat_len (g := fun x => if powB (cutT w (some x.1) (some (x.1 + (p : Int)))) = true then ([] : List (Int × Int × Int)) else [(x.1, x.2, (p : Int))]) (c := 1) (xs := longF w p) fun x _ => one_len
  have := (longF_ok hL hp hp2).2.1
  show (List.flatMap _ _).length ≤ _
  omega
theorem runs_of_eq0 {w : List Nat} (hL : w.length ≤ 1000) : m_runs_of w = some (sortT codeT (runsX w)) := by
  have hL2 : w.length ≤ L24 := by show _ ≤ 16777216; omega
  unfold m_runs_of
  rw [ask_t hL2, ask_t (sdiv_lt (by omega) (by decide)), ask_t (rng2_ok (by omega) (by omega) (by omega) (by omega)),
    rng_nat (x := 1) (y := (w.length : Int) / 2 + 1) (a := 1) (b := w.length / 2 + 1) rfl (by omega), forN_map,
    forN_flat (g := fun p => runsP w p) (c := 1001) (N := 10000000) (fun p hp => by have hp := mem_nrng.mp hp; have := runsP_len hL (p := p) (by omega) (by omega); omega) (fun p hp found hf => by
      have hp := mem_nrng.mp hp
      obtain ⟨e, hl, _, hm⟩ := longF_ok hL (p := p) (by omega) (by omega)
      unfold runs_of_b0
      rw [e, Option.bind_some, forN_flat (g := fun x => if powB (cutT w (some x.1) (some (x.1 + (p : Int)))) = true then ([] : List (Int × Int × Int)) else [(x.1, x.2, (p : Int))]) (c := 1) (N := L24) (fun x _ => one_len) (fun x hx s hs => by
        obtain ⟨a, b, rfl, _⟩ := (hm x).mp hx
        unfold runs_of_b1
        rw [ask_t hL2, is_power_eq (by
          rw [cut_pr]; unfold sub; rw [List.length_take, List.length_drop]; omega), Option.bind_some]
        by_cases c : powB (cutT w (some (pr a b).1) (some ((pr a b).1 + (p : Int)))) = true
        · rw [if_pos c, if_pos c, List.append_nil]
        · rw [if_neg c, if_neg c, ask_t (show s.length < 16777216 by have : s.length + 1 ≤ 16777216 := hs; omega)]) (by show _ ≤ 16777216; omega)]
      rfl) (by rw [nrng_len]; simp; omega)]
  rw [List.nil_append]; rfl
theorem mem_runsP {w : List Nat} (hL : w.length ≤ 1000) {p : Nat} (hp : 1 ≤ p) (hp2 : p ≤ w.length) {x : Int × Int × Int} : x ∈ runsP w p ↔ ∃ s e, x = tri s e p ∧ Run w s e p := by
  have hm := (longF_ok hL hp hp2).2.2.2
  unfold runsP
  rw [List.mem_flatMap]
  constructor
  · rintro ⟨y, hy, hx⟩
    obtain ⟨s, e, rfl, hs⟩ := (hm y).mp hy
    rw [cut_pr] at hx
    by_cases c : powB (sub w s (s + p)) = true
    · rw [if_pos c] at hx; cases hx
    · rw [if_neg c, List.mem_singleton] at hx
      exact ⟨s, e, hx, (str_run hp hs).mp (by simpa using c)⟩
  · rintro ⟨s, e, rfl, r⟩
    refine ⟨pr s e, (hm _).mpr ⟨s, e, rfl, r.str⟩, ?_⟩
    rw [cut_pr, (str_run hp r.str).mpr r, if_neg (by simp)]
    exact List.mem_singleton.mpr rfl
theorem mem_runsX {w : List Nat} (hL : w.length ≤ 1000) {x : Int × Int × Int} : x ∈ runsX w ↔ ∃ s e k, x = tri s e k ∧ Run w s e k := by
  unfold runsX
  rw [List.mem_flatMap]
  constructor
  · rintro ⟨p, hp, hx⟩
    have hp := mem_nrng.mp hp
    obtain ⟨s, e, h⟩ := (mem_runsP hL (p := p) (by omega) (by omega)).mp hx
    exact ⟨s, e, p, h⟩
  · rintro ⟨s, e, k, hx, r⟩
    have h1 := r.len
    have h2 := r.he
    have h3 := r.least.pos
    exact ⟨k, mem_nrng.mpr ⟨h3, by omega⟩, (mem_runsP hL h3 (by omega)).mpr ⟨s, e, hx, r⟩⟩
theorem runsX_nodup {w : List Nat} (hL : w.length ≤ 1000) : (runsX w).Nodup := by
  show List.Pairwise _ (List.flatMap _ _)
  rw [List.pairwise_flatMap]
  refine ⟨fun p hp => ?_, (nrng_pw _ _).imp_of_mem fun {p q} hp hq hpq x hx y hy e => ?_⟩
  · have hp := mem_nrng.mp hp
    show List.Pairwise _ (List.flatMap _ _)
    rw [List.pairwise_flatMap]
    refine ⟨fun x _ => by split <;> simp, (longF_ok hL (p := p) (by omega) (by omega)).2.2.1.imp fun {a b} hab x hx y hy e => ?_⟩
    subst e
    split at hx
    · cases hx
    · split at hy
      · cases hy
      · rw [List.mem_singleton] at hx hy
        subst hx
        simp only [Prod.mk.injEq] at hy
        omega
  · have hp := mem_nrng.mp hp
    have hq := mem_nrng.mp hq
    obtain ⟨s, e', rfl, _⟩ := (mem_runsP hL (p := p) (by omega) (by omega)).mp hx
    obtain ⟨s2, e2, rfl, _⟩ := (mem_runsP hL (p := q) (by omega) (by omega)).mp hy
    have := tri_inj e
    omega
theorem runs_of_eq {w : List Nat} (hL : w.length ≤ 1000) : m_runs_of w = some (runsL w) := by
  rw [runs_of_eq0 hL, sortT_of (runsX_nodup hL) (runsL_pw w) fun x => by rw [mem_runsX hL, mem_runsL]]
end K79
/-! k79, plain part 4: squares and periods -/
namespace K79
open PySem L2 Wk
def sqB (w : List Nat) (s k : Nat) : Bool := perB w s (s + 2 * k) k
def squaresL (w : List Nat) : List (Int × Int) := (nrng 0 w.length).flatMap fun s => (nrng 1 ((w.length - s) / 2 + 1)).flatMap fun k => if sqB w s k = true then [pr s k] else []
theorem sq_cut {w : List Nat} {s k : Nat} (h : s + 2 * k ≤ w.length) : (w.drop s).take k = ((w.drop s).drop k).take (2 * k - k) ↔ sqB w s k = true := by
  unfold sqB
  rw [perB_iff, ext_le (n := k) (by rw [List.length_take, List.length_drop]; omega) (by rw [List.length_take, List.length_drop, List.length_drop]; omega)]
  constructor
  · intro h j j1 j2
    have := h (j - s) (by omega)
    rw [List.getElem?_take, if_pos (by omega), List.getElem?_drop, List.getElem?_take, if_pos (by omega), List.getElem?_drop, List.getElem?_drop] at this
    rw [show s + (j - s) = j by omega, show s + (k + (j - s)) = j + k by omega] at this
    exact this
  · intro h i hi
    rw [List.getElem?_take, if_pos (by omega), List.getElem?_drop, List.getElem?_take, if_pos (by omega), List.getElem?_drop, List.getElem?_drop]
    have := h (s + i) (by omega) (by omega)
    rw [this]; congr 1; omega
theorem one_len' {α : Type} {c : Bool} {x : α} : (if c = true then [x] else ([] : List α)).length ≤ 1 := by split <;> simp
theorem l_squares_eq {w : List Nat} (hL : w.length ≤ 1000) : m_l_squares w = some (squaresL w) := by
  have hL2 : w.length ≤ L24 := by show _ ≤ 16777216; omega
  unfold m_l_squares
  rw [ask_t hL2, ask_t (rng1_ok (by omega) (by omega)), rng_nat (x := 0) (y := (w.length : Int)) (a := 0) (b := w.length) rfl (by omega), forN_map,
    forN_flat (g := fun s => (nrng 1 ((w.length - s) / 2 + 1)).flatMap fun k => if sqB w s k = true then [pr s k] else []) (c := 1000) (N := 10000000) (fun s _ => by
      have := flat_len (g := fun k => if sqB w s k = true then [pr s k] else []) (c := 1) (xs := nrng 1 ((w.length - s) / 2 + 1)) fun k _ => one_len'
      rw [nrng_len] at this
      omega) (fun s hs found hf => by
      have hs := mem_nrng.mp hs
      unfold l_squares_b0
      rw [ask_t hL2, cutT_lo (a := s) rfl]
      have hd : (w.drop s).length = w.length - s := List.length_drop
      have hd2 : (w.drop s).length ≤ L24 := by show _ ≤ 16777216; omega
      rw [ask_t hd2, ask_t (sdiv_lt (by omega) (by decide)), hd, ask_t (rng2_ok (by omega) (by omega) (by omega) (by omega)), rng_nat (x := 1) (y := ((w.length - s : Nat) : Int) / 2 + 1) (a := 1) (b := (w.length - s) / 2 + 1) rfl (by omega), forN_map,
        forN_flat (g := fun k => if sqB w s k = true then [pr s k] else []) (c := 1) (N := L24) (fun k _ => one_len') (fun k hk found hf => by
          have hk := mem_nrng.mp hk
          unfold l_squares_b1
          rw [cutT_lo (a := s) rfl, ask_t hd2, ask_t hd2, ask_t (smul_lt (by omega)), cutT_hi (b := k) rfl, cutT_lh (a := k) (b := 2 * k) rfl (by omega)]
          by_cases c : sqB w s k = true
          · rw [if_pos (decide_eq_true ((sq_cut (by omega)).mpr c)), if_pos c, ask_t (show found.length < 16777216 by have : found.length + 1 ≤ 16777216 := hf; omega)]; rfl
          · rw [if_neg (by rw [decide_eq_true_eq, sq_cut (by omega)]; exact c), if_neg c, List.append_nil]) (by rw [nrng_len]; show _ ≤ 16777216; omega)]
      rfl) (by rw [nrng_len]; simp; omega)]
  rw [List.nil_append]; rfl
theorem mem_squaresL {w : List Nat} {x : Int × Int} : x ∈ squaresL w ↔ ∃ s k, x = pr s k ∧ 1 ≤ k ∧ s + 2 * k ≤ w.length ∧ Per w s (s + 2 * k) k := by
  unfold squaresL
  simp only [List.mem_flatMap, mem_nrng]
  constructor
  · rintro ⟨s, ⟨_, hs⟩, k, ⟨k1, k2⟩, hx⟩
    split at hx
    · rename_i c
      rw [List.mem_singleton] at hx
      exact ⟨s, k, hx, k1, by omega, perB_iff.mp c⟩
    · cases hx
  · rintro ⟨s, k, rfl, k1, k2, hp⟩
    refine ⟨s, ⟨Nat.zero_le _, by omega⟩, k, ⟨k1, by omega⟩, ?_⟩
    rw [if_pos (show sqB w s k = true from perB_iff.mpr hp)]
    exact List.mem_singleton.mpr rfl
theorem squaresL_pw (w : List Nat) : (squaresL w).Pairwise ltP := by
  unfold squaresL
  rw [List.pairwise_flatMap]
  refine ⟨fun s _ => ?_, (nrng_pw 0 w.length).imp fun {a b} hab x hx y hy => .inl ?_⟩
  · rw [List.pairwise_flatMap]
    refine ⟨fun k _ => by split <;> simp, (nrng_pw _ _).imp fun {a b} hab x hx y hy => .inr ?_⟩
    split at hx
    · split at hy
      · rw [List.mem_singleton] at hx hy; subst hx hy
        exact ⟨rfl, by show (a : Int) < (b : Int); omega⟩
      · cases hy
    · cases hx
  · obtain ⟨k, _, hx⟩ := List.mem_flatMap.mp hx
    obtain ⟨k', _, hy⟩ := List.mem_flatMap.mp hy
    split at hx
    · split at hy
      · rw [List.mem_singleton] at hx hy; subst hx hy
        show (a : Int) < (b : Int); omega
      · cases hy
    · cases hx
/-! ### squares by counting -/
def sqP (w : List Nat) (p i : Nat) : List (Int × Int) := ((nrng 0 (i + 1 - p)).filter fun s => sqB w s p).map fun s => pr s p
theorem sqP_len (w : List Nat) (p i : Nat) : (sqP w p i).length ≤ i + 1 - p := by
  unfold sqP
  rw [List.length_map]
  have := List.length_filter_le (fun s => sqB w s p) (nrng 0 (i + 1 - p))
  rw [nrng_len] at this; omega
structure SInv (w : List Nat) (p : Nat) (f0 : List (Int × Int)) (i : Nat) (st : List (Int × Int) × Int) (c : Nat) : Prop where
  a : st.2 = (c : Int)
  ci : c ≤ i
  al : ∀ j, i - c ≤ j → j < i → w[j]? = w[j + p]?
  no : c < i → w[i - c - 1]? ≠ w[i - c - 1 + p]?
  f : st.1 = f0 ++ sqP w p i
theorem sq_step {w : List Nat} (hL : w.length ≤ 1000) {p : Nat} (hp : 1 ≤ p) {f0 : List (Int × Int)} (hf : f0.length ≤ 10000000) {i : Nat} (hi : i + p < w.length) {st : List (Int × Int) × Int} {c : Nat} (h : SInv w p f0 i st c) :
    ∃ st', squares_b1 w (p : Int) (i : Int) st.1 st.2 = some st' ∧ ∃ c', SInv w p f0 (i + 1) st' c' := by
  have hL2 : w.length ≤ L24 := by show _ ≤ 16777216; omega
  obtain ⟨found, al⟩ := st
  obtain ⟨rfl, ci, hal, hno, rfl⟩ := h
  have hlen := sqP_len w p i
  have hnx : ∀ c', (p ≤ c' ↔ (p ≤ i + 1 ∧ sqB w (i + 1 - p) p = true)) → sqP w p (i + 1) = sqP w p i ++ (if p ≤ c' then [pr (i + 1 - p) p] else []) := by
    intro c' hc
    unfold sqP
    by_cases q : p ≤ i + 1
    · rw [show i + 1 + 1 - p = (i + 1 - p) + 1 by omega, nrng_succ (by omega), List.filter_append, List.map_append]
      congr 1
      by_cases g : sqB w (i + 1 - p) p = true
      · rw [if_pos (hc.mpr ⟨q, g⟩), List.filter_cons_of_pos (p := fun s => sqB w s p) g]; rfl
      · rw [if_neg (fun z => g (hc.mp z).2), List.filter_cons_of_neg (p := fun s => sqB w s p) g]; rfl
    · rw [if_neg (fun z => q (hc.mp z).1), show i + 1 + 1 - p = 0 by omega, show i + 1 - p = 0 by omega, List.append_nil]
  unfold squares_b1
  rw [ask_t hL2, Wk.atI_nat, List.getElem?_eq_getElem (show i < w.length by omega), Option.bind_some, ask_t hL2, atI_int (i := i + p) (by omega), List.getElem?_eq_getElem hi, Option.bind_some]
  by_cases m : w[i]? = w[i + p]?
  · have m' : ([w[i]] : List Nat) = [w[i + p]] := by
      rw [List.getElem?_eq_getElem (show i < w.length by omega), List.getElem?_eq_getElem hi] at m
      rw [Option.some.inj m]
    rw [if_pos (decide_eq_true m'), Option.bind_some]
    have hal' : ∀ j, i - c ≤ j → j < i + 1 → w[j]? = w[j + p]? := fun j j1 j2 => by
      by_cases q : j < i
      · exact hal j j1 q
      · have : j = i := by omega
        subst this; exact m
    have hc : p ≤ c + 1 ↔ (p ≤ i + 1 ∧ sqB w (i + 1 - p) p = true) := by
      unfold sqB
      rw [perB_iff]
      constructor
      · intro h
        exact ⟨by omega, fun j j1 j2 => hal' j (by omega) (by omega)⟩
      · rintro ⟨h1, h2⟩
        rcases Nat.lt_or_ge (c + 1) p with q | q
        · exact absurd (h2 (i - c - 1) (by omega) (by omega)) (hno (by omega))
        · exact q
    have e := hnx (c + 1) hc
    by_cases q : p ≤ c + 1
    · rw [if_pos (decide_eq_true (by omega)), ask_t (show (f0 ++ sqP w p i).length < 16777216 by rw [List.length_append]; omega)]
      rw [if_pos q] at e
      refine ⟨_, rfl, c + 1, by show (c : Int) + 1 = _; omega, by omega, fun j j1 j2 => hal' j (by omega) j2, fun h => by rw [show i + 1 - (c + 1) - 1 = i - c - 1 by omega]; exact hno (by omega), ?_⟩
      show f0 ++ sqP w p i ++ [((i : Int) + 1 - (p : Int), (p : Int))] = _
      rw [e, List.append_assoc]
      congr 3
      unfold pr
      congr 1
      have := (hc.mp q).1
      omega
    · rw [if_neg (by simp; omega)]
      rw [if_neg q, List.append_nil] at e
      exact ⟨_, rfl, c + 1, by show (c : Int) + 1 = _; omega, by omega, fun j j1 j2 => hal' j (by omega) j2, fun h => by rw [show i + 1 - (c + 1) - 1 = i - c - 1 by omega]; exact hno (by omega), by rw [e]⟩
  · have m' : ¬ ([w[i]] : List Nat) = [w[i + p]] := fun z => m (by
      rw [List.getElem?_eq_getElem (show i < w.length by omega), List.getElem?_eq_getElem hi]
      simp at z; rw [z])
    rw [if_neg (by simpa using m'), Option.bind_some, if_neg (by simp; omega)]
    have e := hnx 0 ⟨fun h => by omega, fun ⟨h1, h2⟩ => absurd ((perB_iff.mp h2) i (by omega) (by omega)) m⟩
    rw [if_neg (by omega), List.append_nil] at e
    exact ⟨_, rfl, 0, rfl, by omega, fun j j1 j2 => by omega, fun h => by rw [show i + 1 - 0 - 1 = i by omega]; exact m, by rw [e]⟩
theorem squares_eq {w : List Nat} (hL : w.length ≤ 1000) (hc : m_check_word w = some ()) : m_squares w = some (squaresL w) := by
  have hL2 : w.length ≤ L24 := by show _ ≤ 16777216; omega
  unfold m_squares
  rw [hc, Option.bind_some, ask_t hL2, ask_t (sdiv_lt (by omega) (by decide)), ask_t (rng2_ok (by omega) (by omega) (by omega) (by omega)),
    rng_nat (x := 1) (y := (w.length : Int) / 2 + 1) (a := 1) (b := w.length / 2 + 1) rfl (by omega), forN_map,
    forN_flat (g := fun p => sqP w p (w.length - p)) (c := 1000) (N := 10000000) (fun p hp => by have hp := mem_nrng.mp hp; have := sqP_len w p (w.length - p); omega) (fun p hp found hf => by
      have hp := mem_nrng.mp hp
      unfold squares_b0
      rw [ask_t hL2, ask_t (rng1_ok (by omega) (by omega)), rng_nat (x := 0) (y := (w.length : Int) - (p : Int)) (a := 0) (b := w.length - p) rfl (by omega), forN_map]
      obtain ⟨st, e, c, h⟩ := forN_rng (f := fun (i : Nat) s => squares_b1 w (p : Int) (i : Int) s.1 s.2) (P := fun i st => ∃ c, SInv w p found i st c) (a := 0) (b := w.length - p) (s := (found, (0 : Int))) (by omega)
        ⟨0, rfl, by omega, fun j j1 j2 => by omega, fun h => by omega, by unfold sqP; rw [nrng_nil (by omega)]; simp⟩
        (fun i st _ h2 ⟨c, h⟩ => sq_step hL (by omega) (by omega) (by omega) h)
      rw [e, Option.bind_some, h.f]) (by rw [nrng_len]; simp; omega)]
  rw [Option.bind_some, List.nil_append]
  congr 1
  have hm : ∀ {p i : Nat} {x : Int × Int}, x ∈ sqP w p i ↔ ∃ s, x = pr s p ∧ s < i + 1 - p ∧ Per w s (s + 2 * p) p := by
    intro p i x
    unfold sqP sqB
    simp only [List.mem_map, List.mem_filter, mem_nrng, perB_iff]
    constructor
    · rintro ⟨s, ⟨⟨_, h1⟩, h2⟩, rfl⟩; exact ⟨s, rfl, h1, h2⟩
    · rintro ⟨s, rfl, h1, h2⟩; exact ⟨s, ⟨⟨Nat.zero_le _, h1⟩, h2⟩, rfl⟩
  refine sortP_of ?_ (squaresL_pw w) fun x => ?_
  · show List.Pairwise _ (List.flatMap _ _)
    rw [List.pairwise_flatMap]
    refine ⟨fun p _ => ?_, (nrng_pw _ _).imp fun {p q} hpq x hx y hy e => ?_⟩
    · unfold sqP
      refine List.Pairwise.map (R := (· < ·)) _ (fun a b h z => ?_) ((nrng_pw _ _).filter _)
      have := pr_inj z
      omega
    · obtain ⟨s, rfl, _⟩ := hm.mp hx
      obtain ⟨s2, rfl, _⟩ := hm.mp hy
      have := pr_inj e
      omega
  · rw [List.mem_flatMap, mem_squaresL]
    constructor
    · rintro ⟨p, hp, hx⟩
      have hp := mem_nrng.mp hp
      obtain ⟨s, rfl, h1, h2⟩ := hm.mp hx
      exact ⟨s, p, rfl, by omega, by omega, h2⟩
    · rintro ⟨s, k, rfl, k1, k2, hp⟩
      exact ⟨k, mem_nrng.mpr ⟨k1, by omega⟩, hm.mpr ⟨s, rfl, by omega, hp⟩⟩
/-! ### periods -/
def periodsN (w : List Nat) : List Nat := (nrng 1 w.length).filter fun k => perB w 0 w.length k
def cast (l : List Nat) : List Int := l.map fun (k : Nat) => (k : Int)
theorem periods_eq {w : List Nat} (hL : w.length ≤ 1000) (hc : m_check_word w = some ()) : m_periods w = some (cast (periodsN w)) := by
  have hL2 : w.length ≤ L24 := by show _ ≤ 16777216; omega
  unfold m_periods
  rw [hc, Option.bind_some, ask_t hL2, ask_t (rng2_ok (by omega) (by omega) (by omega) (by omega)), rng_nat (x := 1) (y := (w.length : Int)) (a := 1) (b := w.length) rfl (by omega),
    ask_t (by rw [List.length_map, nrng_len]; show _ ≤ 16777216; omega)]
  have : ∀ (l : List Nat), (∀ k ∈ l, k ≤ w.length) → filO (fun (x1 : Int) => (ask (w.length ≤ L24)).bind fun _ => (ask (w.length ≤ L24)).bind fun _ => (ask (w.length ≤ L24)).bind fun _ => if (decide ((cutT w (some x1) none) = (cutT w none (some ((w.length : Int) - x1))))) = true then (some true) else (some false)) (fun (x1 : Int) => some x1) (cast l) = some (cast (l.filter fun k => perB w 0 w.length k)) := by
    intro l hl
    rw [filO_some (p := fun (x : Int) => perB w 0 w.length x.toNat) (g := fun x => x)]
    · rw [List.map_id']
      unfold cast
      rw [List.filter_map]
      congr 2
    · intro x hx
      obtain ⟨k, hk, rfl⟩ := List.mem_map.mp hx
      have hkl := hl k hk
      rw [ask_t hL2, ask_t hL2, ask_t hL2, cutT_lo (a := k) rfl, cutT_hi (b := w.length - k) (by omega)]
      by_cases c : perB w 0 w.length k = true
      · rw [if_pos (decide_eq_true ((per_pref hkl).mpr (perB_iff.mp c)).symm)]
        show _ = some (perB w 0 w.length k)
        rw [c]
      · rw [if_neg (by rw [decide_eq_true_eq]; exact fun z => c (perB_iff.mpr ((per_pref hkl).mp z.symm)))]
        show _ = some (perB w 0 w.length k)
        rw [Bool.eq_false_iff.mpr c]
    · intro x _ _; rfl
  rw [show (nrng 1 w.length).map (fun (i : Nat) => (i : Int)) = cast (nrng 1 w.length) from rfl, this _ fun k hk => by have := mem_nrng.mp hk; omega]
  rfl
theorem filter_flat {α β : Type} (p : α → Bool) (f : α → β) : ∀ l : List α, (l.flatMap fun x => if p x = true then [f x] else []) = (l.filter p).map f
  | [] => rfl
  | x :: l => by
    rw [List.flatMap_cons, filter_flat p f l, List.filter_cons]
    by_cases c : p x = true
    · rw [if_pos c, if_pos c]; rfl
    · rw [if_neg c, if_neg c]; rfl
theorem l_periods_eq {w : List Nat} (hL : w.length ≤ 1000) : m_l_periods w = some (cast (periodsN w)) := by
  have hL2 : w.length ≤ L24 := by show _ ≤ 16777216; omega
  unfold m_l_periods
  rw [ask_t hL2, ask_t (rng2_ok (by omega) (by omega) (by omega) (by omega)), rng_nat (x := 1) (y := (w.length : Int)) (a := 1) (b := w.length) rfl (by omega), forN_map,
    forN_flat (g := fun k => if perB w 0 w.length k = true then [(k : Int)] else []) (c := 1) (N := L24) (fun k _ => one_len') (fun k hk found hf => by
      have hk := mem_nrng.mp hk
      unfold l_periods_b0
      rw [ask_t hL2, startsB (k := k) rfl (by omega)]
      by_cases c : perB w 0 w.length k = true
      · rw [if_pos c, if_pos c, ask_t (show found.length < 16777216 by have : found.length + 1 ≤ 16777216 := hf; omega)]
      · rw [if_neg c, if_neg c, List.append_nil]) (by rw [nrng_len]; show 0 + _ ≤ 16777216; omega)]
  rw [Option.bind_some, List.nil_append, filter_flat]; rfl
end K79
/-! k79, plain part 5: the prefix table and the covers -/
namespace K79
open PySem L2 Wk
structure Lcp (w : List Nat) (i c : Nat) : Prop where
  le : i + c ≤ w.length
  eq : ∀ j, j < c → w[j]? = w[i + j]?
  ne : i + c < w.length → w[c]? ≠ w[i + c]?
def lcpN (w : List Nat) (i : Nat) : Nat := ((nrng 0 (w.length - i)).find? fun c => decide (w[c]? ≠ w[i + c]?)).getD (w.length - i)
theorem lcp_ok {w : List Nat} {i : Nat} (h : i ≤ w.length) : Lcp w i (lcpN w i) := by
  unfold lcpN
  cases q : (nrng 0 (w.length - i)).find? fun c => decide (w[c]? ≠ w[i + c]?) with
  | none =>
    have n := find_nrng_none q
    refine ⟨by show i + (w.length - i) ≤ _; omega, fun j hj => ?_, fun z => by have : i + (w.length - i) < w.length := z; omega⟩
    have := n j (Nat.zero_le _) hj
    simpa using this
  | some c =>
    obtain ⟨_, h2, h3, h4⟩ := find_nrng q
    refine ⟨by show i + c ≤ _; omega, fun j hj => ?_, fun _ => of_decide_eq_true h3⟩
    have := h4 j (Nat.zero_le _) hj
    simpa using this
theorem Lcp.ge {w : List Nat} {i c k : Nat} (h : Lcp w i c) (h1 : i + k ≤ w.length) (h2 : ∀ j, j < k → w[j]? = w[i + j]?) : k ≤ c := by
  rcases Nat.lt_or_ge c k with q | q
  · exact absurd (h2 c q) (h.ne (by omega))
  · exact q
theorem Lcp.uniq {w : List Nat} {i c d : Nat} (h : Lcp w i c) (h' : Lcp w i d) : c = d := Nat.le_antisymm (h'.ge h.le h.eq) (h.ge h'.le h'.eq)
theorem pre_iff {w : List Nat} {i k : Nat} (h : i + k ≤ w.length) : (w.drop i).take k = w.take k ↔ k ≤ lcpN w i := by
  rw [ext_le (n := k) (by rw [List.length_take, List.length_drop]; omega) (by rw [List.length_take]; omega)]
  have L := lcp_ok (w := w) (i := i) (by omega)
  constructor
  · intro e
    refine L.ge h fun j hj => ?_
    have := e j hj
    rw [List.getElem?_take, if_pos hj, List.getElem?_drop, List.getElem?_take, if_pos hj] at this
    exact this.symm
  · intro hk j hj
    rw [List.getElem?_take, if_pos hj, List.getElem?_drop, List.getElem?_take, if_pos hj]
    exact (L.eq j (by omega)).symm
theorem flat_one {α β : Type} (f : α → β) : ∀ l : List α, (l.flatMap fun x => [f x]) = l.map f
  | [] => rfl
  | x :: l => by rw [List.flatMap_cons, flat_one f l]; rfl
def prefN (w : List Nat) : List Nat := (nrng 0 w.length).map fun i => lcpN w i
theorem l_prefixes_eq {w : List Nat} (hL : w.length ≤ 1000) : m_l_prefixes w = some (cast (prefN w)) := by
  have hL2 : w.length ≤ L24 := by show _ ≤ 16777216; omega
  unfold m_l_prefixes
  rw [ask_t hL2, ask_t (rng1_ok (by omega) (by omega)), rng_nat (x := 0) (y := (w.length : Int)) (a := 0) (b := w.length) rfl (by omega), forN_map,
    forN_flat (g := fun i => [((lcpN w i : Nat) : Int)]) (c := 1) (N := L24) (fun i _ => by simp) (fun i hi found hf => by
      have hi := mem_nrng.mp hi
      have L := lcp_ok (w := w) (i := i) (by omega)
      have Ll := L.le
      unfold l_prefixes_b0
      rw [ask_t hL2, ask_t (rng2_ok (by omega) (by omega) (by omega) (by omega)), rng_nat (x := 1) (y := (w.length : Int) - (i : Int) + 1) (a := 1) (b := w.length - i + 1) rfl (by omega), forN_map]
      obtain ⟨s, e, h⟩ := forN_rng (f := fun (k : Nat) s => l_prefixes_b1 w (i : Int) (k : Int) s) (P := fun m s => s = ((min (lcpN w i) (m - 1) : Nat) : Int)) (a := 1) (b := w.length - i + 1) (s := (0 : Int)) (by omega) (by simp)
        (fun k s k1 k2 hs => by
          subst hs
          unfold l_prefixes_b1
          rw [ask_t hL2, ask_t hL2, cutT_lh (a := i) (b := i + k) rfl (by omega), cutT_hi (b := k) rfl, show i + k - i = k by omega]
          by_cases c : k ≤ lcpN w i
          · rw [if_pos (decide_eq_true ((pre_iff (by omega)).mpr c))]
            exact ⟨_, rfl, by omega⟩
          · rw [if_neg (by rw [decide_eq_true_eq, pre_iff (by omega)]; exact c)]
            exact ⟨_, rfl, by omega⟩)
      rw [e, Option.bind_some, ask_t (show found.length < 16777216 by have : found.length + 1 ≤ 16777216 := hf; omega), h, show min (lcpN w i) (w.length - i + 1 - 1) = lcpN w i by omega]) (by rw [nrng_len]; show 0 + _ ≤ 16777216; omega)]
  rw [Option.bind_some, List.nil_append, flat_one]
  unfold cast prefN
  rw [List.map_map]; rfl
/-! ### Z -/
theorem z_cond {w : List Nat} (hL : w.length ≤ 1000) {i c : Nat} (h : i + c ≤ w.length) : prefix_table_c1 w (i : Int) (c : Int) = some (decide (i + c < w.length) && decide (w[c]? = w[i + c]?)) := by
  have hL2 : w.length ≤ L24 := by show _ ≤ 16777216; omega
  unfold prefix_table_c1
  rw [ask_t hL2, condAt (b := decide (w[c]? = w[i + c]?)) (fun h => cmpAt hL2 (i := c) (j := i + c) rfl (by omega) (by omega) (by omega)), Option.bind_some]
  rw [show decide ((i : Int) + (c : Int) < (w.length : Int)) = decide (i + c < w.length) from decide_eq_decide.mpr (by omega)]
theorem z_while {w : List Nat} (hL : w.length ≤ 900) {i c : Nat} (hi : i ≤ w.length) (hc : c ≤ lcpN w i) : whileN (fun s => prefix_table_c1 w (i : Int) s) (fun s => prefix_table_b1 s) 1000 (c : Int) = some ((lcpN w i : Nat) : Int) := by
  have L := lcp_ok (w := w) hi
  have Ll := L.le
  obtain ⟨s, e, ⟨d, rfl, hd⟩, hf⟩ := whileN_inv (c := fun s => prefix_table_c1 w (i : Int) s) (f := fun s => prefix_table_b1 s) (P := fun s => ∃ d : Nat, s = (d : Int) ∧ d ≤ lcpN w i) (fun s => w.length - s.toNat) (fun s ⟨d, hs, hd⟩ => by
    subst hs
    show prefix_table_c1 w (i : Int) (d : Int) = _ ∨ _
    rw [z_cond (by omega) (by omega)]
    by_cases q : i + d < w.length ∧ w[d]? = w[i + d]?
    · refine .inr ⟨by rw [decide_eq_true q.1, decide_eq_true q.2]; rfl, _, rfl, ⟨d + 1, by omega, L.ge (by omega) fun j hj => ?_⟩, by omega⟩
      by_cases z : j < d
      · exact L.eq j (by omega)
      · rw [show j = d by omega]; exact q.2
    · refine .inl ?_
      congr 1
      rw [Bool.and_eq_false_iff, decide_eq_false_iff_not, decide_eq_false_iff_not]
      by_cases z : i + d < w.length
      · exact .inr fun y => q ⟨z, y⟩
      · exact .inl z) 1000 (c : Int) ⟨c, rfl, hc⟩ (by omega)
  rw [e]
  have hf : prefix_table_c1 w (i : Int) (d : Int) = some false := hf
  rw [z_cond (by omega) (by omega)] at hf
  have hf := Option.some.inj hf
  rw [Bool.and_eq_false_iff, decide_eq_false_iff_not, decide_eq_false_iff_not] at hf
  congr 2
  refine Lcp.uniq (w := w) (i := i) ⟨by omega, fun j hj => L.eq j (by omega), fun z => hf.resolve_left (fun y => y z)⟩ L
structure ZInv (w : List Nat) (i : Nat) (st : List Int × Int × Int) (l r : Nat) : Prop where
  t : st.1 = cast ((nrng 0 i).map fun k => lcpN w k)
  a : st.2.1 = (l : Int)
  b : st.2.2 = (r : Int)
  rn : r ≤ w.length
  li : l ≤ i
  pos : 0 < r → 0 < l ∧ l < i
  eq : ∀ j, l ≤ j → j < r → w[j]? = w[j - l]?
theorem tab_at {f : Nat → Nat} {n i : Nat} (h : i < n) {x : Int} (hx : x = (i : Int)) : atI (cast ((nrng 0 n).map f)) x = some ((f i : Nat) : Int) := by
  rw [atI_int hx]
  unfold cast
  rw [List.getElem?_map, List.getElem?_map, nrng_get (by omega)]
  simp
theorem z_step {w : List Nat} (hL : w.length ≤ 900) {i : Nat} (hi : i < w.length) {st : List Int × Int × Int} {l r : Nat} (h : ZInv w i st l r) :
    ∃ st', prefix_table_b0 w (i : Int) st.1 st.2.1 st.2.2 = some st' ∧ ∃ l r, ZInv w (i + 1) st' l r := by
  have hL2 : w.length ≤ L24 := by show _ ≤ 16777216; omega
  have L := lcp_ok (w := w) (i := i) (by omega)
  have Ll := L.le
  obtain ⟨tab, le, ri⟩ := st
  obtain ⟨rfl, rfl, rfl, rn, li, pos, heq⟩ := h
  have hl : (cast ((nrng 0 i).map fun k => lcpN w k)).length = i := by unfold cast; rw [List.length_map, List.length_map, nrng_len]; omega
  unfold prefix_table_b0
  have first : ∃ c : Nat, c ≤ lcpN w i ∧ (if (decide ((i : Int) = (0 : Int))) = true then ((ask (w.length ≤ L24)).bind fun _ => some (w.length : Int)) else (if (decide ((i : Int) < (r : Int))) = true then ((atI (cast ((nrng 0 i).map fun k => lcpN w k)) ((i : Int) - (l : Int))).bind fun x_1 => some (minI ((r : Int) - (i : Int)) x_1)) else (some (0 : Int)))) = some (c : Int) := by
    by_cases h0 : i = 0
    · subst h0
      refine ⟨w.length, L.ge (by omega) fun j hj => by rw [Nat.zero_add], ?_⟩
      rw [if_pos (by decide), ask_t hL2]
    · rw [if_neg (by simp; omega)]
      by_cases h1 : i < r
      · have hp := pos (by omega)
        have L2 := lcp_ok (w := w) (i := i - l) (by omega)
        rw [if_pos (decide_eq_true (by omega)), tab_at (i := i - l) (by omega) (by omega), Option.bind_some]
        refine ⟨min (r - i) (lcpN w (i - l)), L.ge (by omega) fun j hj => ?_, ?_⟩
        · rw [heq (i + j) (by omega) (by omega), show i + j - l = i - l + j by omega]
          exact L2.eq j (by omega)
        · congr 1
          unfold minI
          split <;> omega
      · rw [if_neg (by simp; omega)]
        exact ⟨0, Nat.zero_le _, rfl⟩
  obtain ⟨c, hc, e⟩ := first
  have e' : ∀ {β : Type} (k : Int → Option β), ((if (decide ((i : Int) = (0 : Int))) = true then ((ask (w.length ≤ L24)).bind fun _ => some (w.length : Int)) else (if (decide ((i : Int) < (r : Int))) = true then ((atI (cast ((nrng 0 i).map fun k => lcpN w k)) ((i : Int) - (l : Int))).bind fun x_1 => some (minI ((r : Int) - (i : Int)) x_1)) else (some (0 : Int))))).bind k = k (c : Int) := fun k => by rw [e]; rfl
  show ∃ st', Option.bind _ _ = some st' ∧ _
  rw [e', z_while hL (by omega) hc, Option.bind_some]
  have tnew : cast ((nrng 0 i).map fun k => lcpN w k) ++ [((lcpN w i : Nat) : Int)] = cast ((nrng 0 (i + 1)).map fun k => lcpN w k) := by
    rw [nrng_succ (Nat.zero_le _)]; unfold cast; simp
  by_cases h2 : 0 < i ∧ r < i + lcpN w i
  · rw [if_pos (by rw [decide_eq_true (show (i : Int) > 0 by omega), show decide ((i : Int) + ((lcpN w i : Nat) : Int) > (r : Int)) = true from decide_eq_true (by omega)]; rfl), Option.bind_some, ask_t (by rw [hl]; show _ < 16777216; omega)]
    refine ⟨_, rfl, i, i + lcpN w i, tnew, rfl, by show (i : Int) + _ = _; omega, Ll, by omega, fun _ => ⟨h2.1, by omega⟩, fun j j1 j2 => ?_⟩
    have := L.eq (j - i) (by omega)
    rw [show i + (j - i) = j by omega] at this
    exact this.symm
  · rw [if_neg (show ¬ (decide ((i : Int) > 0) && decide ((i : Int) + ((lcpN w i : Nat) : Int) > (r : Int))) = true by rw [Bool.and_eq_true, decide_eq_true_eq, decide_eq_true_eq]; omega), Option.bind_some, ask_t (by rw [hl]; show _ < 16777216; omega)]
    exact ⟨_, rfl, l, r, tnew, rfl, rfl, rn, by omega, fun h => by have := pos h; omega, heq⟩
theorem prefix_eq {w : List Nat} (hL : w.length ≤ 900) (hc : m_check_word w = some ()) : m_prefix_table w = some (cast (prefN w)) := by
  have hL2 : w.length ≤ L24 := by show _ ≤ 16777216; omega
  unfold m_prefix_table
  rw [hc, Option.bind_some, ask_t hL2, ask_t (rng1_ok (by omega) (by omega)), rng_nat (x := 0) (y := (w.length : Int)) (a := 0) (b := w.length) rfl (by omega), forN_map]
  obtain ⟨st, e, l, r, h⟩ := forN_rng (f := fun (i : Nat) s => prefix_table_b0 w (i : Int) s.1 s.2.1 s.2.2) (P := fun i st => ∃ l r, ZInv w i st l r) (a := 0) (b := w.length) (s := (([] : List Int), (0 : Int), (0 : Int))) (by omega)
    ⟨0, 0, by rw [nrng_nil (by omega)]; rfl, rfl, rfl, by omega, by omega, fun h => by omega, fun j _ h => by omega⟩
    (fun i st _ h2 ⟨l, r, h⟩ => z_step hL h2 h)
  rw [e, Option.bind_some, h.t]; rfl
/-! ### covers -/
def stepR (w : List Nat) (c r j : Nat) : Nat := if c ≤ lcpN w j ∧ j ≤ r then j + c else r
def reach (w : List Nat) (c k : Nat) : Nat := (nrng 0 k).foldl (stepR w c) 0
theorem reach_succ (w : List Nat) (c k : Nat) : reach w c (k + 1) = stepR w c (reach w c k) k := by
  unfold reach
  rw [nrng_succ (Nat.zero_le _), List.foldl_append]; rfl
def coverB (w : List Nat) (c : Nat) : Bool := decide (reach w c w.length = w.length)
def coversN (w : List Nat) : List Nat := (nrng 1 (w.length + 1)).filter fun c => coverB w c
theorem reach_end {w : List Nat} {c : Nat} (hc : 1 ≤ c) (hc2 : c ≤ w.length) : ∀ m, w.length - c + 1 + m ≤ w.length → reach w c (w.length - c + 1 + m) = reach w c (w.length - c + 1)
  | 0, _ => rfl
  | m + 1, h => by
    rw [← Nat.add_assoc, reach_succ, reach_end hc hc2 m (by omega)]
    unfold stepR
    rw [if_neg]
    intro z
    have := (lcp_ok (w := w) (i := w.length - c + 1 + m) (by omega)).le
    omega
theorem reach_stop {w : List Nat} {c k : Nat} (h : reach w c k < k) : ∀ m, reach w c (k + m) = reach w c k
  | 0 => rfl
  | m + 1 => by
    rw [← Nat.add_assoc, reach_succ, reach_stop h m]
    unfold stepR
    rw [if_neg (by omega)]
theorem l_covers_eq {w : List Nat} (hL : w.length ≤ 900) : m_l_covers w = some (cast (coversN w)) := by
  have hL2 : w.length ≤ L24 := by show _ ≤ 16777216; omega
  unfold m_l_covers
  rw [ask_t hL2, ask_t (rng2_ok (by omega) (by omega) (by omega) (by omega)), rng_nat (x := 1) (y := (w.length : Int) + 1) (a := 1) (b := w.length + 1) rfl (by omega), forN_map,
    forN_flat (g := fun c => if coverB w c = true then [(c : Int)] else []) (c := 1) (N := L24) (fun c _ => one_len') (fun c hc found hf => by
      have hc := mem_nrng.mp hc
      unfold l_covers_b0
      rw [ask_t (rng1_ok (by omega) (by omega)), rng_nat (x := 0) (y := (w.length : Int) - (c : Int) + 1) (a := 0) (b := w.length - c + 1) rfl (by omega), forN_map]
      obtain ⟨s, e, h⟩ := forN_rng (f := fun (k : Nat) s => l_covers_b1 w (c : Int) (k : Int) s) (P := fun k s => s = ((reach w c k : Nat) : Int)) (a := 0) (b := w.length - c + 1) (s := (0 : Int)) (by omega) rfl
        (fun k s _ k2 hs => by
          subst hs
          unfold l_covers_b1
          rw [ask_t hL2, ask_t hL2, cutT_lh (a := k) (b := k + c) rfl (by omega), cutT_hi (b := c) rfl, show k + c - k = c by omega, reach_succ]
          unfold stepR
          by_cases q : c ≤ lcpN w k ∧ k ≤ reach w c k
          · rw [if_pos (by rw [decide_eq_true ((pre_iff (by omega)).mpr q.1), decide_eq_true (show (k : Int) ≤ ((reach w c k : Nat) : Int) by omega)]; rfl), if_pos q]
            exact ⟨_, rfl, by omega⟩
          · rw [if_neg (by rw [Bool.and_eq_true, decide_eq_true_eq, decide_eq_true_eq, pre_iff (by omega)]; intro z; exact q ⟨z.1, by have := z.2; omega⟩), if_neg q]
            exact ⟨_, rfl, rfl⟩)
      have hr := reach_end (w := w) (c := c) (by omega) (by omega) (c - 1) (by omega)
      rw [show w.length - c + 1 + (c - 1) = w.length by omega] at hr
      rw [e, Option.bind_some, h, ← hr]
      unfold coverB
      by_cases q : reach w c w.length = w.length
      · rw [if_pos (decide_eq_true (by omega)), if_pos (decide_eq_true q), ask_t (show found.length < 16777216 by have : found.length + 1 ≤ 16777216 := hf; omega)]
      · rw [if_neg (by simp; omega), if_neg (by simpa using q), List.append_nil]) (by rw [nrng_len]; show 0 + _ ≤ 16777216; omega)]
  rw [Option.bind_some, List.nil_append, filter_flat]; rfl
theorem is_covering_eq {w : List Nat} (hL : w.length ≤ 900) {c : Nat} (hc : 1 ≤ c) : m_is_covering (cast (prefN w)) (c : Int) = some (coverB w c) := by
  have hl : (cast (prefN w)).length = w.length := by unfold cast prefN; rw [List.length_map, List.length_map, nrng_len]; omega
  unfold m_is_covering
  rw [hl, ask_t (rng1_ok (by omega) (by omega)), rng_nat (x := 0) (y := (w.length : Int)) (a := 0) (b := w.length) rfl (by omega), forR_map]
  rcases forR_inv (f := fun (i : Nat) s => is_covering_b0 (cast (prefN w)) (c : Int) (i : Int) s) (P := fun k s => s = ((reach w c k : Nat) : Int)) (R := fun (r : Bool) => r = false ∧ reach w c w.length ≠ w.length) (xs := nrng 0 w.length) (s := (0 : Int)) (k := 0) rfl
    (fun i x s hx hs => by
      have hi : i < w.length := by have := (List.getElem?_eq_some_iff.mp hx).1; rw [nrng_len] at this; omega
      rw [nrng_get (by omega), Nat.zero_add] at hx
      obtain rfl := Option.some.inj hx
      rw [Nat.zero_add] at hs ⊢
      subst hs
      unfold is_covering_b0
      by_cases q : reach w c i < i
      · refine .inr ⟨false, by rw [if_pos (decide_eq_true (by omega))], rfl, ?_⟩
        have := reach_stop q (w.length - i)
        rw [show i + (w.length - i) = w.length by omega] at this
        omega
      · refine .inl ?_
        rw [if_neg (by simp; omega), show atI (cast (prefN w)) (i : Int) = some ((lcpN w i : Nat) : Int) from tab_at hi rfl, Option.bind_some, reach_succ]
        unfold stepR
        by_cases z : c ≤ lcpN w i
        · rw [if_pos (decide_eq_true (by omega)), if_pos ⟨z, by omega⟩]
          exact ⟨_, rfl, by omega⟩
        · rw [if_neg (by simp; omega), if_neg (fun y => z y.1)]
          exact ⟨_, rfl, rfl⟩) with ⟨s, e, h⟩ | ⟨r, e, h1, h2⟩
  · rw [e, Option.bind_some]
    rw [nrng_len, Nat.zero_add, Nat.sub_zero] at h
    subst h
    show some (decide _) = _
    unfold coverB
    congr 1
    exact decide_eq_decide.mpr (by omega)
  · rw [e, Option.bind_some]
    show some r = _
    rw [h1]
    unfold coverB
    rw [decide_eq_false h2]
theorem filO_cast (t : Int → Option Bool) (p : Nat → Bool) (l : List Nat) (h : ∀ k ∈ l, t (k : Int) = some (p k)) : filO t (fun (x : Int) => some x) (cast l) = some (cast (l.filter p)) := by
  rw [filO_some (p := fun (x : Int) => p x.toNat) (g := fun x => x)]
  · rw [List.map_id']
    unfold cast
    rw [List.filter_map]
    congr 2
  · intro x hx
    obtain ⟨k, hk, rfl⟩ := List.mem_map.mp hx
    rw [h k hk]; rfl
  · intro x _ _; rfl
theorem if_tf {b : Bool} : (if b = true then some true else some false) = some b := by cases b <;> rfl
theorem covers_eq {w : List Nat} (hL : w.length ≤ 900) (hc : m_check_word w = some ()) : m_covers w = some (cast (coversN w)) := by
  have hL2 : w.length ≤ L24 := by show _ ≤ 16777216; omega
  unfold m_covers
  rw [prefix_eq hL hc, Option.bind_some, ask_t hL2, ask_t (rng2_ok (by omega) (by omega) (by omega) (by omega)), rng_nat (x := 1) (y := (w.length : Int) + 1) (a := 1) (b := w.length + 1) rfl (by omega),
    ask_t (by rw [List.length_map, nrng_len]; show _ ≤ 16777216; omega),
    show (nrng 1 (w.length + 1)).map (fun (i : Nat) => (i : Int)) = cast (nrng 1 (w.length + 1)) from rfl,
    filO_cast _ (fun c => coverB w c) _ (fun k hk => by
      have hk := mem_nrng.mp hk
      rw [is_covering_eq hL hk.1, Option.bind_some, if_tf])]
  rfl
end K79
/-! k79, plain part 6: the border table and the mirror table -/
namespace K79
open PySem L2 Wk
def Brd (w : List Nat) (e b : Nat) : Prop := b < e ∧ ∀ j, j < b → w[j]? = w[e - b + j]?
def brdB (w : List Nat) (e b : Nat) : Bool := (nrng 0 b).all fun j => decide (w[j]? = w[e - b + j]?)
theorem brdB_iff {w : List Nat} {e b : Nat} (h : b < e) : brdB w e b = true ↔ Brd w e b := by
  unfold brdB Brd
  rw [List.all_eq_true]
  exact ⟨fun q => ⟨h, fun j hj => of_decide_eq_true (q j (mem_nrng.mpr ⟨Nat.zero_le _, hj⟩))⟩, fun q j hj => decide_eq_true (q.2 j (mem_nrng.mp hj).2)⟩
def bestB (w : List Nat) (e m : Nat) : Nat := (nrng 1 m).foldl (fun b k => if brdB w e k = true then k else b) 0
def bordN (w : List Nat) (e : Nat) : Nat := bestB w e e
theorem bestB_succ (w : List Nat) (e m : Nat) (h : 1 ≤ m) : bestB w e (m + 1) = if brdB w e m = true then m else bestB w e m := by
  unfold bestB
  rw [nrng_succ h, List.foldl_append]; rfl
theorem bestB_ok {w : List Nat} {e : Nat} (he : 1 ≤ e) : ∀ m, 1 ≤ m → m ≤ e → Brd w e (bestB w e m) ∧ bestB w e m < m ∧ ∀ b, b < m → Brd w e b → b ≤ bestB w e m := by
  intro m
  induction m with
  | zero => intro h _; omega
  | succ m ih =>
    intro _ h2
    by_cases h0 : m = 0
    · subst h0
      have : bestB w e 1 = 0 := rfl
      rw [this]
      exact ⟨⟨by omega, fun j hj => by omega⟩, by omega, fun b hb _ => by omega⟩
    · obtain ⟨a, b, c⟩ := ih (by omega) (by omega)
      rw [bestB_succ w e m (by omega)]
      by_cases q : brdB w e m = true
      · rw [if_pos q]
        exact ⟨(brdB_iff (by omega)).mp q, by omega, fun b hb _ => by omega⟩
      · rw [if_neg q]
        refine ⟨a, by omega, fun b' hb hB => ?_⟩
        by_cases z : b' = m
        · subst z; exact absurd ((brdB_iff (by omega)).mpr hB) q
        · exact c b' (by omega) hB
structure MaxB (w : List Nat) (e b : Nat) : Prop where
  br : Brd w e b
  m : ∀ b', Brd w e b' → b' ≤ b
theorem bord_ok {w : List Nat} {e : Nat} (he : 1 ≤ e) : MaxB w e (bordN w e) := by
  obtain ⟨a, b, c⟩ := bestB_ok (w := w) he e he (Nat.le_refl _)
  exact ⟨a, fun b' h => c b' h.1 h⟩
theorem MaxB.uniq {w : List Nat} {e b b' : Nat} (h : MaxB w e b) (h' : MaxB w e b') : b = b' := Nat.le_antisymm (h'.m _ h.br) (h.m _ h'.br)
theorem brd_cut {w : List Nat} {e b : Nat} (hb : b < e) (he : e ≤ w.length) : w.take b = (w.drop (e - b)).take (e - (e - b)) ↔ brdB w e b = true := by
  rw [brdB_iff hb, ext_le (n := b) (by rw [List.length_take]; omega) (by rw [List.length_take, List.length_drop]; omega)]
  constructor
  · intro h
    refine ⟨hb, fun j hj => ?_⟩
    have := h j hj
    rw [List.getElem?_take, if_pos hj, List.getElem?_take, if_pos (by omega), List.getElem?_drop] at this
    exact this
  · intro h j hj
    rw [List.getElem?_take, if_pos hj, List.getElem?_take, if_pos (by omega), List.getElem?_drop]
    exact h.2 j hj
def bordersN (w : List Nat) : List Nat := (nrng 1 (w.length + 1)).map fun e => bordN w e
theorem l_borders_eq {w : List Nat} (hL : w.length ≤ 900) : m_l_borders w = some (cast (bordersN w)) := by
  have hL2 : w.length ≤ L24 := by show _ ≤ 16777216; omega
  unfold m_l_borders
  rw [ask_t hL2, ask_t (rng2_ok (by omega) (by omega) (by omega) (by omega)), rng_nat (x := 1) (y := (w.length : Int) + 1) (a := 1) (b := w.length + 1) rfl (by omega), forN_map,
    forN_flat (g := fun e => [((bordN w e : Nat) : Int)]) (c := 1) (N := L24) (fun i _ => by simp) (fun e he found hf => by
      have he := mem_nrng.mp he
      unfold l_borders_b0
      rw [ask_t (rng2_ok (by omega) (by omega) (by omega) (by omega)), rng_nat (x := 1) (y := (e : Int)) (a := 1) (b := e) rfl (by omega), forN_map]
      obtain ⟨s, q, h⟩ := forN_rng (f := fun (k : Nat) s => l_borders_b1 w (e : Int) (k : Int) s) (P := fun m s => s = ((bestB w e m : Nat) : Int)) (a := 1) (b := e) (s := (0 : Int)) (by omega) rfl
        (fun k s k1 k2 hs => by
          subst hs
          unfold l_borders_b1
          rw [ask_t hL2, ask_t hL2, cutT_lh (a := e - k) (b := e) (by omega) rfl, cutT_hi (b := k) rfl, bestB_succ w e k (by omega)]
          by_cases c : brdB w e k = true
          · rw [if_pos (decide_eq_true ((brd_cut (by omega) (by omega)).mpr c)), if_pos c]
            exact ⟨_, rfl, rfl⟩
          · rw [if_neg (by rw [decide_eq_true_eq, brd_cut (by omega) (by omega)]; exact c), if_neg c]
            exact ⟨_, rfl, rfl⟩)
      rw [q, Option.bind_some, ask_t (show found.length < 16777216 by have : found.length + 1 ≤ 16777216 := hf; omega), h]; rfl) (by rw [nrng_len]; show 0 + _ ≤ 16777216; omega)]
  rw [Option.bind_some, List.nil_append, flat_one]
  unfold cast bordersN
  rw [List.map_map]; rfl
/-! ### by failing back -/
theorem tab1_at {f : Nat → Nat} {n b : Nat} (h : 1 ≤ b) (h2 : b ≤ n) {x : Int} (hx : x = (b : Int) - 1) : atI (cast ((nrng 1 (n + 1)).map f)) x = some ((f b : Nat) : Int) := by
  rw [atI_int (i := b - 1) (by omega)]
  unfold cast
  rw [List.getElem?_map, List.getElem?_map, nrng_get (by omega), show 1 + (b - 1) = b by omega]
  rfl
structure KW (w : List Nat) (i b : Nat) : Prop where
  br : b = 0 ∨ Brd w i b
  m : ∀ b', Brd w (i + 1) (b' + 1) → b' ≤ b
theorem brd_pred {w : List Nat} {i b : Nat} (h : Brd w (i + 1) (b + 1)) : Brd w i b ∧ w[b]? = w[i]? := by
  refine ⟨⟨by have := h.1; omega, fun j hj => ?_⟩, ?_⟩
  · rw [h.2 j (by omega)]; congr 1; have := h.1; omega
  · rw [h.2 b (by omega)]; congr 1; have := h.1; omega
theorem kw_cond {w : List Nat} (hL : w.length ≤ 900) {i b : Nat} (hi : i < w.length) (hb : b = 0 ∨ Brd w i b) : border_table_c1 w (i : Int) (b : Int) = some (decide (0 < b) && decide (w[b]? ≠ w[i]?)) := by
  have hL2 : w.length ≤ L24 := by show _ ≤ 16777216; omega
  unfold border_table_c1
  rw [condAt (b := decide (w[b]? ≠ w[i]?)) (fun h => cmpNe hL2 (i := b) (j := i) rfl rfl (hb.elim (fun h => by omega) (fun h => by have := h.1; omega)) hi), Option.bind_some]
  rw [show decide ((b : Int) > 0) = decide (0 < b) from decide_eq_decide.mpr (by omega)]
theorem kw_while {w : List Nat} (hL : w.length ≤ 900) {i b : Nat} (hi : i < w.length) (h : KW w i b) : ∃ b', whileN (fun s => border_table_c1 w (i : Int) s) (fun s => border_table_b1 (cast ((nrng 1 (i + 1)).map (bordN w))) s) 1000 (b : Int) = some ((b' : Nat) : Int) ∧ KW w i b' ∧ (b' = 0 ∨ w[b']? = w[i]?) := by
  obtain ⟨s, e, ⟨d, rfl, hd⟩, hf⟩ := whileN_inv (c := fun s => border_table_c1 w (i : Int) s) (f := fun s => border_table_b1 (cast ((nrng 1 (i + 1)).map (bordN w))) s) (P := fun s => ∃ d : Nat, s = (d : Int) ∧ KW w i d) (fun s => s.toNat) (fun s ⟨d, hs, hd⟩ => by
    subst hs
    show border_table_c1 w (i : Int) (d : Int) = _ ∨ _
    rw [kw_cond hL hi hd.br]
    by_cases q : 0 < d ∧ w[d]? ≠ w[i]?
    · have hB : Brd w i d := hd.br.resolve_left (by omega)
      have hM := bord_ok (w := w) (e := d) (by omega)
      have hM1 := hM.br.1
      have hB1 := hB.1
      refine .inr ⟨by rw [decide_eq_true q.1, decide_eq_true q.2]; rfl, ((bordN w d : Nat) : Int), ?_, ⟨_, rfl, ?_, fun b' hb' => ?_⟩, by omega⟩
      · show border_table_b1 _ _ = _
        unfold border_table_b1
        rw [tab1_at (b := d) (by omega) (by omega) rfl]; rfl
      · by_cases z : bordN w d = 0
        · exact .inl z
        · refine .inr ⟨by omega, fun j hj => ?_⟩
          rw [hM.br.2 j hj, hB.2 (d - bordN w d + j) (by omega)]
          congr 1; omega
      · obtain ⟨p1, p2⟩ := brd_pred hb'
        have h1 := hd.m b' hb'
        have h2 : b' ≠ d := fun z => by subst z; exact q.2 p2
        refine hM.m b' ⟨by omega, fun j hj => ?_⟩
        rw [p1.2 j hj, hB.2 (d - b' + j) (by omega)]
        have := p1.1
        congr 1; omega
    · refine .inl ?_
      congr 1
      rw [Bool.and_eq_false_iff, decide_eq_false_iff_not, decide_eq_false_iff_not]
      by_cases z : 0 < d
      · exact .inr fun y => q ⟨z, y⟩
      · exact .inl z) 1000 (b : Int) ⟨b, rfl, h⟩ (by
        rcases h.br with h | h
        · omega
        · have := h.1; omega)
  refine ⟨d, e, hd, ?_⟩
  have hf : border_table_c1 w (i : Int) (d : Int) = some false := hf
  rw [kw_cond hL hi hd.br] at hf
  have hf := Option.some.inj hf
  rw [Bool.and_eq_false_iff, decide_eq_false_iff_not, decide_eq_false_iff_not] at hf
  rcases hf with h | h
  · exact .inl (by omega)
  · exact .inr (Classical.not_not.mp h)
theorem kmp_step {w : List Nat} (hL : w.length ≤ 900) {i : Nat} (hi : i < w.length) : border_table_b0 w (i : Int) (cast ((nrng 1 (i + 1)).map (bordN w))) ((bordN w i : Nat) : Int) = some (cast ((nrng 1 (i + 1 + 1)).map (bordN w)), ((bordN w (i + 1) : Nat) : Int)) := by
  have hL2 : w.length ≤ L24 := by show _ ≤ 16777216; omega
  have hl : (cast ((nrng 1 (i + 1)).map (bordN w))).length = i := by unfold cast; rw [List.length_map, List.length_map, nrng_len]; omega
  have h0 : KW w i (bordN w i) := by
    by_cases z : i = 0
    · subst z
      exact ⟨.inl rfl, fun b' h => by have := h.1; omega⟩
    · have hM := bord_ok (w := w) (e := i) (by omega)
      exact ⟨.inr hM.br, fun b' h => hM.m b' (brd_pred h).1⟩
  obtain ⟨b, e, hk, hx⟩ := kw_while hL hi h0
  unfold border_table_b0
  rw [e, Option.bind_some, condAt (b := decide (w[b]? = w[i]?)) (fun h => cmpAt hL2 (i := b) (j := i) rfl rfl (by omega) hi), Option.bind_some,
    show decide ((b : Int) < (i : Int)) = decide (b < i) from decide_eq_decide.mpr (by omega)]
  have tnew : ∀ c, c = bordN w (i + 1) → cast ((nrng 1 (i + 1)).map (bordN w)) ++ [(c : Int)] = cast ((nrng 1 (i + 1 + 1)).map (bordN w)) := by
    intro c hc
    rw [nrng_succ (show 1 ≤ i + 1 by omega), hc]; unfold cast; simp
  by_cases q : b < i ∧ w[b]? = w[i]?
  · rw [decide_eq_true q.1, decide_eq_true q.2, Bool.and_self, if_pos rfl, Option.bind_some, ask_t (by rw [hl]; show _ < 16777216; omega)]
    have hM : MaxB w (i + 1) (b + 1) := by
      refine ⟨⟨by omega, fun j hj => ?_⟩, fun b' hb' => ?_⟩
      · by_cases z : j = b
        · subst z; rw [q.2]; congr 1; omega
        · rw [(hk.br.resolve_left (by omega)).2 j (by omega)]; congr 1; omega
      · cases b' with
        | zero => omega
        | succ b' => have := hk.m b' hb'; omega
    have e1 := hM.uniq (bord_ok (w := w) (e := i + 1) (by omega))
    have e2 := tnew (b + 1) e1
    rw [show (b : Int) + 1 = ((b + 1 : Nat) : Int) by omega, e2, e1]
  · rw [show (decide (b < i) && decide (w[b]? = w[i]?)) = false from by
      rw [Bool.and_eq_false_iff, decide_eq_false_iff_not, decide_eq_false_iff_not]
      by_cases z : b < i
      · exact .inr fun y => q ⟨z, y⟩
      · exact .inl z, if_neg (by simp), Option.bind_some, ask_t (by rw [hl]; show _ < 16777216; omega)]
    have hb0 : b = 0 := by
      rcases hx with h | h
      · exact h
      · rcases hk.br with z | z
        · exact z
        · exact absurd ⟨z.1, h⟩ q
    subst hb0
    have hM : MaxB w (i + 1) 0 := by
      refine ⟨⟨by omega, fun j hj => by omega⟩, fun b' hb' => ?_⟩
      cases b' with
      | zero => omega
      | succ b' =>
        have h1 := hk.m b' hb'
        have h2 : b' = 0 := by omega
        subst h2
        obtain ⟨p1, p2⟩ := brd_pred hb'
        exact absurd ⟨p1.1, p2⟩ q
    have e1 := hM.uniq (bord_ok (w := w) (e := i + 1) (by omega))
    have e2 := tnew 0 e1
    rw [e2, e1]
theorem border_eq {w : List Nat} (hL : w.length ≤ 900) (hc : m_check_word w = some ()) : m_border_table w = some (cast (bordersN w)) := by
  have hL2 : w.length ≤ L24 := by show _ ≤ 16777216; omega
  unfold m_border_table
  rw [hc, Option.bind_some, ask_t hL2, ask_t (rng1_ok (by omega) (by omega)), rng_nat (x := 0) (y := (w.length : Int)) (a := 0) (b := w.length) rfl (by omega), forN_map]
  obtain ⟨st, e, h⟩ := forN_rng (f := fun (i : Nat) s => border_table_b0 w (i : Int) s.1 s.2) (P := fun i st => st = (cast ((nrng 1 (i + 1)).map (bordN w)), ((bordN w i : Nat) : Int))) (a := 0) (b := w.length) (s := (([] : List Int), (0 : Int))) (by omega) rfl
    (fun i st _ h2 h => by subst h; exact ⟨_, kmp_step hL h2, rfl⟩)
  rw [e, Option.bind_some, h]; rfl
/-! ### mirrors -/
def pairB (w : List Nat) (c j : Nat) : Bool := decide (w[j]? = w[c - j]?)
def mirQ (w : List Nat) (c : Nat) : Nat := ((nrng (c + 1 - w.length) (c / 2 + 2)).find? fun q => (nrng q (c / 2 + 1)).all fun j => pairB w c j).getD (c / 2 + 1)
structure MirQ (w : List Nat) (c q : Nat) : Prop where
  lo : c + 1 - w.length ≤ q
  hi : q ≤ c / 2 + 1
  all : ∀ j, q ≤ j → j ≤ c / 2 → w[j]? = w[c - j]?
  least : ∀ k, c + 1 - w.length ≤ k → (∀ j, k ≤ j → j ≤ c / 2 → w[j]? = w[c - j]?) → q ≤ k
theorem mirQ_ok {w : List Nat} {c : Nat} (h : c + 2 ≤ 2 * w.length) : MirQ w c (mirQ w c) := by
  unfold mirQ
  cases z : (nrng (c + 1 - w.length) (c / 2 + 2)).find? fun q => (nrng q (c / 2 + 1)).all fun j => pairB w c j with
  | none =>
    have := find_nrng_none z (c / 2 + 1) (by omega) (by omega)
    rw [nrng_nil (by omega)] at this
    cases this
  | some q =>
    obtain ⟨h1, h2, h3, h4⟩ := find_nrng z
    have h3' : ∀ j, q ≤ j → j ≤ c / 2 → w[j]? = w[c - j]? := fun j j1 j2 => of_decide_eq_true (List.all_eq_true.mp h3 j (mem_nrng.mpr ⟨j1, by omega⟩))
    refine ⟨h1, by show q ≤ _; omega, h3', fun k k1 k2 => ?_⟩
    rcases Nat.lt_or_ge k q with y | y
    · have := h4 k k1 y
      have t : ((nrng k (c / 2 + 1)).all fun j => pairB w c j) = true := List.all_eq_true.mpr fun j hj => decide_eq_true (k2 j (mem_nrng.mp hj).1 (by have := (mem_nrng.mp hj).2; omega))
      rw [t] at this
      cases this
    · exact y
theorem MirQ.uniq {w : List Nat} {c q q' : Nat} (h : MirQ w c q) (h' : MirQ w c q') : q = q' := Nat.le_antisymm (h.least q' h'.lo h'.all) (h'.least q h.lo h.all)
theorem MirQ.half {w : List Nat} {c q : Nat} (h : MirQ w c q) (hc : c + 2 ≤ 2 * w.length) : 2 * q ≤ c + 1 := by
  by_cases z : c % 2 = 0
  · have := h.least (c / 2) (by omega) fun j j1 j2 => by congr 1; omega
    omega
  · have := h.hi; omega
def mirV (w : List Nat) (c : Nat) : Nat := c + 1 - 2 * mirQ w c
def mirN (w : List Nat) : List Nat := (nrng 0 (2 * w.length - 1)).map fun c => mirV w c
theorem pal_iff {w : List Nat} {c k : Nat} (hc : c + 2 ≤ 2 * w.length) (h1 : c + 1 - w.length ≤ k) (h2 : k ≤ c / 2) : ((w.drop k).take (c - k + 1 - k) = ((w.drop k).take (c - k + 1 - k)).reverse) ↔ mirQ w c ≤ k := by
  have Q := mirQ_ok hc
  have hl : ((w.drop k).take (c - k + 1 - k)).length = c + 1 - 2 * k := by rw [List.length_take, List.length_drop]; omega
  have hg : ∀ i, i < c + 1 - 2 * k → ((w.drop k).take (c - k + 1 - k))[i]? = w[k + i]? := fun i hi => by rw [List.getElem?_take, if_pos (by omega), List.getElem?_drop]
  rw [ext_le (n := c + 1 - 2 * k) hl (by rw [List.length_reverse, hl])]
  constructor
  · intro h
    refine Q.least k h1 fun j j1 j2 => ?_
    have := h (j - k) (by omega)
    rw [List.getElem?_reverse (by omega), hl, hg _ (by omega), hg _ (by omega), show k + (j - k) = j by omega, show k + (c + 1 - 2 * k - 1 - (j - k)) = c - j by omega] at this
    exact this
  · intro h i hi
    rw [List.getElem?_reverse (by omega), hl, hg _ (by omega), hg _ (by omega), show k + (c + 1 - 2 * k - 1 - i) = c - (k + i) by omega]
    by_cases z : k + i ≤ c / 2
    · exact Q.all (k + i) (by omega) z
    · have := Q.all (c - (k + i)) (by omega) (by omega)
      rw [show c - (c - (k + i)) = k + i by omega] at this
      exact this.symm
theorem l_mirrors_eq {w : List Nat} (hL : w.length ≤ 900) : m_l_mirrors w = some (cast (mirN w)) := by
  have hL2 : w.length ≤ L24 := by show _ ≤ 16777216; omega
  unfold m_l_mirrors
  rw [ask_t hL2, ask_t (smul_lt (by omega)), ask_t (rng1_ok (by omega) (by omega)), rng_nat (x := 0) (y := 2 * (w.length : Int) - 1) (a := 0) (b := 2 * w.length - 1) rfl (by omega), forN_map,
    forN_flat (g := fun c => [((mirV w c : Nat) : Int)]) (c := 1) (N := L24) (fun i _ => by simp) (fun c hc found hf => by
      have hc := mem_nrng.mp hc
      have Q := mirQ_ok (w := w) (c := c) (by omega)
      have Qh := Q.half (by omega)
      have hmax : maxI (0 : Int) ((c : Int) + 1 - (w.length : Int)) = ((c + 1 - w.length : Nat) : Int) := by unfold maxI; split <;> omega
      unfold l_mirrors_b0
      rw [ask_t hL2, ask_t (sdiv_lt (by omega) (by decide)), hmax, ask_t (rng2_ok (by omega) (by omega) (by omega) (by omega)), rng_nat (x := ((c + 1 - w.length : Nat) : Int)) (y := (c : Int) / 2 + 1) (a := c + 1 - w.length) (b := c / 2 + 1) rfl (by omega), forN_map]
      obtain ⟨s, q, h⟩ := forN_rng (f := fun (k : Nat) s => l_mirrors_b1 w (c : Int) (k : Int) s) (P := fun m s => s = if mirQ w c < m then ((mirV w c : Nat) : Int) else 0) (a := c + 1 - w.length) (b := c / 2 + 1) (s := (0 : Int)) (by omega) (by have := Q.lo; rw [if_neg (by omega)])
        (fun k s k1 k2 hs => by
          subst hs
          unfold l_mirrors_b1
          rw [ask_t hL2, cutT_lh (a := k) (b := c - k + 1) rfl (by omega)]
          have hl : ((w.drop k).take (c - k + 1 - k)).length = c + 1 - 2 * k := by rw [List.length_take, List.length_drop]; omega
          have hl2 : ((w.drop k).take (c - k + 1 - k)).length ≤ L24 := by show _ ≤ 16777216; omega
          rw [ask_t hl2]
          by_cases z : mirQ w c ≤ k
          · rw [if_pos (decide_eq_true ((pal_iff (by omega) k1 (by omega)).mpr z)), ask_t hl2, hl]
            refine ⟨_, rfl, ?_⟩
            rw [if_pos (show mirQ w c < k + 1 by omega)]
            unfold maxI mirV
            split <;> split <;> omega
          · rw [if_neg (by rw [decide_eq_true_eq, pal_iff (by omega) k1 (by omega)]; exact z)]
            refine ⟨_, rfl, ?_⟩
            rw [if_neg (by omega), if_neg (by omega)])
      rw [q, Option.bind_some, ask_t (show found.length < 16777216 by have : found.length + 1 ≤ 16777216 := hf; omega), h]
      congr 3
      unfold mirV
      split <;> omega) (by rw [nrng_len]; show 0 + _ ≤ 16777216; omega)]
  rw [Option.bind_some, List.nil_append, flat_one]
  unfold cast mirN
  rw [List.map_map]; rfl
theorem mir_cond {w : List Nat} (hL : w.length ≤ 900) {c k : Nat} (hc : c + 2 ≤ 2 * w.length) (h1 : c + 1 - w.length ≤ k) (h2 : k ≤ c / 2 + 1) :
    mirror_table_c1 w ((k : Int) - 1) ((c : Int) - (k : Int) + 1) = some (decide (c + 1 - w.length < k) && decide (w[k - 1]? = w[c - (k - 1)]?)) := by
  have hL2 : w.length ≤ L24 := by show _ ≤ 16777216; omega
  unfold mirror_table_c1
  by_cases q : c + 1 - w.length < k
  · rw [if_pos (decide_eq_true (by omega)), ask_t hL2, if_pos (decide_eq_true (by omega)), cmpAt hL2 (i := k - 1) (j := c - (k - 1)) (by omega) (by omega) (by omega) (by omega), decide_eq_true q]
    rfl
  · rw [decide_eq_false q, Bool.false_and]
    by_cases z : k = 0
    · rw [if_neg (by simp; omega)]; rfl
    · rw [if_pos (decide_eq_true (by omega)), ask_t hL2, if_neg (by simp; omega)]; rfl
theorem mirror_eq {w : List Nat} (hL : w.length ≤ 900) (hk : m_check_word w = some ()) : m_mirror_table w = some (cast (mirN w)) := by
  have hL2 : w.length ≤ L24 := by show _ ≤ 16777216; omega
  unfold m_mirror_table
  rw [hk, Option.bind_some, ask_t hL2, ask_t (smul_lt (by omega)), ask_t (rng1_ok (by omega) (by omega)), rng_nat (x := 0) (y := 2 * (w.length : Int) - 1) (a := 0) (b := 2 * w.length - 1) rfl (by omega), forN_map,
    forN_flat (g := fun c => [((mirV w c : Nat) : Int)]) (c := 1) (N := L24) (fun i _ => by simp) (fun c hc found hf => by
      have hc := mem_nrng.mp hc
      have Q := mirQ_ok (w := w) (c := c) (by omega)
      have Qh := Q.half (by omega)
      unfold mirror_table_b0
      rw [ask_t (sdiv_lt (by omega) (by decide))]
      obtain ⟨s, e, ⟨k, rfl, k1, k2, k3⟩, hf2⟩ := whileN_inv (c := fun s => mirror_table_c1 w s.1 s.2) (f := fun s => mirror_table_b1 s.1 s.2) (P := fun s => ∃ k : Nat, s = ((k : Int) - 1, (c : Int) - (k : Int) + 1) ∧ c + 1 - w.length ≤ k ∧ k ≤ c / 2 + 1 ∧ mirQ w c ≤ k) (fun s => (s.1 + 1).toNat) (fun s ⟨k, hs, k1, k2, k3⟩ => by
        subst hs
        show mirror_table_c1 w ((k : Int) - 1) ((c : Int) - (k : Int) + 1) = _ ∨ _
        rw [mir_cond hL (by omega) k1 k2]
        by_cases q : c + 1 - w.length < k ∧ w[k - 1]? = w[c - (k - 1)]?
        · refine .inr ⟨by rw [decide_eq_true q.1, decide_eq_true q.2]; rfl, _, rfl, ⟨k - 1, by congr 1 <;> omega, by omega, by omega, Q.least (k - 1) (by omega) fun j j1 j2 => ?_⟩, by show ((k : Int) - 1 - 1 + 1).toNat < ((k : Int) - 1 + 1).toNat; omega⟩
          by_cases z : j = k - 1
          · subst z; exact q.2
          · exact Q.all j (by omega) j2
        · refine .inl ?_
          congr 1
          rw [Bool.and_eq_false_iff, decide_eq_false_iff_not, decide_eq_false_iff_not]
          by_cases z : c + 1 - w.length < k
          · exact .inr fun y => q ⟨z, y⟩
          · exact .inl z) 1000 (((c : Int) / 2), (c : Int) - (c : Int) / 2) ⟨c / 2 + 1, by congr 1 <;> omega, by omega, by omega, Q.hi⟩ (by show ((c : Int) / 2 + 1).toNat < 1000; omega)
      have hf3 : mirror_table_c1 w ((k : Int) - 1) ((c : Int) - (k : Int) + 1) = some false := hf2
      rw [mir_cond hL (by omega) k1 k2] at hf3
      have hf3 := Option.some.inj hf3
      rw [Bool.and_eq_false_iff, decide_eq_false_iff_not, decide_eq_false_iff_not] at hf3
      have hkq : k = mirQ w c := by
        rcases Nat.lt_or_ge (mirQ w c) k with y | y
        · have Ql := Q.lo
          rcases hf3 with z | z
          · exact absurd (by omega) z
          · exact absurd (Q.all (k - 1) (by omega) (by omega)) z
        · omega
      rw [e, Option.bind_some, ask_t (show found.length < 16777216 by have : found.length + 1 ≤ 16777216 := hf; omega)]
      congr 3
      show (c : Int) - (k : Int) + 1 - ((k : Int) - 1) - 1 = _
      unfold mirV
      omega) (by rw [nrng_len]; show 0 + _ ≤ 16777216; omega)]
  rw [Option.bind_some, List.nil_append, flat_one]
  unfold cast mirN
  rw [List.map_map]; rfl
end K79
/-! k79, plain part 7: what is known of a word; led words -/
namespace K79
open PySem L2 Wk
/-- a word of small letters -/
structure Wd (w : List Nat) : Prop where
  len : w.length ≤ 60
  low : ∀ c ∈ w, 97 ≤ c ∧ c ≤ 122
theorem letters_ok {w : List Nat} (h : ∀ c ∈ w, 97 ≤ c ∧ c ≤ 122) {m : Nat} (hm : w.length ≤ m) (hm2 : m ≤ 1000) : m_is_letters w (m : Int) = some true := by
  unfold m_is_letters
  rw [ask_t (show w.length ≤ 16777216 by omega), if_neg (by simp; omega), forR_all (fun c hc => by
    unfold is_letters_b0
    have := h c hc
    rw [if_neg]
    simp only [Bool.or_eq_true, decide_eq_true_eq, List.cons_lt_cons_iff, List.not_lt_nil, and_false, or_false]
    omega)]
  rfl
theorem Wd.chk {w : List Nat} (h : Wd w) : m_check_word w = some () := by
  unfold m_check_word m_is_word
  rw [show (60 : Int) = ((60 : Nat) : Int) from rfl, letters_ok h.low h.len (by omega)]
  rfl
theorem runs_eq {w : List Nat} (h : Wd w) : m_runs w = some (runsL w) := by
  unfold m_runs
  have := h.len
  rw [h.chk, Option.bind_some, runs_of_eq (by omega)]; rfl
theorem at_in {α : Type} {l : List α} {i : Nat} (h : i < l.length) : atI l (i : Int) = some l[i] := by rw [Wk.atI_nat, List.getElem?_eq_getElem h]
theorem ints_ok {l : List Int} (h : l.length ≤ 900000) : m_l_ints l l = some true := by
  unfold m_l_ints
  rw [if_neg (by simp), ask_t (rng1_ok (by omega) (by omega)), rng_nat (x := 0) (y := (l.length : Int)) (a := 0) (b := l.length) rfl (by omega), forR_map, forR_all (fun i hi => by
    have hi := mem_nrng.mp hi
    unfold l_ints_b0
    rw [at_in (by omega)]
    simp)]
  rfl
theorem intsT_ok {l : List Int} (h : l.length ≤ 900000) : m_l_intsT l l = some true := by
  unfold m_l_intsT
  rw [if_neg (by simp), ask_t (rng1_ok (by omega) (by omega)), rng_nat (x := 0) (y := (l.length : Int)) (a := 0) (b := l.length) rfl (by omega), forR_map, forR_all (fun i hi => by
    have hi := mem_nrng.mp hi
    unfold l_intsT_b0
    rw [at_in (by omega)]
    simp)]
  rfl
theorem rowsT_ok {l : List (Int × Int × Int)} (h : l.length ≤ 900000) : m_l_rowsT l l = some true := by
  unfold m_l_rowsT
  rw [if_neg (by simp), ask_t (rng1_ok (by omega) (by omega)), rng_nat (x := 0) (y := (l.length : Int)) (a := 0) (b := l.length) rfl (by omega), forR_map, forR_all (fun i hi => by
    have hi := mem_nrng.mp hi
    unfold l_rowsT_b0
    rw [at_in (by omega), Option.bind_some, if_neg (by simp), Option.bind_some, Option.bind_some, intsT_ok (by simp)]
    rfl)]
  rfl
theorem rowsP_ok {l : List (Int × Int)} (h : l.length ≤ 900000) : m_l_rowsP l l = some true := by
  unfold m_l_rowsP
  rw [if_neg (by simp), ask_t (rng1_ok (by omega) (by omega)), rng_nat (x := 0) (y := (l.length : Int)) (a := 0) (b := l.length) rfl (by omega), forR_map, forR_all (fun i hi => by
    have hi := mem_nrng.mp hi
    unfold l_rowsP_b0
    rw [at_in (by omega), Option.bind_some, if_neg (by simp), Option.bind_some, Option.bind_some, intsT_ok (by simp)]
    rfl)]
  rfl
theorem runsL_len60 {w : List Nat} (h : w.length ≤ 60) : (runsL w).length ≤ 3600 := by
  have h1 := flat_len (g := fun s => runsFrom w s) (c := 60) (xs := nrng 0 w.length) fun s _ => by have := runsFrom_len w s; omega
  rw [nrng_len] at h1
  show (List.flatMap _ _).length ≤ _
  omega
theorem squaresL_len {w : List Nat} (h : w.length ≤ 60) : (squaresL w).length ≤ 3600 := by
  have h1 := flat_len (g := fun s => (nrng 1 ((w.length - s) / 2 + 1)).flatMap fun k => if sqB w s k = true then [pr s k] else []) (c := 60) (xs := nrng 0 w.length) fun s _ => by
    have := flat_len (g := fun k => if sqB w s k = true then [pr s k] else []) (c := 1) (xs := nrng 1 ((w.length - s) / 2 + 1)) fun k _ => one_len'
    rw [nrng_len] at this
    omega
  rw [nrng_len] at h1
  show (List.flatMap _ _).length ≤ _
  omega
theorem cast_len (l : List Nat) : (cast l).length = l.length := by unfold cast; rw [List.length_map]
theorem known_eq {w : List Nat} (h : Wd w) : m_l_known w = some (some (runsL w, squaresL w, runsL w)) := by
  have hl := h.len
  have r := runsL_len60 hl
  have q := squaresL_len hl
  have p : (periodsN w).length ≤ 900000 := by
    unfold periodsN
    have := List.length_filter_le (fun k => perB w 0 w.length k) (nrng 1 w.length)
    rw [nrng_len] at this; omega
  have c : (coversN w).length ≤ 900000 := by
    unfold coversN
    have := List.length_filter_le (fun k => coverB w k) (nrng 1 (w.length + 1))
    rw [nrng_len] at this; omega
  unfold m_l_known
  rw [l_runs_eq (by omega), Option.bind_some, runs_eq h, Option.bind_some, squares_eq (by omega) h.chk, Option.bind_some, rowsT_ok (by omega), Option.bind_some, if_pos rfl,
    l_squares_eq (by omega), Option.bind_some, rowsP_ok (by omega), Option.bind_some, if_pos rfl,
    periods_eq (by omega) h.chk, Option.bind_some, l_periods_eq (by omega), Option.bind_some, ints_ok (by rw [cast_len]; omega), Option.bind_some, if_pos rfl,
    covers_eq (by omega) h.chk, Option.bind_some, l_covers_eq (by omega), Option.bind_some, ints_ok (by rw [cast_len]; omega), Option.bind_some, if_pos rfl,
    border_eq (by omega) h.chk, Option.bind_some, l_borders_eq (by omega), Option.bind_some, ints_ok (by rw [cast_len]; unfold bordersN; rw [List.length_map, nrng_len]; omega), Option.bind_some, if_pos rfl,
    prefix_eq (by omega) h.chk, Option.bind_some, l_prefixes_eq (by omega), Option.bind_some, ints_ok (by rw [cast_len]; unfold prefN; rw [List.length_map, nrng_len]; omega), Option.bind_some, if_pos rfl,
    mirror_eq (by omega) h.chk, Option.bind_some, l_mirrors_eq (by omega), Option.bind_some, ints_ok (by rw [cast_len]; unfold mirN; rw [List.length_map, nrng_len]; omega), Option.bind_some, if_pos rfl]
/-! ### led words -/
structure Led (w v : List Nat) : Prop where
  len : v.length = w.length
  eq : ∀ (i j : Nat), w[i]? = w[j]? → v[i]? = v[j]?
theorem Led.per {w v : List Nat} (h : Led w v) {s e p : Nat} (hp : Per w s e p) : Per v s e p := fun j a b => h.eq _ _ (hp j a b)
theorem ext_left {v : List Nat} {e q : Nat} : ∀ s, Per v s e q → ∃ s', s' ≤ s ∧ Per v s' e q ∧ (0 < s' → v[s' - 1]? ≠ v[s' - 1 + q]?)
  | 0, h => ⟨0, Nat.le_refl _, h, fun z => by omega⟩
  | s + 1, h => by
    by_cases c : v[s]? = v[s + q]?
    · obtain ⟨s', h1, h2⟩ := ext_left s (fun j a b => by
        by_cases z : j = s
        · subst z; exact c
        · exact h j (by omega) b)
      exact ⟨s', by omega, h2⟩
    · exact ⟨s + 1, Nat.le_refl _, h, fun _ => by rw [Nat.add_sub_cancel]; exact c⟩
theorem ext_right {v : List Nat} {s q : Nat} : ∀ m e, e + m = v.length → q ≤ e → Per v s e q → ∃ e', e ≤ e' ∧ e' ≤ v.length ∧ Per v s e' q ∧ (e' < v.length → v[e']? ≠ v[e' - q]?)
  | 0, e, h, _, hp => ⟨e, Nat.le_refl _, by omega, hp, fun z => by omega⟩
  | m + 1, e, h, hq, hp => by
    by_cases c : v[e]? = v[e - q]?
    · obtain ⟨e', h1, h2⟩ := ext_right (v := v) (s := s) (q := q) m (e + 1) (by omega) (by omega) (fun j a b => by
        by_cases z : j + q < e
        · exact hp j a z
        · have e1 : j + q = e := by omega
          rw [e1, c]; congr 1; omega)
      exact ⟨e', by omega, h2⟩
    · exact ⟨e, Nat.le_refl _, by omega, hp, fun _ => c⟩
theorem home_ex {w v : List Nat} (L : Led w v) {s e k : Nat} (r : Run w s e k) : ∃ s' e' q, Run v s' e' q ∧ s' ≤ s ∧ e ≤ e' ∧ q ∣ k := by
  have h1 := r.least.pos
  have h2 := r.len
  have h3 := r.he
  have hp := L.per r.least.per
  obtain ⟨hl, _⟩ := leastP_ok (w := v) (show s < e by omega)
  generalize hq : leastP v s e = q at hl
  have hqk : q ≤ k := by
    rcases Nat.lt_or_ge k q with c | c
    · exact absurd hp (hl.min k h1 c)
    · exact c
  have hd := hl.dvd hp h1 (by omega)
  obtain ⟨s', a1, a2, a3⟩ := ext_left s hl.per
  obtain ⟨e', b1, b2, b3, b4⟩ := ext_right (v.length - e) e (by have := L.len; omega) (by omega) a2
  refine ⟨s', e', q, ⟨b2, ⟨hl.pos, b3, fun x x1 x2 hx => hl.min x x1 x2 (hx.sub a1 b1)⟩, by omega, b4, a3⟩, a1, b1, hd⟩
theorem lift_per {v : List Nat} {s e s1 e1 q g : Nat} (h : Per v s1 e1 q) (a : s1 ≤ s) (b : e ≤ e1) (l : s + 2 * q ≤ e) (hq : 1 ≤ q) (hg : g ≤ q) (p : Per v s e g) : Per v s1 e1 g := by
  intro j j1 j2
  by_cases c : s ≤ j
  · have hr : (j - s) % q < q := Nat.mod_lt _ (by omega)
    have hd := Nat.div_add_mod (j - s) q
    have hm : q * ((j - s) / q) = (j - s) / q * q := Nat.mul_comm _ _
    have x1 := h.add ((j - s) / q) (s + (j - s) % q) (by omega) (by omega)
    have x2 := h.add ((j - s) / q) (s + (j - s) % q + g) (by omega) (by omega)
    have x3 := p (s + (j - s) % q) (by omega) (by omega)
    rw [show s + (j - s) % q + (j - s) / q * q = j by omega] at x1
    rw [show s + (j - s) % q + g + (j - s) / q * q = j + g by omega] at x2
    rw [← x1, ← x2]; exact x3
  · have hr : (s - j + q - 1) % q < q := Nat.mod_lt _ (by omega)
    have hd := Nat.div_add_mod (s - j + q - 1) q
    have hm : q * ((s - j + q - 1) / q) = (s - j + q - 1) / q * q := Nat.mul_comm _ _
    generalize (s - j + q - 1) / q = m at *
    have x1 := h.add m j (by omega) (by omega)
    have x2 := h.add m (j + g) (by omega) (by omega)
    have x3 := p (j + m * q) (by omega) (by omega)
    rw [x1, x2, x3]; congr 1; omega
theorem home_uniq {v : List Nat} {s e k s1 e1 q1 s2 e2 q2 : Nat} (hk : 1 ≤ k) (hl : s + 2 * k ≤ e) (r1 : Run v s1 e1 q1) (r2 : Run v s2 e2 q2) (a1 : s1 ≤ s) (b1 : e ≤ e1) (d1 : q1 ∣ k) (a2 : s2 ≤ s) (b2 : e ≤ e2) (d2 : q2 ∣ k) : s1 = s2 ∧ e1 = e2 ∧ q1 = q2 := by
  have p1 := r1.least.pos
  have p2 := r2.least.pos
  have l1 := Nat.le_of_dvd hk d1
  have l2 := Nat.le_of_dvd hk d2
  have g := fw _ q1 q2 rfl p1 p2 (by omega) (r1.least.per.sub a1 b1) (r2.least.per.sub a2 b2)
  have gp : 0 < Nat.gcd q1 q2 := Nat.gcd_pos_of_pos_left _ p1
  have g1 : Nat.gcd q1 q2 ≤ q1 := Nat.gcd_le_left _ p1
  have g2 : Nat.gcd q1 q2 ≤ q2 := Nat.gcd_le_right _ p2
  have e1' : Nat.gcd q1 q2 = q1 := by
    rcases Nat.lt_or_ge (Nat.gcd q1 q2) q1 with c | c
    · exact absurd (lift_per r1.least.per a1 b1 (by omega) p1 g1 g) (r1.least.min _ gp c)
    · omega
  have e2' : Nat.gcd q1 q2 = q2 := by
    rcases Nat.lt_or_ge (Nat.gcd q1 q2) q2 with c | c
    · exact absurd (lift_per r2.least.per a2 b2 (by omega) p2 g2 g) (r2.least.min _ gp c)
    · omega
  have eq : q1 = q2 := by omega
  subst eq
  refine ⟨?_, ?_, rfl⟩
  · rcases Nat.lt_trichotomy s1 s2 with c | c | c
    · exact absurd (r1.least.per (s2 - 1) (by omega) (by omega)) (r2.left (by omega))
    · exact c
    · exact absurd (r2.least.per (s1 - 1) (by omega) (by omega)) (r1.left (by omega))
  · rcases Nat.lt_trichotomy e1 e2 with c | c | c
    · have := r2.least.per (e1 - q1) (by omega) (by omega)
      rw [show e1 - q1 + q1 = e1 by omega] at this
      exact absurd this.symm (r1.right (by have := r2.he; omega))
    · exact c
    · have := r1.least.per (e2 - q1) (by omega) (by omega)
      rw [show e2 - q1 + q1 = e2 by omega] at this
      exact absurd this.symm (r2.right (by have := r1.he; omega))
theorem filter_one {α : Type} {l : List α} (nd : l.Nodup) {p : α → Bool} {a : α} (ha : a ∈ l) (hp : ∀ b ∈ l, p b = true ↔ b = a) : (l.filter p).length = 1 := by
  have h : (l.filter p).Perm [a] := (List.perm_ext_iff_of_nodup (nd.filter p) (by simp)).mpr fun b => by
    rw [List.mem_filter, List.mem_singleton]
    exact ⟨fun ⟨h1, h2⟩ => (hp b h1).mp h2, fun h => by subst h; exact ⟨ha, (hp b ha).mpr rfl⟩⟩
  rw [h.length_eq]; rfl
def homeB (x y : Int × Int × Int) : Bool := (decide (y.1 ≤ x.1) && decide (x.2.1 ≤ y.2.1)) && decide (x.2.2 % y.2.2 = 0)
theorem within_ok {w v : List Nat} (hw : w.length ≤ 60) (hv : Wd v) (L : Led w v) : m_l_within (runsL w) (runsL v) = some true := by
  unfold m_l_within
  rw [forR_all (fun x hx => by
    obtain ⟨s, e, k, rfl, r⟩ := mem_runsL.mp hx
    have h1 := r.least.pos
    unfold l_within_b0
    rw [forN_flat (g := fun y => if homeB (tri s e k) y = true then [y] else []) (c := 1) (N := L24) (fun y _ => one_len') (fun y hy found hf => by
      obtain ⟨s2, e2, k2, rfl, r2⟩ := mem_runsL.mp hy
      have h2 := r2.least.pos
      unfold l_within_b1 homeB
      by_cases c : (decide ((tri s2 e2 k2).1 ≤ (tri s e k).1) && decide ((tri s e k).2.1 ≤ (tri s2 e2 k2).2.1)) = true
      · rw [if_pos c, c, Bool.true_and, ask_t (show 0 < (tri s2 e2 k2).2.2 from (by show 0 < (k2 : Int); omega))]
        by_cases d : decide ((tri s e k).2.2 % (tri s2 e2 k2).2.2 = 0) = true
        · rw [if_pos d, if_pos d, ask_t (show found.length < 16777216 by have : found.length + 1 ≤ 16777216 := hf; omega)]
        · rw [if_neg d, if_neg d, List.append_nil]
      · rw [if_neg c, Bool.eq_false_iff.mpr c, Bool.false_and, if_neg (by simp), List.append_nil]) (by
        have := runsL_len60 hv.len
        show 0 + _ ≤ 16777216
        omega), Option.bind_some, List.nil_append, filter_flat (homeB (tri s e k)) (fun y => y), List.map_id']
    obtain ⟨s', e', q, r', x1, x2, x3⟩ := home_ex L r
    rw [filter_one (runsL_nodup v) (a := tri s' e' q) (mem_runsL.mpr ⟨s', e', q, rfl, r'⟩) (fun b hb => by
      obtain ⟨s2, e2, k2, rfl, r2⟩ := mem_runsL.mp hb
      have hb' : homeB (tri s e k) (tri s2 e2 k2) = true ↔ s2 ≤ s ∧ e ≤ e2 ∧ k2 ∣ k := by
        unfold homeB tri
        simp only [Bool.and_eq_true, decide_eq_true_eq]
        constructor
        · rintro ⟨⟨z1, z2⟩, z3⟩
          refine ⟨by omega, by omega, Nat.dvd_of_mod_eq_zero (by omega)⟩
        · rintro ⟨z1, z2, z3⟩
          have := Nat.mod_eq_zero_of_dvd z3
          exact ⟨⟨by omega, by omega⟩, by omega⟩
      rw [hb']
      constructor
      · rintro ⟨z1, z2, z3⟩
        obtain ⟨rfl, rfl, rfl⟩ := home_uniq h1 r.len r2 r' z1 z2 z3 x1 x2 x3
        rfl
      · intro z
        obtain ⟨rfl, rfl, rfl⟩ := tri_inj z
        exact ⟨x1, x2, x3⟩)]
    rfl)]
  rfl
/-! ### what stays -/
theorem periods_sub {w v : List Nat} (L : Led w v) {k : Nat} (h : k ∈ periodsN w) : k ∈ periodsN v := by
  unfold periodsN at *
  rw [List.mem_filter, mem_nrng, perB_iff] at *
  exact ⟨by rw [L.len]; exact h.1, by rw [L.len]; exact L.per h.2⟩
theorem lcp_mono {w v : List Nat} (L : Led w v) {i : Nat} (h : i ≤ w.length) : lcpN w i ≤ lcpN v i := by
  have a := lcp_ok (w := w) h
  have b := lcp_ok (w := v) (i := i) (by rw [L.len]; exact h)
  exact b.ge (by rw [L.len]; exact a.le) fun j hj => L.eq _ _ (a.eq j hj)
theorem reach_le (w : List Nat) (c : Nat) : ∀ k, k ≤ w.length → reach w c k ≤ k - 1 + c ∧ reach w c k ≤ w.length
  | 0, _ => ⟨by show 0 ≤ _; omega, by show 0 ≤ _; omega⟩
  | k + 1, h => by
    have ih := reach_le w c k (by omega)
    rw [reach_succ]
    unfold stepR
    split
    · rename_i z
      have := (lcp_ok (w := w) (i := k) (by omega)).le
      omega
    · omega
theorem reach_mono {w v : List Nat} (L : Led w v) (c : Nat) : ∀ k, k ≤ w.length → reach w c k ≤ reach v c k
  | 0, _ => Nat.le_refl _
  | k + 1, h => by
    have ih := reach_mono L c k (by omega)
    have hm := lcp_mono L (i := k) (by omega)
    have hr := reach_le w c k (by omega)
    rw [reach_succ, reach_succ]
    unfold stepR
    split
    · rw [if_pos (by omega)]; omega
    · split
      · omega
      · exact ih
theorem covers_sub {w v : List Nat} (L : Led w v) {k : Nat} (h : k ∈ coversN w) : k ∈ coversN v := by
  unfold coversN coverB at *
  rw [List.mem_filter, mem_nrng, decide_eq_true_eq] at *
  have h1 := reach_mono L k w.length (Nat.le_refl _)
  have h2 := (reach_le v k v.length (Nat.le_refl _)).2
  have := L.len
  rw [L.len] at h2 ⊢
  exact ⟨h.1, by omega⟩
theorem bord_mono {w v : List Nat} (L : Led w v) {e : Nat} (h : 1 ≤ e) : bordN w e ≤ bordN v e := by
  have a := bord_ok (w := w) h
  exact (bord_ok (w := v) h).m _ ⟨a.br.1, fun j hj => L.eq _ _ (a.br.2 j hj)⟩
theorem mir_mono {w v : List Nat} (L : Led w v) {c : Nat} (h : c + 2 ≤ 2 * w.length) : mirV w c ≤ mirV v c := by
  have a := mirQ_ok h
  have b := mirQ_ok (w := v) (c := c) (by rw [L.len]; exact h)
  have := b.least (mirQ w c) (by rw [L.len]; exact a.lo) fun j j1 j2 => L.eq _ _ (a.all j j1 j2)
  unfold mirV
  omega
theorem at0 {α : Type} {a b : α} : atI [a, b] (0 : Int) = some a := rfl
theorem at1 {α : Type} {a b : α} : atI [a, b] (1 : Int) = some b := rfl
theorem stays_sub {a b : List Nat} (h : ∀ k ∈ a, k ∈ b) : l_stays_b0 [cast a, cast b] = some (.nx ()) := by
  unfold l_stays_b0
  rw [at0, Option.bind_some, forR_all (fun x hx => by
    unfold l_stays_b1
    rw [at1, Option.bind_some, if_neg]
    obtain ⟨k, hk, rfl⟩ := List.mem_map.mp hx
    have : (k : Int) ∈ cast b := List.mem_map.mpr ⟨k, h k hk, rfl⟩
    simpa using this)]
  rfl
theorem stays_le {n m : Nat} {f g : Nat → Nat} (hm : m ≤ 900000) (h : ∀ i, n ≤ i → i < m → f i ≤ g i) : l_stays_b2 [cast ((nrng n m).map f), cast ((nrng n m).map g)] = some (.nx ()) := by
  have hl : ∀ f : Nat → Nat, (cast ((nrng n m).map f)).length = m - n := fun f => by rw [cast_len, List.length_map, nrng_len]
  have hg : ∀ (f : Nat → Nat) (i : Nat), i < m - n → atI (cast ((nrng n m).map f)) (i : Int) = some ((f (n + i) : Nat) : Int) := fun f i hi => by
    rw [Wk.atI_nat]
    unfold cast
    rw [List.getElem?_map, List.getElem?_map, nrng_get hi]; rfl
  unfold l_stays_b2
  rw [at0, Option.bind_some, hl, ask_t (rng1_ok (by omega) (by omega)), rng_nat (x := 0) (y := ((m - n : Nat) : Int)) (a := 0) (b := m - n) rfl (by omega), forR_map, forR_all (fun i hi => by
    have hi := mem_nrng.mp hi
    unfold l_stays_b3
    rw [at0, Option.bind_some, hg f i hi.2, Option.bind_some, at1, Option.bind_some, hg g i hi.2, Option.bind_some, if_neg]
    have := h (n + i) (by omega) (by omega)
    simp; omega)]
  rfl
theorem stays_ok {w v : List Nat} (hw : Wd w) (hv : Wd v) (L : Led w v) : m_l_stays w v = some true := by
  have h1 := hw.len
  have h2 := hv.len
  have h3 := L.len
  unfold m_l_stays
  rw [periods_eq (by omega) hw.chk, Option.bind_some, periods_eq (by omega) hv.chk, Option.bind_some, covers_eq (by omega) hw.chk, Option.bind_some, covers_eq (by omega) hv.chk, Option.bind_some, ask_t (by simp [L24]),
    forR_all (fun x hx => by
      simp only [List.cons_append, List.nil_append, List.mem_cons, List.not_mem_nil, or_false] at hx
      rcases hx with rfl | rfl
      · exact stays_sub fun k hk => periods_sub L hk
      · exact stays_sub fun k hk => covers_sub L hk), Option.bind_some]
  show Option.bind _ _ = _
  rw [border_eq (by omega) hw.chk, Option.bind_some, border_eq (by omega) hv.chk, Option.bind_some, prefix_eq (by omega) hw.chk, Option.bind_some, prefix_eq (by omega) hv.chk, Option.bind_some, ask_t (by simp [L24]),
    mirror_eq (by omega) hw.chk, Option.bind_some, mirror_eq (by omega) hv.chk, Option.bind_some, ask_t (by simp [L24]),
    forR_all (fun x hx => by
      simp only [List.cons_append, List.nil_append, List.mem_cons, List.not_mem_nil, or_false] at hx
      rcases hx with rfl | rfl | rfl
      · unfold bordersN
        rw [L.len]
        exact stays_le (by omega) fun i i1 _ => bord_mono L i1
      · unfold prefN
        rw [L.len]
        exact stays_le (by omega) fun i _ i2 => lcp_mono L (by omega)
      · unfold mirN
        rw [L.len]
        exact stays_le (by omega) fun i _ i2 => mir_mono L (by omega)), Option.bind_some]
  rfl
theorem squares_sub {w v : List Nat} (L : Led w v) {x : Int × Int} (h : x ∈ squaresL w) : x ∈ squaresL v := by
  obtain ⟨s, k, rfl, k1, k2, hp⟩ := mem_squaresL.mp h
  exact mem_squaresL.mpr ⟨s, k, rfl, k1, by rw [L.len]; exact k2, L.per hp⟩
end K79
/-! k79, plain part 8: shapes and led words -/
namespace K79
open PySem L2 Wk
def addK (ks : List Nat) (x : Nat) : List Nat := if x ∈ ks then ks else ks ++ [x]
def kinds (w : List Nat) : List Nat := w.foldl addK []
def ix : List Nat → Nat → Nat
  | [], _ => 0
  | y :: ys, x => if y = x then 0 else ix ys x + 1
theorem ix_cons (y : Nat) (ys : List Nat) (x : Nat) : ix (y :: ys) x = if y = x then 0 else ix ys x + 1 := rfl
theorem mapO_map {α β γ : Type} (f : α → Option β) (g : γ → α) : ∀ l : List γ, mapO f (l.map g) = mapO (fun x => f (g x)) l
  | [] => rfl
  | x :: l => by
    rw [List.map_cons]
    show (f (g x)).bind _ = (f (g x)).bind _
    rw [mapO_map f g l]
theorem ix_lt {x : Nat} : ∀ {ks : List Nat}, x ∈ ks → ix ks x < ks.length
  | y :: ys, h => by
    unfold ix
    by_cases c : y = x
    · rw [if_pos c]; simp
    · rw [if_neg c, List.length_cons]
      have := ix_lt (ks := ys) ((List.mem_cons.mp h).resolve_left (fun z => c z.symm))
      omega
theorem ix_get {x : Nat} : ∀ {ks : List Nat}, x ∈ ks → ks[ix ks x]? = some x
  | y :: ys, h => by
    unfold ix
    by_cases c : y = x
    · rw [if_pos c]; simp [c]
    · rw [if_neg c, List.getElem?_cons_succ]
      exact ix_get ((List.mem_cons.mp h).resolve_left (fun z => c z.symm))
theorem ix_app {x : Nat} {r : List Nat} : ∀ {ks : List Nat}, x ∈ ks → ix (ks ++ r) x = ix ks x
  | y :: ys, h => by
    rw [List.cons_append]
    unfold ix
    by_cases c : y = x
    · rw [if_pos c, if_pos c]
    · rw [if_neg c, if_neg c, ix_app ((List.mem_cons.mp h).resolve_left (fun z => c z.symm))]
theorem ix_new {x : Nat} {r : List Nat} : ∀ {ks : List Nat}, x ∉ ks → ix (ks ++ x :: r) x = ks.length
  | [], _ => by show (if x = x then 0 else _) = 0; rw [if_pos rfl]
  | y :: ys, h => by
    rw [List.cons_append]
    unfold ix
    rw [if_neg (fun z => h (by rw [z]; exact List.mem_cons_self ..)), ix_new (fun z => h (List.mem_cons_of_mem _ z))]; rfl
theorem addK_pre (ks : List Nat) (x : Nat) : ∃ r, addK ks x = ks ++ r := by
  unfold addK
  split
  · exact ⟨[], by simp⟩
  · exact ⟨[x], rfl⟩
theorem fold_pre : ∀ (w ks : List Nat), ∃ r, w.foldl addK ks = ks ++ r
  | [], ks => ⟨[], by simp⟩
  | x :: w, ks => by
    obtain ⟨r1, e1⟩ := addK_pre ks x
    obtain ⟨r2, e2⟩ := fold_pre w (addK ks x)
    refine ⟨r1 ++ r2, ?_⟩
    rw [List.foldl_cons, e2, e1, List.append_assoc]
theorem mem_addK {ks : List Nat} {x y : Nat} : y ∈ addK ks x ↔ y ∈ ks ∨ y = x := by
  unfold addK
  split
  · rename_i h
    exact ⟨.inl, fun z => z.elim id fun e => e ▸ h⟩
  · simp
theorem mem_fold {y : Nat} : ∀ {w ks : List Nat}, y ∈ w.foldl addK ks ↔ y ∈ ks ∨ y ∈ w
  | [], ks => by simp
  | x :: w, ks => by rw [List.foldl_cons, mem_fold, mem_addK, List.mem_cons]; exact or_assoc
theorem mem_kinds {w : List Nat} {y : Nat} : y ∈ kinds w ↔ y ∈ w := by unfold kinds; rw [mem_fold]; simp
theorem addK_len (ks : List Nat) (x : Nat) : (addK ks x).length ≤ ks.length + 1 := by unfold addK; split <;> simp
theorem fold_len : ∀ (w ks : List Nat), (w.foldl addK ks).length ≤ ks.length + w.length
  | [], ks => by simp
  | x :: w, ks => by
    have := fold_len w (addK ks x)
    have := addK_len ks x
    rw [List.foldl_cons, List.length_cons]; omega
theorem kinds_len (w : List Nat) : (kinds w).length ≤ w.length := by have := fold_len w []; unfold kinds; simpa using this
/-- the dict of the numbers -/
def numD : Nat → List Nat → List (Int × Int)
  | _, [] => []
  | n, k :: ks => ((k : Int), (n : Int)) :: numD (n + 1) ks
theorem numD_len : ∀ (n : Nat) (ks : List Nat), (numD n ks).length = ks.length
  | _, [] => rfl
  | n, k :: ks => by show (numD (n + 1) ks).length + 1 = _; rw [numD_len]; rfl
theorem numD_app : ∀ (n : Nat) (ks : List Nat) (x : Nat), numD n (ks ++ [x]) = numD n ks ++ [((x : Int), ((n + ks.length : Nat) : Int))]
  | n, [], x => rfl
  | n, k :: ks, x => by
    show _ :: numD (n + 1) (ks ++ [x]) = _
    rw [numD_app, List.length_cons, show n + 1 + ks.length = n + (ks.length + 1) by omega]; rfl
theorem numD_get {x : Nat} : ∀ {n : Nat} {ks : List Nat}, dGet (numD n ks) (x : Int) = if x ∈ ks then some (((n + ix ks x : Nat)) : Int) else none
  | n, [] => rfl
  | n, k :: ks => by
    have ih := numD_get (x := x) (n := n + 1) (ks := ks)
    unfold dGet at ih ⊢
    show ((((k : Int), (n : Int)) :: numD (n + 1) ks).find? _).map _ = _
    rw [List.find?_cons]
    by_cases c : k = x
    · rw [decide_eq_true (show ((k : Int), (n : Int)).1 = (x : Int) by show (k : Int) = x; omega), if_pos (by rw [c]; exact List.mem_cons_self ..)]
      rw [ix_cons, if_pos c]; rfl
    · rw [decide_eq_false (show ¬ ((k : Int), (n : Int)).1 = (x : Int) by show ¬ (k : Int) = x; omega)]
      show ((numD (n + 1) ks).find? _).map _ = _
      rw [ih]
      rw [ix_cons, if_neg c]
      by_cases d : x ∈ ks
      · rw [if_pos d, if_pos (List.mem_cons_of_mem _ d)]; congr 2; omega
      · rw [if_neg d, if_neg (fun z => d ((List.mem_cons.mp z).resolve_left (fun y => c y.symm)))]
theorem numD_has {x n : Nat} {ks : List Nat} : dHas (numD n ks) (x : Int) = decide (x ∈ ks) := by
  unfold dHas
  rw [numD_get]
  by_cases c : x ∈ ks
  · rw [if_pos c, decide_eq_true c]; rfl
  · rw [if_neg c, decide_eq_false c]; rfl
theorem dPut_new {κ β : Type} [DecidableEq κ] {m : List (κ × β)} {k : κ} {v : β} (h : dHas m k = false) : dPut m k v = m ++ [(k, v)] := by
  unfold dPut
  rw [if_neg]
  intro z
  obtain ⟨q, hq, e⟩ := List.any_eq_true.mp z
  unfold dHas dGet at h
  rw [Option.isSome_map] at h
  have : m.find? (fun q => decide (q.1 = k)) = none := by
    cases y : m.find? (fun q => decide (q.1 = k)) with
    | none => rfl
    | some a => rw [y] at h; cases h
  have := List.find?_eq_none.mp this q hq
  exact this e
theorem ren_loop : ∀ (w ks : List Nat), ks.length + w.length ≤ 1000 → forN (fun x1 s => renumbered_b0 x1 s) (cast w) (numD 0 ks) = some (numD 0 (w.foldl addK ks))
  | [], ks, _ => rfl
  | x :: w, ks, h => by
    rw [List.length_cons] at h
    have e : renumbered_b0 (x : Int) (numD 0 ks) = some (numD 0 (addK ks x)) := by
      unfold renumbered_b0
      rw [numD_has]
      by_cases c : x ∈ ks
      · rw [decide_eq_true c, if_neg (by simp)]
        unfold addK
        rw [if_pos c]
      · rw [decide_eq_false c, if_pos (by rfl), ask_t (by rw [numD_len]; show _ < 16777216; omega), dPut_new (by rw [numD_has, decide_eq_false c]), numD_len]
        unfold addK
        rw [if_neg c, numD_app, Nat.zero_add]
    show (renumbered_b0 (x : Int) (numD 0 ks)).bind _ = _
    rw [e, Option.bind_some]
    have := addK_len ks x
    exact ren_loop w (addK ks x) (by omega)
def numsOf (w : List Nat) : List Nat := w.map fun c => ix (kinds w) c
theorem renumbered_eq {w : List Nat} (h : w.length ≤ 1000) : m_renumbered (cast w) = some (cast (numsOf w)) := by
  unfold m_renumbered
  rw [show ([] : List (Int × Int)) = numD 0 [] from rfl, ren_loop w [] (by simpa using h), Option.bind_some, ask_t (by rw [cast_len]; show _ ≤ 16777216; omega),
    mapO_some (g := fun (x : Int) => ((ix (kinds w) x.toNat : Nat) : Int)) (fun x hx => by
      obtain ⟨k, hk, rfl⟩ := List.mem_map.mp hx
      rw [numD_get, if_pos (show k ∈ List.foldl addK [] w from mem_kinds.mpr hk)]
      show some _ = _
      rw [Nat.zero_add]; rfl)]
  show some _ = _
  congr 1
  unfold cast numsOf
  rw [List.map_map, List.map_map]; rfl
theorem init_eq {w : List Nat} (h : w.length ≤ 100) : m_Shape___init__ (cast w) = some (cast (numsOf w)) := by
  unfold m_Shape___init__ m_check_many
  rw [if_neg (by rw [cast_len]; simp; omega), Option.bind_some, renumbered_eq (by omega)]; rfl
theorem of_word_eq {w : List Nat} (h : Wd w) : m_Shape_of_word w = some (cast (numsOf w)) := by
  have hl := h.len
  unfold m_Shape_of_word
  rw [h.chk, Option.bind_some, ask_t (show w.length ≤ 16777216 by omega), mapO_some (f := fun (x1 : Nat) => (ordO [x1]).bind fun c_1 => some (c_1 : Int)) (g := fun (c : Nat) => (c : Int)) (fun c _ => rfl), Option.bind_some]
  show (m_Shape___init__ (cast w)).bind _ = _
  rw [init_eq (by omega)]; rfl
/-! ### the number of classes -/
theorem foldl_max : ∀ (l : List Int) (n m : Int), (∀ x ∈ n :: l, x ≤ m) → m ∈ n :: l → l.foldl max n = m
  | [], n, m, _, h => (List.mem_singleton.mp h).symm
  | x :: l, n, m, h1, h2 => by
    rw [List.foldl_cons]
    refine foldl_max l (max n x) m (fun y hy => ?_) ?_
    · rcases List.mem_cons.mp hy with rfl | hy
      · have := h1 n (by simp)
        have := h1 x (by simp)
        omega
      · exact h1 y (by simp [hy])
    · have a := h1 n (by simp)
      have b := h1 x (by simp)
      rcases List.mem_cons.mp h2 with rfl | h2
      · exact List.mem_cons.mpr (.inl (by omega))
      · rcases List.mem_cons.mp h2 with rfl | h2
        · exact List.mem_cons.mpr (.inl (by omega))
        · exact List.mem_cons_of_mem _ h2
theorem maxDef_eq {l : List Int} {m : Int} (h1 : ∀ x ∈ l, x ≤ m) (h2 : l ≠ [] → m ∈ l) (h3 : l = [] → m = -1) : maxDef l (-1) = m := by
  cases l with
  | nil => exact (h3 rfl).symm
  | cons n l => exact foldl_max l n m h1 (h2 (by simp))
theorem kinds_snoc (w : List Nat) (c : Nat) : kinds (w ++ [c]) = addK (kinds w) c := by unfold kinds; rw [List.foldl_append]; rfl
theorem kinds_top : ∀ (n : Nat) (w : List Nat), w.length = n → ∀ i, i < (kinds w).length → ∃ c ∈ w, ix (kinds w) c = i := by
  intro n
  induction n with
  | zero =>
    intro w hw i hi
    have : w = [] := List.eq_nil_of_length_eq_zero hw
    subst this
    exact absurd hi (Nat.not_lt_zero _)
  | succ n ih =>
    intro w hw i hi
    have hne : w ≠ [] := fun z => by subst z; cases hw
    obtain ⟨w', c, rfl⟩ : ∃ w' c, w = w' ++ [c] := ⟨w.dropLast, w.getLast hne, (List.dropLast_concat_getLast hne).symm⟩
    rw [kinds_snoc] at hi ⊢
    rw [List.length_append, List.length_singleton] at hw
    unfold addK at hi ⊢
    by_cases h : c ∈ kinds w'
    · rw [if_pos h] at hi ⊢
      obtain ⟨d, hd, e⟩ := ih w' (by omega) i hi
      exact ⟨d, List.mem_append_left _ hd, e⟩
    · rw [if_neg h] at hi ⊢
      rw [List.length_append, List.length_singleton] at hi
      by_cases q : i < (kinds w').length
      · obtain ⟨d, hd, e⟩ := ih w' (by omega) i q
        exact ⟨d, List.mem_append_left _ hd, by rw [ix_app (mem_kinds.mpr hd)]; exact e⟩
      · exact ⟨c, by simp, by rw [ix_new h]; omega⟩
theorem class_total_eq (w : List Nat) : m_Shape_class_total (cast (numsOf w)) = some (((kinds w).length : Nat) : Int) := by
  unfold m_Shape_class_total
  rw [maxDef_eq (m := (((kinds w).length : Nat) : Int) - 1)]
  · congr 1; omega
  · intro x hx
    unfold cast numsOf at hx
    rw [List.map_map] at hx
    obtain ⟨c, hc, rfl⟩ := List.mem_map.mp hx
    have := ix_lt (mem_kinds.mpr hc)
    show ((ix (kinds w) c : Nat) : Int) ≤ _
    omega
  · intro hne
    have hw : w ≠ [] := fun z => by subst z; exact hne rfl
    have hk : 0 < (kinds w).length := by
      cases w with
      | nil => exact absurd rfl hw
      | cons c w => exact List.length_pos_of_mem (mem_kinds.mpr (List.mem_cons_self (a := c) (l := w)))
    obtain ⟨c, hc, e⟩ := kinds_top w.length w rfl ((kinds w).length - 1) (by omega)
    unfold cast numsOf
    rw [List.map_map]
    exact List.mem_map.mpr ⟨c, hc, by show ((ix (kinds w) c : Nat) : Int) = _; omega⟩
  · intro he
    have hw : w = [] := by
      unfold cast numsOf at he
      simpa using he
    subst hw; rfl
/-! ### letters put together -/
structure Tab (m : List (List Nat × List Nat)) (w : List Nat) (t : Nat → Nat) : Prop where
  get : ∀ c ∈ w, dGet m [c] = some [t c]
  low : ∀ c ∈ w, 97 ≤ t c ∧ t c ≤ 122
theorem flatten_one (l : List Nat) : (l.map fun c => [c]).flatten = l := by
  induction l with
  | nil => rfl
  | cons c l ih => rw [List.map_cons, List.flatten_cons, ih]; rfl
theorem sjoin_one {l : List Nat} (h : l.length ≤ 1000) : SJoin [] (l.map fun c => [c]) := by
  unfold SJoin
  rw [List.map_map]
  have : ((List.length ∘ fun c => [c]) : Nat → Nat) = fun _ => 1 := rfl
  rw [this]
  have h2 : ∀ l : List Nat, (l.map fun _ => 1).sum = l.length := fun l => by
    induction l with
    | nil => rfl
    | cons c l ih => rw [List.map_cons, List.sum_cons, ih, List.length_cons]; omega
  rw [h2]; simp; omega
theorem put_eq {m : List (List Nat × List Nat)} {w : List Nat} {t : Nat → Nat} (h : Tab m w t) (hl : w.length ≤ 1000) : m_l_put w m = some (w.map t) := by
  unfold m_l_put
  rw [ask_t (show w.length ≤ 16777216 by omega), mapO_some (g := fun c => [t c]) (fun c hc => by rw [h.get c hc]; rfl), Option.bind_some,
    show (w.map fun c => [t c]) = (w.map t).map fun c => [c] by rw [List.map_map]; rfl, ask_t (sjoin_one (by rw [List.length_map]; exact hl)), joinT_nil, flatten_one]
theorem single_mem {ks : List Nat} {x : Nat} : (ks.map fun c => [c]).contains [x] = decide (x ∈ ks) := by
  rw [Bool.eq_iff_iff, List.contains_iff_mem, decide_eq_true_eq, List.mem_map]
  exact ⟨fun ⟨y, h, e⟩ => by simp at e; subst e; exact h, fun h => ⟨x, h, rfl⟩⟩
theorem led_loop0 : ∀ (w ks : List Nat), ks.length + w.length ≤ 1000 → forN (fun x1 s => l_led_b0 x1 s) w (ks.map fun c => [c]) = some ((w.foldl addK ks).map fun c => [c])
  | [], ks, _ => rfl
  | x :: w, ks, h => by
    rw [List.length_cons] at h
    have e : l_led_b0 x (ks.map fun c => [c]) = some ((addK ks x).map fun c => [c]) := by
      unfold l_led_b0
      rw [single_mem]
      unfold addK
      by_cases c : x ∈ ks
      · rw [decide_eq_true c, if_neg (by simp), if_pos c]
      · rw [decide_eq_false c, if_pos (by rfl), ask_t (by rw [List.length_map]; show _ < 16777216; omega), if_neg c, List.map_append]; rfl
    show (l_led_b0 x _).bind _ = _
    rw [e, Option.bind_some]
    have := addK_len ks x
    exact led_loop0 w (addK ks x) (by omega)
theorem idxO_single {x : Nat} : ∀ {ks : List Nat}, x ∈ ks → idxO (ks.map fun c => [c]) [x] = some (ix ks x)
  | y :: ys, h => by
    unfold idxO
    rw [List.map_cons, List.findIdx?_cons]
    unfold ix
    by_cases c : y = x
    · rw [if_pos c, if_pos (by simp [c])]
    · rw [if_neg c, if_neg (by simp [c])]
      have ih := idxO_single (ks := ys) ((List.mem_cons.mp h).resolve_left (fun z => c z.symm))
      unfold idxO at ih
      rw [ih]; rfl
theorem led_loop1 : ∀ (w ks : List Nat) (du : List Int), ks.length + w.length ≤ 1000 → du.length + w.length ≤ 1000 →
    forN (fun x3 s => l_led_b1 x3 s.1 s.2) w (ks.map (fun c => [c]), du) = some ((w.foldl addK ks).map (fun c => [c]), du ++ cast (w.map fun c => ix (w.foldl addK ks) c))
  | [], ks, du, _, _ => by show some _ = some _; simp [cast]
  | x :: w, ks, du, h, h2 => by
    rw [List.length_cons] at h h2
    have hx : x ∈ addK ks x := mem_addK.mpr (.inr rfl)
    have e : l_led_b1 x (ks.map fun c => [c]) du = some ((addK ks x).map (fun c => [c]), du ++ [((ix (addK ks x) x : Nat) : Int)]) := by
      unfold l_led_b1
      have e1 : (if (!(ks.map fun c => [c]).contains [x]) = true then ((ask ((ks.map fun c => [c]).length < L24)).bind fun _ => some ((ks.map fun c => [c]) ++ [[x]])) else (some (ks.map fun c => [c]))) = some ((addK ks x).map fun c => [c]) := by
        rw [single_mem]
        unfold addK
        by_cases c : x ∈ ks
        · rw [decide_eq_true c, if_neg (by simp), if_pos c]
        · rw [decide_eq_false c, if_pos (by rfl), ask_t (by rw [List.length_map]; show _ < 16777216; omega), if_neg c, List.map_append]; rfl
      rw [e1, Option.bind_some, idxO_single hx, Option.bind_some, ask_t (show du.length < 16777216 by omega)]
    show (l_led_b1 x _ _).bind _ = _
    rw [e, Option.bind_some]
    have := addK_len ks x
    rw [led_loop1 w (addK ks x) _ (by omega) (by rw [List.length_append, List.length_singleton]; omega)]
    obtain ⟨r, er⟩ := fold_pre w (addK ks x)
    rw [List.foldl_cons, List.append_assoc]
    congr 3
    show _ = ((ix (w.foldl addK (addK ks x)) x : Nat) : Int) :: _
    rw [er, ix_app hx]; rfl
theorem kinds_map (t : Nat → Nat) : ∀ (w ks : List Nat), (w.map t).foldl addK (kinds (ks.map t)) = kinds ((w.foldl addK ks).map t)
  | [], ks => rfl
  | c :: w, ks => by
    rw [List.map_cons, List.foldl_cons, List.foldl_cons, ← kinds_map t w (addK ks c)]
    congr 1
    unfold addK
    by_cases h : c ∈ ks
    · rw [if_pos h, if_pos (mem_kinds.mpr (List.mem_map.mpr ⟨c, h, rfl⟩))]
    · rw [if_neg h, List.map_append]
      show _ = kinds (ks.map t ++ [t c])
      rw [kinds_snoc]; rfl
theorem kinds_kinds (t : Nat → Nat) (w : List Nat) : kinds (w.map t) = kinds ((kinds w).map t) := kinds_map t w []
theorem map_loop (f : Nat → Nat) (W : List Nat) : ∀ (w ks : List Nat), w.foldl addK ks = W → ks.length + w.length ≤ 1000 →
    forR (fun x1 s => Shape_map_to_b0 x1 s) (w.map fun c => (((ix W c : Nat) : Int), ((f c : Nat) : Int))) (cast (ks.map f)) = some (.nx (cast (W.map f)))
  | [], ks, h, _ => by
    have h : ks = W := h
    subst h; rfl
  | c :: w, ks, h, hl => by
    rw [List.length_cons] at hl
    rw [List.foldl_cons] at h
    obtain ⟨r, er⟩ := fold_pre w (addK ks c)
    have e : Shape_map_to_b0 (((ix W c : Nat) : Int), ((f c : Nat) : Int)) (cast (ks.map f)) = some (.nx (cast ((addK ks c).map f))) := by
      unfold Shape_map_to_b0
      have hlen : (cast (ks.map f)).length = ks.length := by rw [cast_len, List.length_map]
      rw [hlen]
      by_cases q : c ∈ ks
      · have hw : ix W c = ix ks c := by
          rw [← h, er]
          unfold addK
          rw [if_pos q]; exact ix_app q
        have hlt := ix_lt q
        have hg : atI (cast (ks.map f)) ((ix W c : Nat) : Int) = some ((f c : Nat) : Int) := by
          rw [Wk.atI_nat, hw]
          unfold cast
          rw [List.getElem?_map, List.getElem?_map, ix_get q]; rfl
        rw [if_neg (by simp; omega)]
        show (atI (cast (ks.map f)) ((ix W c : Nat) : Int)).bind _ = _
        rw [hg, Option.bind_some, if_neg (by simp)]
        unfold addK
        rw [if_pos q]
      · have hw : ix W c = ks.length := by
          rw [← h, er]
          unfold addK
          rw [if_neg q, List.append_assoc]; exact ix_new q
        rw [if_pos (decide_eq_true (by show ((ix W c : Nat) : Int) = _; rw [hw])), ask_t (show ks.length < 16777216 by omega)]
        unfold addK
        rw [if_neg q]
        show some (Fl.nx _) = _
        congr 2
        unfold cast
        simp
    show (Shape_map_to_b0 _ _).bind _ = _
    rw [e, Option.bind_some]
    have := addK_len ks c
    exact map_loop f W w (addK ks c) h (by omega)
theorem map_to_eq {w : List Nat} {t : Nat → Nat} (hl : w.length ≤ 60) : m_Shape_map_to (cast (numsOf w)) (cast (numsOf (w.map t))) = some (some (cast ((kinds w).map fun k => ix (kinds (w.map t)) (t k)))) := by
  have h1 : (cast (numsOf w)).length = w.length := by rw [cast_len]; unfold numsOf; rw [List.length_map]
  have h2 : (cast (numsOf (w.map t))).length = w.length := by rw [cast_len]; unfold numsOf; rw [List.length_map, List.length_map]
  have hz : (cast (numsOf w)).zip (cast (numsOf (w.map t))) = w.map fun c => (((ix (kinds w) c : Nat) : Int), ((ix (kinds (w.map t)) (t c) : Nat) : Int)) := by
    unfold cast numsOf
    rw [List.map_map, List.map_map, List.map_map, List.zip_map']; rfl
  unfold m_Shape_map_to m_Shape___len__
  rw [h1, h2, Option.bind_some, ask_t (by omega), Option.bind_some, ask_t (by omega), if_neg (by simp), hz,
    show ([] : List Int) = cast (([] : List Nat).map fun k => ix (kinds (w.map t)) (t k)) from rfl,
    map_loop (fun k => ix (kinds (w.map t)) (t k)) (kinds w) w [] rfl (by simp; omega)]
  rfl
theorem shape_led_eq {w : List Nat} {t : Nat → Nat} (hl : w.length ≤ 60) (hlow : ∀ c ∈ w, 97 ≤ t c ∧ t c ≤ 122) : m_Shape_led (cast (numsOf w)) ((kinds w).map t) = some (w.map t) := by
  have hk := kinds_len w
  have hn : (cast (numsOf w)).length = w.length := by rw [cast_len]; unfold numsOf; rw [List.length_map]
  unfold m_Shape_led
  rw [show (100 : Int) = ((100 : Nat) : Int) from rfl, letters_ok (fun c hc => by
    obtain ⟨k, hk, rfl⟩ := List.mem_map.mp hc
    exact hlow k (mem_kinds.mp hk)) (by rw [List.length_map]; omega) (by omega), Option.bind_some, if_pos rfl, ask_t (by rw [List.length_map]; show _ ≤ 16777216; omega), class_total_eq, Option.bind_some,
    if_neg (by rw [List.length_map]; simp), ask_t (by rw [hn]; show _ ≤ 16777216; omega)]
  have : mapO (fun (x1 : Int) => (ask (((kinds w).map t).length ≤ L24)).bind fun _ => (atI ((kinds w).map t) x1).bind fun c_1 => some [c_1]) (cast (numsOf w)) = some ((w.map t).map fun c => [c]) := by
    unfold cast numsOf
    rw [List.map_map, List.map_map, mapO_map, mapO_some (g := fun c => [t c]) (fun c hc => by
      rw [ask_t (by rw [List.length_map]; show _ ≤ 16777216; omega)]
      show ((atI ((kinds w).map t) ((ix (kinds w) c : Nat) : Int)).bind fun c_1 => some [c_1]) = _
      rw [Wk.atI_nat, List.getElem?_map, ix_get (mem_kinds.mpr hc)]; rfl)]
    rfl
  rw [this, Option.bind_some, ask_t (sjoin_one (by rw [List.length_map]; omega)), joinT_nil, flatten_one]
theorem led_eq {m : List (List Nat × List Nat)} {w : List Nat} {t : Nat → Nat} (h : Tab m w t) (hw : Wd w) : m_l_led w m = some true := by
  have hl := hw.len
  have hk := kinds_len w
  have hv : Wd (w.map t) := ⟨by rw [List.length_map]; exact hl, fun c hc => by obtain ⟨k, hk, rfl⟩ := List.mem_map.mp hc; exact h.low k hk⟩
  unfold m_l_led
  rw [show ([] : List (List Nat)) = ([] : List Nat).map fun c => [c] from rfl, led_loop0 w [] (by simp; omega), Option.bind_some]
  show Option.bind (ask (((kinds w).map fun c => [c]).length ≤ L24)) _ = _
  rw [ask_t (by rw [List.length_map]; show _ ≤ 16777216; omega), show List.foldl addK [] w = kinds w from rfl]
  have e1 : mapO (fun (x2 : List Nat) => (dGet m x2).bind fun x_1 => some x_1) ((kinds w).map fun c => [c]) = some (((kinds w).map t).map fun c => [c]) := by
    rw [mapO_map, mapO_some (g := fun c => [t c]) (fun c hc => by rw [h.get c (mem_kinds.mp hc)]; rfl), List.map_map]
    rfl
  rw [e1, Option.bind_some]
  show Option.bind (ask (SJoin [] (((kinds w).map t).map fun c => [c]))) _ = _
  rw [ask_t (sjoin_one (by rw [List.length_map]; omega)), joinT_nil, flatten_one, of_word_eq hw, Option.bind_some, shape_led_eq hl h.low, Option.bind_some, put_eq h (by omega), Option.bind_some, if_neg (by simp), Option.bind_some,
    of_word_eq hv, Option.bind_some, led_loop1 ((kinds w).map t) [] [] (by simp; omega) (by simp; omega), Option.bind_some]
  unfold m_Shape_is_freer
  rw [map_to_eq hl, Option.bind_some, Option.bind_some, if_neg (by simp), Option.bind_some]
  show (m_l_ints _ _).bind _ = _
  have e2 : (cast ((kinds w).map fun k => ix (kinds (w.map t)) (t k))) = [] ++ cast (((kinds w).map t).map fun c => ix (((kinds w).map t).foldl addK []) c) := by
    rw [List.nil_append, List.map_map]
    congr 1
    refine List.map_congr_left fun k _ => ?_
    show ix (kinds (w.map t)) (t k) = ix (kinds ((kinds w).map t)) (t k)
    rw [kinds_kinds]
  rw [e2, ints_ok (by rw [List.nil_append, cast_len, List.length_map, List.length_map]; omega)]
  rfl
theorem led_of {w : List Nat} (t : Nat → Nat) : Led w (w.map t) := ⟨by rw [List.length_map], fun i j h => by rw [List.getElem?_map, List.getElem?_map, h]⟩
theorem right_eq {m : List (List Nat × List Nat)} {w : List Nat} {t : Nat → Nat} (h : Tab m w t) (hw : Wd w) : m_l_right w m (runsL w, squaresL w, runsL w) = some true := by
  have hl := hw.len
  have hv : Wd (w.map t) := ⟨by rw [List.length_map]; exact hl, fun c hc => by obtain ⟨k, hk, rfl⟩ := List.mem_map.mp hc; exact h.low k hk⟩
  have L := led_of (w := w) t
  have hr := runsL_len60 hv.len
  unfold m_l_right
  rw [put_eq h (by omega), Option.bind_some, led_eq h hw, Option.bind_some, if_pos rfl, known_eq hv, Option.bind_some]
  show Option.bind (m_l_within (runsL w) (runsL (w.map t))) _ = _
  rw [within_ok hl hv L, Option.bind_some, if_pos rfl, forR_all (fun x hx => by
    unfold l_right_b0
    rw [if_neg]
    have : inB x (squaresL (w.map t)) = true := inB_iff.mpr (squares_sub L hx)
    show ¬ (!inB x (squaresL (w.map t))) = true
    rw [this]; simp), Option.bind_some]
  show Option.bind _ _ = _
  rw [stays_ok hw hv L, Option.bind_some, if_pos rfl]
  show Option.bind (ask ((runsL (w.map t)).length < L24)) _ = _
  rw [ask_t (by show _ < 16777216; omega), runs_eq hv, Option.bind_some]
  show Option.bind (m_l_rowsT (runsL (w.map t)) (runsL (w.map t))) _ = _
  rw [rowsT_ok (by omega)]; rfl
end K79
/-! k79, plain part 9: the draws and the law -/
namespace K79
open PySem L2 Wk
theorem smul_two {i j : Int} (h : i.natAbs < 2 ^ 200) (h2 : j.natAbs < 2 ^ 200) : Wk.SMul i j := by
  unfold Wk.SMul
  have a : i.natAbs.log2 < 200 ∨ i.natAbs = 0 := by
    by_cases z : i.natAbs = 0
    · exact .inr z
    · exact .inl ((Nat.log2_lt z).mpr h)
  have b : j.natAbs.log2 < 200 ∨ j.natAbs = 0 := by
    by_cases z : j.natAbs = 0
    · exact .inr z
    · exact .inl ((Nat.log2_lt z).mpr h2)
  have c : (0 : Nat).log2 = 0 := by decide
  rcases a with a | a <;> rcases b with b | b
  · omega
  · rw [b, c]; omega
  · rw [a, c]; omega
  · rw [a, b, c]; omega
structure StO (st : List Int) : Prop where
  len : st.length ≤ 63
  pos : ∀ x ∈ st, 0 ≤ x
/-! ### the stock -/
theorem pool_step (x : Int) (s : List Int) (hs : s.length + 1 ≤ 63) : ∃ v, l_pool_b0 x s = some (s ++ [v]) ∧ 0 ≤ v := by
  have ha : 0 ≤ absI x := by unfold absI; split <;> omega
  unfold l_pool_b0
  generalize absI x = a at ha
  rw [ask_t (show CPow (10 : Int) (18 : Int) by decide)]
  have key : ∃ n : Int, (if (decide (a < ((10 : Int) ^ ((18 : Int)).toNat))) = true then ((ask (Wk.SMul a (48271 : Int))).bind fun _ => (ask (0 < (2147483647 : Int))).bind fun _ => (ask (Wk.SMul a (69621 : Int))).bind fun _ => (ask (Wk.SMul (((a * (48271 : Int)) + (11 : Int)) % (2147483647 : Int)) (7 : Int))).bind fun _ => (ask (0 < (2147483629 : Int))).bind fun _ => (ask (Wk.SMul a (16807 : Int))).bind fun _ => (ask (Wk.SMul (((((a * (69621 : Int)) + (((a * (48271 : Int)) + (11 : Int)) % (2147483647 : Int)) * (7 : Int)) + (if (decide (x < (0 : Int))) = true then (1 : Int) else 0)) + (5 : Int)) % (2147483629 : Int)) (3 : Int))).bind fun _ => (ask (0 < (2147483587 : Int))).bind fun _ => (ask (Wk.SMul ((((a * (16807 : Int)) + (((((a * (69621 : Int)) + (((a * (48271 : Int)) + (11 : Int)) % (2147483647 : Int)) * (7 : Int)) + (if (decide (x < (0 : Int))) = true then (1 : Int) else 0)) + (5 : Int)) % (2147483629 : Int)) * (3 : Int)) + (((a * (48271 : Int)) + (11 : Int)) % (2147483647 : Int))) % (2147483587 : Int)) (2147483629 : Int))).bind fun _ => (ask (Wk.SMul ((((((a * (16807 : Int)) + (((((a * (69621 : Int)) + (((a * (48271 : Int)) + (11 : Int)) % (2147483647 : Int)) * (7 : Int)) + (if (decide (x < (0 : Int))) = true then (1 : Int) else 0)) + (5 : Int)) % (2147483629 : Int)) * (3 : Int)) + (((a * (48271 : Int)) + (11 : Int)) % (2147483647 : Int))) % (2147483587 : Int)) * (2147483629 : Int)) + (((((a * (69621 : Int)) + (((a * (48271 : Int)) + (11 : Int)) % (2147483647 : Int)) * (7 : Int)) + (if (decide (x < (0 : Int))) = true then (1 : Int) else 0)) + (5 : Int)) % (2147483629 : Int))) (2147483647 : Int))).bind fun _ => some ((((((((a * (16807 : Int)) + (((((a * (69621 : Int)) + (((a * (48271 : Int)) + (11 : Int)) % (2147483647 : Int)) * (7 : Int)) + (if (decide (x < (0 : Int))) = true then (1 : Int) else 0)) + (5 : Int)) % (2147483629 : Int)) * (3 : Int)) + (((a * (48271 : Int)) + (11 : Int)) % (2147483647 : Int))) % (2147483587 : Int)) * (2147483629 : Int)) + (((((a * (69621 : Int)) + (((a * (48271 : Int)) + (11 : Int)) % (2147483647 : Int)) * (7 : Int)) + (if (decide (x < (0 : Int))) = true then (1 : Int) else 0)) + (5 : Int)) % (2147483629 : Int))) * (2147483647 : Int)) + (((a * (48271 : Int)) + (11 : Int)) % (2147483647 : Int)))) else (some a)) = some n := by
    by_cases c : a < (10 : Int) ^ ((18 : Int)).toNat
    · have c2 : a < 1000000000000000000 := by simpa using c
      have h1 := Int.emod_nonneg ((a * (48271 : Int)) + (11 : Int)) (show (2147483647 : Int) ≠ 0 by decide)
      have h2 := Int.emod_lt_of_pos ((a * (48271 : Int)) + (11 : Int)) (show (0 : Int) < 2147483647 by decide)
      rw [if_pos (decide_eq_true c), ask_t (smul_two (by omega) (by decide)), ask_t (by decide), ask_t (smul_two (by omega) (by decide))]
      generalize ((a * (48271 : Int)) + (11 : Int)) % (2147483647 : Int) = low at *
      rw [ask_t (smul_two (by omega) (by decide)), ask_t (by decide), ask_t (smul_two (by omega) (by decide))]
      have h3 := Int.emod_nonneg ((((a * (69621 : Int)) + low * (7 : Int)) + (if (decide (x < (0 : Int))) = true then (1 : Int) else 0)) + (5 : Int)) (show (2147483629 : Int) ≠ 0 by decide)
      have h4 := Int.emod_lt_of_pos ((((a * (69621 : Int)) + low * (7 : Int)) + (if (decide (x < (0 : Int))) = true then (1 : Int) else 0)) + (5 : Int)) (show (0 : Int) < 2147483629 by decide)
      generalize ((((a * (69621 : Int)) + low * (7 : Int)) + (if (decide (x < (0 : Int))) = true then (1 : Int) else 0)) + (5 : Int)) % (2147483629 : Int) = high at *
      rw [ask_t (smul_two (by omega) (by decide)), ask_t (by decide)]
      have h5 := Int.emod_nonneg (((a * (16807 : Int)) + high * (3 : Int)) + low) (show (2147483587 : Int) ≠ 0 by decide)
      have h6 := Int.emod_lt_of_pos (((a * (16807 : Int)) + high * (3 : Int)) + low) (show (0 : Int) < 2147483587 by decide)
      generalize (((a * (16807 : Int)) + high * (3 : Int)) + low) % (2147483587 : Int) = top at *
      rw [ask_t (smul_two (by omega) (by decide)), ask_t (smul_two (by omega) (by decide))]
      exact ⟨_, rfl⟩
    · rw [if_neg (by simpa using c)]
      exact ⟨a, rfl⟩
  obtain ⟨n, e⟩ := key
  refine ⟨n % ((10 : Int) ^ ((64 : Int)).toNat), ?_, Int.emod_nonneg _ (by decide)⟩
  show Option.bind _ _ = _
  rw [e, Option.bind_some, ask_t (show CPow (10 : Int) (64 : Int) by decide), ask_t (by decide), ask_t (show s.length < 16777216 by omega)]
theorem pool_ok (ns : List Int) : ∃ st, m_l_pool ns = some st ∧ StO st := by
  unfold m_l_pool
  rw [show (63 : Int) = ((63 : Nat) : Int) from rfl, cutT_hi (b := 63) rfl]
  obtain ⟨st, e, h1, h2⟩ := forN_inv (f := fun x1 s => l_pool_b0 x1 s) (P := fun i (s : List Int) => s.length = i ∧ ∀ x ∈ s, 0 ≤ x) (xs := ns.take 63) (s := []) (k := 0) ⟨rfl, fun x h => by cases h⟩ (fun i x s hx ⟨hl, hp⟩ => by
    have hi := (List.getElem?_eq_some_iff.mp hx).1
    rw [List.length_take] at hi
    obtain ⟨v, e, hv⟩ := pool_step x s (by omega)
    refine ⟨_, e, by rw [List.length_append, List.length_singleton]; omega, fun y hy => ?_⟩
    rcases List.mem_append.mp hy with h | h
    · exact hp y h
    · rw [List.mem_singleton] at h; rw [h]; exact hv)
  rw [e]
  refine ⟨st, rfl, by rw [h1, List.length_take]; omega, h2⟩
theorem draw_ok {st : List Int} (h : StO st) {k : Nat} (hk : 1 ≤ k) (hk2 : k ≤ 1000) {x : Int} (hx : x = (k : Int)) : ∃ (d : Nat) (st' : List Int), m_l_draw st x = some ((d : Int), st') ∧ d < k ∧ StO st' := by
  subst hx
  unfold m_l_draw
  obtain ⟨s, e, hs, hc⟩ := whileN_inv (c := fun s => l_draw_c0 s) (f := fun s => l_draw_b0 s) (P := StO) (fun s => s.length) (fun s hs => by
    show l_draw_c0 s = _ ∨ _
    unfold l_draw_c0
    cases s with
    | nil => exact .inl rfl
    | cons x r =>
      rw [if_pos (decide_eq_true (by simp)), show atI (x :: r) (0 : Int) = some x from by rw [show (0 : Int) = ((0 : Nat) : Int) from rfl, Wk.atI_nat]; rfl, Option.bind_some]
      by_cases c : x = 0
      · rw [if_pos (decide_eq_true c)]
        exact .inr ⟨rfl, r, rfl, ⟨by have := hs.len; rw [List.length_cons] at this; omega, fun y hy => hs.pos y (List.mem_cons_of_mem _ hy)⟩, by simp⟩
      · rw [if_neg (by simpa using c)]; exact .inl rfl) 1000 st h (by have := h.len; omega)
  rw [e, Option.bind_some]
  cases s with
  | nil => exact ⟨0, [], rfl, by omega, hs⟩
  | cons y r =>
    have hy := hs.pos y (List.mem_cons_self ..)
    have a0 : atI (y :: r) (0 : Int) = some y := by rw [show (0 : Int) = ((0 : Nat) : Int) from rfl, Wk.atI_nat]; rfl
    have m0 := Int.emod_nonneg y (show (k : Int) ≠ 0 by omega)
    have m1 := Int.emod_lt_of_pos y (show (0 : Int) < k by omega)
    have s0 : setO (y :: r) (0 : Int) (y / (k : Int)) = some (y / (k : Int) :: r) := by
      unfold setO ixN
      rw [if_pos (by omega), if_pos (by rw [List.length_cons]; omega)]; rfl
    rw [if_neg (by simp), a0, Option.bind_some, ask_t (by omega), Option.bind_some, ask_t (sdiv_lt (by omega) (by omega)), s0, Option.bind_some]
    refine ⟨(y % (k : Int)).toNat, _, by congr 2; omega, by omega, by have := hs.len; rw [List.length_cons] at this ⊢; exact this, fun z hz => ?_⟩
    rcases List.mem_cons.mp hz with rfl | hz
    · exact Int.ediv_nonneg hy (by omega)
    · exact hs.pos z (List.mem_cons_of_mem _ hz)
theorem pickS_ok {st : List Int} (h : StO st) {L : List (List Nat)} (h1 : 1 ≤ L.length) (h2 : L.length ≤ 1000) : ∃ x st', m_l_pickS st L = some (x, st') ∧ x ∈ L ∧ StO st' := by
  unfold m_l_pickS
  obtain ⟨d, st', e, hd, hs⟩ := draw_ok h h1 h2 rfl
  rw [e, Option.bind_some]
  show ∃ x st', (atI L (d : Int)).bind _ = _ ∧ _
  rw [at_in hd, Option.bind_some]
  exact ⟨L[d], st', rfl, List.getElem_mem hd, hs⟩
theorem pickI_ok {st : List Int} (h : StO st) {L : List Int} (h1 : 1 ≤ L.length) (h2 : L.length ≤ 1000) : ∃ x st', m_l_pickI st L = some (x, st') ∧ x ∈ L ∧ StO st' := by
  unfold m_l_pickI
  obtain ⟨d, st', e, hd, hs⟩ := draw_ok h h1 h2 rfl
  rw [e, Option.bind_some]
  show ∃ x st', (atI L (d : Int)).bind _ = _ ∧ _
  rw [at_in hd, Option.bind_some]
  exact ⟨L[d], st', rfl, List.getElem_mem hd, hs⟩
/-! ### letters and texts -/
def LO (L : List (List Nat)) : Prop := ∀ x ∈ L, ∃ c, x = [c] ∧ 97 ≤ c ∧ c ≤ 122
def smallL : List Nat := [97, 98, 99, 100, 101, 102, 103, 104, 105, 106, 107, 108, 109, 110, 111, 112, 113, 114, 115, 116, 117, 118, 119, 120, 121, 122]
theorem small_ok : ∀ c ∈ smallL, 97 ≤ c ∧ c ≤ 122 := by decide
theorem fresh_ok {st : List Int} (h : StO st) (taken : List (List Nat)) : ∃ c st', m_l_fresh st smallL taken = some ([c], st') ∧ (97 ≤ c ∧ c ≤ 122) ∧ StO st' := by
  have hl : smallL.length = 26 := rfl
  have hL : smallL.length ≤ L24 := by decide
  unfold m_l_fresh
  rw [ask_t hL]
  obtain ⟨d, st', e, hd, hs⟩ := draw_ok h (k := 26) (by omega) (by omega) (x := (smallL.length : Int)) rfl
  rw [e, Option.bind_some, ask_t hL, ask_t (by decide), rng_nat (x := 0) (y := (smallL.length : Int)) (a := 0) (b := 26) rfl (by rw [hl]; omega), forR_map,
    forR_find (p := fun k => !taken.contains [smallL[(d + k) % 26]'(by rw [hl]; exact Nat.mod_lt _ (by omega))]) (g := fun k => ([smallL[(d + k) % 26]'(by rw [hl]; exact Nat.mod_lt _ (by omega))], st')) (fun k hk => by
      unfold l_fresh_b0
      rw [ask_t hL, ask_t (by decide), ask_t hL]
      show (atI smallL (((d : Int) + (k : Int)) % (smallL.length : Int))).bind _ = _
      rw [atI_int (i := (d + k) % 26) (by rw [hl]; omega), List.getElem?_eq_getElem (by rw [hl]; exact Nat.mod_lt _ (by omega)), Option.bind_some]
      split <;> rfl), Option.bind_some]
  cases (nrng 0 26).find? fun k => !taken.contains [smallL[(d + k) % 26]'(by rw [hl]; exact Nat.mod_lt _ (by omega))] with
  | none =>
    refine ⟨97, st', ?_, by omega, hs⟩
    dsimp only [Fl.fin]
    rw [ask_t hL]; rfl
  | some k => exact ⟨_, st', rfl, small_ok _ (List.getElem_mem _), hs⟩
theorem letters_draw {st : List Int} (h : StO st) {n : Nat} (hn : n ≤ 100) {x : Int} (hx : x = (n : Int)) : ∃ L st', m_l_letters st x = some (L, st') ∧ L.length = n ∧ LO L ∧ StO st' := by
  subst hx
  unfold m_l_letters
  rw [ask_t (rng1_ok (by omega) (by omega)), rng_nat (x := 0) (y := (n : Int)) (a := 0) (b := n) rfl (by omega), forN_map]
  obtain ⟨s, e, h1, h2, h3⟩ := forN_rng (f := fun (i : Nat) (s : List Int × List (List Nat)) => l_letters_b0 (i : Int) s.1 s.2) (P := fun i s => StO s.1 ∧ s.2.length = i ∧ LO s.2) (a := 0) (b := n) (s := (st, [])) (by omega) ⟨h, rfl, fun x h => by cases h⟩ (fun i s _ hi ⟨a1, a2, a3⟩ => by
    obtain ⟨c, st', e, hc, hs⟩ := fresh_ok a1 s.2
    refine ⟨(st', s.2 ++ [[c]]), ?_, hs, by rw [List.length_append, a2]; rfl, fun x hx => ?_⟩
    · show l_letters_b0 _ _ _ = _
      unfold l_letters_b0
      rw [show m_l_small = some smallL from rfl, Option.bind_some, e, Option.bind_some, ask_t (show s.2.length < 16777216 by omega)]
    · rcases List.mem_append.mp hx with q | q
      · exact a3 x q
      · rw [List.mem_singleton] at q; exact ⟨c, q, hc⟩)
  rw [e]
  exact ⟨s.2, s.1, rfl, h2, h3, h1⟩
theorem text_ok {st : List Int} (h : StO st) {L : List (List Nat)} (hL : LO L) (h1 : 1 ≤ L.length) (h2 : L.length ≤ 1000) {n : Nat} (hn : n ≤ 1000) {x : Int} (hx : x = (n : Int)) : ∃ t st', m_l_text st x L = some (t, st') ∧ t.length = n ∧ (∀ c ∈ t, [c] ∈ L) ∧ StO st' := by
  subst hx
  unfold m_l_text
  rw [ask_t (rng1_ok (by omega) (by omega)), rng_nat (x := 0) (y := (n : Int)) (a := 0) (b := n) rfl (by omega), forN_map]
  obtain ⟨s, e, a1, a2, a3⟩ := forN_rng (f := fun (i : Nat) (s : List Int × List Nat) => l_text_b0 L (i : Int) s.1 s.2) (P := fun i s => StO s.1 ∧ s.2.length = i ∧ ∀ c ∈ s.2, [c] ∈ L) (a := 0) (b := n) (s := (st, [])) (by omega) ⟨h, rfl, fun x h => by cases h⟩ (fun i s _ hi ⟨a1, a2, a3⟩ => by
    obtain ⟨x, st', e, hx, hs⟩ := pickS_ok a1 h1 h2
    obtain ⟨c, rfl, _⟩ := hL x hx
    refine ⟨(st', s.2 ++ [c]), ?_, hs, by rw [List.length_append, a2]; rfl, fun y hy => ?_⟩
    · show l_text_b0 _ _ _ _ = _
      unfold l_text_b0
      rw [e, Option.bind_some, ask_t (show s.2.length + [c].length ≤ 16777216 by rw [List.length_singleton]; omega)]
    · rcases List.mem_append.mp hy with q | q
      · exact a3 y q
      · rw [List.mem_singleton] at q; subst q; exact hx)
  rw [e]
  exact ⟨s.2, s.1, rfl, a2, a3, a1⟩
theorem rep_mem {l : List Nat} {n : Int} {c : Nat} (h : c ∈ repS l n) : c ∈ l := by
  unfold repS at h
  obtain ⟨x, hx, hc⟩ := List.mem_flatten.mp h
  rw [(List.mem_replicate.mp hx).2] at hc
  exact hc
theorem word_ok {st : List Int} (h : StO st) {L : List (List Nat)} (hL : LO L) (h1 : 1 ≤ L.length) (h2 : L.length ≤ 1000) {n : Nat} (hn : n ≤ 60) : ∃ w st', m_l_word st (n : Int) L = some (w, st') ∧ w.length = n ∧ (∀ c ∈ w, [c] ∈ L) ∧ StO st' := by
  unfold m_l_word
  obtain ⟨d1, s1, e1, hd1, hs1⟩ := draw_ok h (k := 5) (by omega) (by omega) (x := (5 : Int)) rfl
  rw [e1, Option.bind_some, ask_t (by decide)]
  obtain ⟨root, s2, e2, hr, hrc, hs2⟩ := text_ok hs1 hL h1 h2 (n := 1 + (2 + d1) % 5) (by omega) (x := (1 : Int) + (((2 : Int) + (d1 : Int)) % (5 : Int))) (by omega)
  show ∃ w st', Option.bind (m_l_text s1 ((1 : Int) + (((2 : Int) + (d1 : Int)) % (5 : Int))) L) _ = _ ∧ _
  rw [e2, Option.bind_some]
  have hm : (n : Int).toNat = n := by omega
  have hrl : (repS root (n : Int)).length = n * root.length := by unfold repS; rw [rep_len, hm]
  have hrl2 : n * root.length ≤ 60 * 5 := Nat.mul_le_mul hn (by omega)
  have hrl3 : n * 1 ≤ n * root.length := Nat.mul_le_mul_left n (by omega)
  show ∃ w st', Option.bind (ask (SRep root (n : Int))) _ = _ ∧ _
  rw [ask_t (show SRep root (n : Int) by unfold SRep; rw [hm, Nat.mul_comm]; omega)]
  show ∃ w st', Option.bind (ask ((repS root (n : Int)).length ≤ L24)) _ = _ ∧ _
  rw [ask_t (show _ ≤ 16777216 by rw [hrl]; omega)]
  obtain ⟨d3, s3, e3, hd3, hs3⟩ := draw_ok hs2 (k := 5) (by omega) (by omega) (x := (5 : Int)) rfl
  rw [show ((root, s2) : List Nat × List Int).2 = s2 from rfl, show ((root, s2) : List Nat × List Int).1 = root from rfl, e3, Option.bind_some, cutT_hi (b := n) rfl]
  have hb : ((repS root (n : Int)).take n).length = n := by rw [List.length_take, hrl]; omega
  have hbc : ∀ c ∈ (repS root (n : Int)).take n, [c] ∈ L := fun c hc => hrc c (rep_mem (List.mem_of_mem_take hc))
  generalize (repS root (n : Int)).take n = base at *
  show ∃ w st', (if (decide ((d3 : Int) = (1 : Int))) = true then _ else _) = _ ∧ _
  by_cases c1 : d3 = 1
  · rw [if_pos (decide_eq_true (by omega))]
    obtain ⟨t, s4, e4, a, b, c⟩ := text_ok hs3 hL h1 h2 (n := n) (by omega) rfl
    show ∃ w st', Option.bind (m_l_text s3 (n : Int) L) _ = _ ∧ _
    rw [e4]
    exact ⟨t, s4, rfl, a, b, c⟩
  · rw [if_neg (by simp; omega)]
    by_cases c2 : d3 = 2
    · rw [if_pos (decide_eq_true (by omega)), ask_t (sdiv_lt (by omega) (by decide))]
      obtain ⟨t, s4, e4, a, b, c⟩ := text_ok hs3 hL h1 h2 (n := (n + 1) / 2) (by omega) (x := ((n : Int) + 1) / 2) (by omega)
      show ∃ w st', Option.bind (m_l_text s3 (((n : Int) + 1) / 2) L) _ = _ ∧ _
      rw [e4, Option.bind_some, ask_t (show t.length ≤ 16777216 by omega), ask_t (sdiv_lt (by omega) (by decide)), cutT_hi (b := n / 2) (by omega)]
      have hl : (t.take (n / 2)).length = n / 2 := by rw [List.length_take]; omega
      show ∃ w st', Option.bind (ask ((t.take (n / 2)).length ≤ L24)) _ = _ ∧ _
      rw [ask_t (show (t.take (n / 2)).length ≤ 16777216 by omega), ask_t (show t.length + (t.take (n / 2)).reverse.length ≤ 16777216 by rw [List.length_reverse]; omega)]
      refine ⟨_, s4, rfl, by show (t ++ (t.take (n / 2)).reverse).length = n; rw [List.length_append, List.length_reverse, hl]; omega, fun y hy => ?_, c⟩
      rcases List.mem_append.mp hy with q | q
      · exact b y q
      · exact b y (List.mem_of_mem_take (List.mem_reverse.mp q))
    · rw [if_neg (by simp; omega)]
      by_cases c3 : d3 = 3 ∧ 0 < n
      · rw [if_pos (by rw [decide_eq_true (show (d3 : Int) = 3 by omega), decide_eq_true (show (n : Int) > 0 by omega)]; rfl)]
        obtain ⟨d6, s6, e6, hd6, hs6⟩ := draw_ok hs3 (k := n) (by omega) (by omega) (x := (n : Int)) rfl
        obtain ⟨x, s7, e7, hx, hs7⟩ := pickS_ok hs6 h1 h2
        obtain ⟨cx, rfl, _⟩ := hL x hx
        show ∃ w st', Option.bind (m_l_draw s3 (n : Int)) _ = _ ∧ _
        rw [e6, Option.bind_some, ask_t (show base.length ≤ 16777216 by omega)]
        show ∃ w st', Option.bind (m_l_pickS s6 L) _ = _ ∧ _
        rw [e7, Option.bind_some, cutT_hi (b := d6) rfl, cutT_lo (a := d6 + 1) (by show (d6 : Int) + 1 = _; omega)]
        have hl1 : (base.take d6).length = d6 := by rw [List.length_take]; omega
        have hl2 : (base.drop (d6 + 1)).length = n - (d6 + 1) := by rw [List.length_drop]; omega
        show ∃ w st', Option.bind (ask ((base.take d6).length + [cx].length ≤ L24)) _ = _ ∧ _
        rw [ask_t (show (base.take d6).length + [cx].length ≤ 16777216 by rw [hl1, List.length_singleton]; omega), ask_t (show base.length ≤ 16777216 by omega)]
        show ∃ w st', Option.bind (ask ((base.take d6 ++ [cx]).length + (base.drop (d6 + 1)).length ≤ L24)) _ = _ ∧ _
        rw [ask_t (show (base.take d6 ++ [cx]).length + (base.drop (d6 + 1)).length ≤ 16777216 by rw [List.length_append, hl1, hl2, List.length_singleton]; omega)]
        refine ⟨_, s7, rfl, ?_, fun y hy => ?_, hs7⟩
        · show (base.take d6 ++ [cx] ++ base.drop (d6 + 1)).length = n
          rw [List.length_append, List.length_append, hl1, hl2, List.length_singleton]; omega
        · rcases List.mem_append.mp hy with q | q
          · rcases List.mem_append.mp q with q | q
            · exact hbc y (List.mem_of_mem_take q)
            · rw [List.mem_singleton.mp q]; exact hx
          · exact hbc y (List.mem_of_mem_drop q)
      · rw [if_neg (by rw [Bool.and_eq_true, decide_eq_true_eq, decide_eq_true_eq]; omega)]
        by_cases c4 : d3 = 4
        · rw [if_pos (decide_eq_true (by omega))]
          obtain ⟨d8, s8, e8, hd8, hs8⟩ := draw_ok hs3 (k := n + 1) (by omega) (by omega) (x := (n : Int) + 1) (by omega)
          obtain ⟨t, s9, e9, a, b, c⟩ := text_ok hs8 hL h1 h2 (n := n - d8) (by omega) (x := (n : Int) - (d8 : Int)) (by omega)
          show ∃ w st', Option.bind (m_l_draw s3 ((n : Int) + 1)) _ = _ ∧ _
          rw [e8, Option.bind_some, ask_t (show base.length ≤ 16777216 by omega)]
          show ∃ w st', Option.bind (m_l_text s8 ((n : Int) - (d8 : Int)) L) _ = _ ∧ _
          rw [e9, Option.bind_some, cutT_hi (b := d8) rfl]
          have hl1 : (base.take d8).length = d8 := by rw [List.length_take]; omega
          show ∃ w st', Option.bind (ask ((base.take d8).length + t.length ≤ L24)) _ = _ ∧ _
          rw [ask_t (show (base.take d8).length + t.length ≤ 16777216 by omega)]
          refine ⟨_, s9, rfl, by show (base.take d8 ++ t).length = n; rw [List.length_append, hl1]; omega, fun y hy => ?_, c⟩
          rcases List.mem_append.mp hy with q | q
          · exact hbc y (List.mem_of_mem_take q)
          · exact b y q
        · rw [if_neg (by simp; omega)]
          exact ⟨base, s3, rfl, hb, hbc, hs3⟩
end K79
/-! k79, plain part 10: the word read backward; the law -/
namespace K79
open PySem L2 Wk
theorem rev_get {w : List Nat} {i : Nat} (h : i < w.length) : w.reverse[i]? = w[w.length - 1 - i]? := by rw [List.getElem?_reverse h]
theorem per_rev {w : List Nat} {s e k : Nat} (he : e ≤ w.length) (h : Per w s e k) : Per w.reverse (w.length - e) (w.length - s) k := by
  intro j h1 h2
  rw [rev_get (by omega), rev_get (by omega)]
  have := h (w.length - 1 - (j + k)) (by omega) (by omega)
  rw [this]; congr 1; omega
theorem run_rev {w : List Nat} {s e k : Nat} (r : Run w s e k) : Run w.reverse (w.length - e) (w.length - s) k := by
  have h1 := r.he
  have h2 := r.len
  have h3 := r.least.pos
  refine ⟨by rw [List.length_reverse]; omega, ⟨h3, per_rev h1 r.least.per, fun q q1 q2 hq => ?_⟩, by omega, fun h => ?_, fun h => ?_⟩
  · have := per_rev (w := w.reverse) (by rw [List.length_reverse]; omega) hq
    rw [List.reverse_reverse, List.length_reverse, show w.length - (w.length - s) = s by omega, show w.length - (w.length - e) = e by omega] at this
    exact r.least.min q q1 q2 this
  · rw [List.length_reverse] at h
    rw [rev_get (by omega), rev_get (by omega)]
    have := r.left (by omega)
    rw [show w.length - 1 - (w.length - s) = s - 1 by omega, show w.length - 1 - (w.length - s - k) = s - 1 + k by omega]
    exact this
  · rw [rev_get (by omega), rev_get (by omega)]
    have := r.right (by omega)
    rw [show w.length - 1 - (w.length - e - 1) = e by omega, show w.length - 1 - (w.length - e - 1 + k) = e - k by omega]
    exact this
def backOf (n : Nat) (x : Int × Int × Int) : Int × Int × Int := ((n : Int) - x.2.1, (n : Int) - x.1, x.2.2)
theorem back_tri {n s e k : Nat} (h : s ≤ n) (h2 : e ≤ n) : backOf n (tri s e k) = tri (n - e) (n - s) k := by
  unfold backOf tri
  show ((n : Int) - (e : Int), (n : Int) - (s : Int), (k : Int)) = _
  congr 1
  · omega
  · congr 1; omega
theorem back_sort {w : List Nat} : sortT codeT ((runsL w).map (backOf w.length)) = runsL w.reverse := by
  refine sortT_of ?_ (runsL_pw _) fun x => ?_
  · refine List.Pairwise.map _ (fun a b h z => ?_) (runsL_nodup w)
    unfold backOf at z
    simp only [Prod.mk.injEq] at z
    exact h (Prod.ext (by omega) (Prod.ext (by omega) z.2.2))
  · rw [List.mem_map, mem_runsL]
    constructor
    · rintro ⟨y, hy, rfl⟩
      obtain ⟨s, e, k, rfl, r⟩ := mem_runsL.mp hy
      have h1 := r.he
      have h2 := r.len
      exact ⟨_, _, k, back_tri (by omega) (by omega), run_rev r⟩
    · rintro ⟨s, e, k, rfl, r⟩
      have h1 := r.he
      have h2 := r.len
      have h3 := run_rev r
      rw [List.reverse_reverse, List.length_reverse] at h3
      rw [List.length_reverse] at h1
      refine ⟨tri (w.length - e) (w.length - s) k, mem_runsL.mpr ⟨_, _, k, rfl, h3⟩, ?_⟩
      rw [back_tri (by omega) (by omega)]
      congr 1 <;> omega
/-! ### the tables -/
theorem dGet_put {κ β : Type} [DecidableEq κ] (m : List (κ × β)) (k : κ) (v : β) (x : κ) : dGet (dPut m k v) x = if x = k then some v else dGet m x := by
  have h1 : ∀ (m : List (κ × β)), (m.any fun q => decide (q.1 = k)) = true → dGet (m.map fun q => if q.1 = k then (q.1, v) else q) x = if x = k then some v else dGet m x := by
    intro m
    induction m with
    | nil => intro h; cases h
    | cons q m ih =>
      intro h
      unfold dGet at ih ⊢
      rw [List.map_cons, List.find?_cons, List.find?_cons]
      by_cases c : q.1 = k
      · rw [if_pos c]
        by_cases d : x = k
        · rw [decide_eq_true (show (q.1, v).1 = x by show q.1 = x; rw [c, d]), if_pos d]; rfl
        · rw [decide_eq_false (show ¬ (q.1, v).1 = x from fun z => d (by rw [← z]; exact c)), if_neg d]
          by_cases e : (m.any fun q => decide (q.1 = k)) = true
          · have := ih e
            rw [if_neg d] at this
            exact this
          · have e2 : m.map (fun q => if q.1 = k then (q.1, v) else q) = m := by
              have : ∀ y ∈ m, (fun q : κ × β => if q.1 = k then (q.1, v) else q) y = y := fun y hy => if_neg fun z => e (List.any_eq_true.mpr ⟨y, hy, decide_eq_true z⟩)
              rw [List.map_congr_left this, List.map_id']
            rw [e2]
      · rw [if_neg c]
        rw [List.any_cons, decide_eq_false c, Bool.false_or] at h
        by_cases d : q.1 = x
        · rw [decide_eq_true d, if_neg (fun z => c (by rw [d, z]))]
        · rw [decide_eq_false d]
          exact ih h
  unfold dPut
  by_cases h : (m.any fun q => decide (q.1 = k)) = true
  · rw [if_pos h]; exact h1 m h
  · rw [if_neg h]
    unfold dGet
    rw [List.find?_append]
    by_cases d : x = k
    · have : m.find? (fun q => decide (q.1 = x)) = none := List.find?_eq_none.mpr fun y hy z => h (List.any_eq_true.mpr ⟨y, hy, by rw [← d]; exact z⟩)
      rw [this, if_pos d, List.find?_cons, decide_eq_true (show (k, v).1 = x from d.symm)]; rfl
    · rw [if_neg d, List.find?_cons, decide_eq_false (show ¬ (k, v).1 = x from fun z => d z.symm)]
      cases m.find? (fun q => decide (q.1 = x)) <;> rfl
theorem dPut_len {κ β : Type} [DecidableEq κ] (m : List (κ × β)) (k : κ) (v : β) : (dPut m k v).length ≤ m.length + 1 := by
  unfold dPut; split <;> simp
structure TabK (L : List (List Nat)) (D : List (List Nat × List Nat)) (k : Nat) : Prop where
  len : D.length ≤ k
  get : ∀ i, i < k → ∀ x, L[i]? = some x → ∃ c, dGet D x = some [c] ∧ 97 ≤ c ∧ c ≤ 122
theorem TabK.put {L : List (List Nat)} {D : List (List Nat × List Nat)} {k : Nat} (h : TabK L D k) {x : List Nat} (hx : L[k]? = some x) {c : Nat} (hc : 97 ≤ c ∧ c ≤ 122) : TabK L (dPut D x [c]) (k + 1) := by
  refine ⟨by have := dPut_len D x [c]; have := h.len; omega, fun i hi y hy => ?_⟩
  rw [dGet_put]
  by_cases q : y = x
  · rw [if_pos q]; exact ⟨c, rfl, hc⟩
  · rw [if_neg q]
    refine h.get i ?_ y hy
    by_cases z : i = k
    · subst z; rw [hx] at hy; exact absurd (Option.some.inj hy).symm q
    · omega
theorem TabK.tab {L : List (List Nat)} {D : List (List Nat × List Nat)} (h : TabK L D L.length) {w : List Nat} (hw : ∀ c ∈ w, [c] ∈ L) : ∃ t, Tab D w t := by
  refine ⟨fun c => ((dGet D [c]).getD [97]).headD 97, fun c hc => ?_, fun c hc => ?_⟩
  · obtain ⟨i, hi, e⟩ := List.mem_iff_getElem.mp (hw c hc)
    obtain ⟨d, hd, _⟩ := h.get i hi [c] (by rw [List.getElem?_eq_getElem hi, e])
    rw [hd]; rfl
  · obtain ⟨i, hi, e⟩ := List.mem_iff_getElem.mp (hw c hc)
    obtain ⟨d, hd, h2⟩ := h.get i hi [c] (by rw [List.getElem?_eq_getElem hi, e])
    rw [hd]; exact h2
theorem pure (ns : List Int) (h : ns.length ≤ 63) : m_law ns = some true := by
  obtain ⟨st, e1, hs⟩ := pool_ok ns
  obtain ⟨v, s2, e2, hv, hs2⟩ := pickI_ok hs (L := [(9 : Int), (7 : Int), (12 : Int), (14 : Int), (5 : Int), (10 : Int), (3 : Int), (60 : Int)]) (by decide) (by decide)
  have first : ∃ (size : Nat) (s4 : List Int), size ≤ 60 ∧ StO s4 ∧ ∀ {β : Type} (k : List Int × Int → Option β), ((if (decide (v = (3 : Int))) = true then ((m_l_draw s2 (5 : Int)).bind fun r_3 => some (r_3.2, r_3.1)) else (some (s2, v))).bind fun j_1 => (if (decide (j_1.2 = (60 : Int))) = true then ((m_l_draw j_1.1 (40 : Int)).bind fun r_4 => some (r_4.2, ((60 : Int) - r_4.1))) else (some (j_1.1, j_1.2))).bind k) = k (s4, (size : Int)) := by
    by_cases c3 : v = 3
    · obtain ⟨d, s3, e3, hd, hs3⟩ := draw_ok hs2 (k := 5) (by omega) (by omega) (x := (5 : Int)) rfl
      refine ⟨d, s3, by omega, hs3, fun k => ?_⟩
      rw [if_pos (decide_eq_true c3), e3, Option.bind_some, Option.bind_some, if_neg (by simp; omega), Option.bind_some]
    · by_cases c60 : v = 60
      · obtain ⟨d, s3, e3, hd, hs3⟩ := draw_ok hs2 (k := 40) (by omega) (by omega) (x := (40 : Int)) rfl
        refine ⟨60 - d, s3, by omega, hs3, fun k => ?_⟩
        rw [if_neg (by simpa using c3), Option.bind_some, if_pos (decide_eq_true c60), e3, Option.bind_some, Option.bind_some]
        congr 2
        show (60 : Int) - (d : Int) = _
        omega
      · refine ⟨v.toNat, s2, ?_, hs2, fun k => ?_⟩
        · simp only [List.mem_cons, List.not_mem_nil, or_false] at hv
          omega
        · rw [if_neg (by simpa using c3), Option.bind_some, if_neg (by simpa using c60), Option.bind_some]
          congr 2
          simp only [List.mem_cons, List.not_mem_nil, or_false] at hv
          omega
  obtain ⟨size, s4, hsz, hs4, e4⟩ := first
  obtain ⟨d5, s5, e5, hd5, hs5⟩ := draw_ok hs4 (k := 4) (by omega) (by omega) (x := (4 : Int)) rfl
  obtain ⟨L, s6, e6, hLl, hLO, hs6⟩ := letters_draw hs5 (n := 1 + (2 + d5) % 4) (by omega) (x := (1 : Int) + (((2 : Int) + (d5 : Int)) % (4 : Int))) (by omega)
  obtain ⟨w, s7, e7, hwl, hwc, hs7⟩ := word_ok hs6 hLO (by omega) (by omega) (n := size) hsz
  have hw : Wd w := ⟨by omega, fun c hc => by obtain ⟨d, e, h⟩ := hLO _ (hwc c hc); simp at e; subst e; exact h⟩
  have hwr : Wd w.reverse := ⟨by rw [List.length_reverse]; omega, fun c hc => hw.low c (List.mem_reverse.mp hc)⟩
  have hrl := runsL_len60 hw.len
  have hrl2 := runsL_len60 hwr.len
  obtain ⟨so, s12, e12, hso, hsO, hs12⟩ := letters_draw hs7 (n := 3) (by omega) (x := (3 : Int)) rfl
  obtain ⟨ot, s13, e13, hot, hoO, hs13⟩ := letters_draw hs12 (n := 4) (by omega) (x := (4 : Int)) rfl
  unfold m_law
  rw [e1, Option.bind_some, e2, Option.bind_some]
  show Option.bind (if (decide (v = (3 : Int))) = true then _ else _) _ = _
  rw [e4]
  show Option.bind (m_l_draw s4 (4 : Int)) _ = _
  rw [e5, Option.bind_some, ask_t (by decide)]
  show Option.bind (m_l_letters s5 ((1 : Int) + (((2 : Int) + (d5 : Int)) % (4 : Int)))) _ = _
  rw [e6, Option.bind_some]
  show Option.bind (m_l_word s6 (size : Int) L) _ = _
  rw [e7, Option.bind_some]
  show Option.bind (m_l_known w) _ = _
  rw [known_eq hw, Option.bind_some]
  show Option.bind (forN _ (runsL w) []) _ = _
  rw [forN_flat (g := fun x => [backOf w.length x]) (c := 1) (N := L24) (fun x _ => by simp) (fun x _ s hf => by
    unfold law_b0 backOf
    rw [ask_t (show s.length < 16777216 by have : s.length + 1 ≤ 16777216 := hf; omega), hwl]) (by show 0 + _ ≤ 16777216; omega), Option.bind_some, List.nil_append, flat_one,
    ask_t (show w.length ≤ 16777216 by omega)]
  show Option.bind (m_runs w.reverse) _ = _
  rw [runs_eq hwr, Option.bind_some, back_sort, rowsT_ok (by omega), Option.bind_some, if_pos rfl]
  show Option.bind (m_l_letters s7 (3 : Int)) _ = _
  rw [e12, Option.bind_some]
  show Option.bind (m_l_letters s12 (4 : Int)) _ = _
  rw [e13, Option.bind_some]
  show Option.bind (ask (Rng1 (L.length : Int))) _ = _
  rw [ask_t (rng1_ok (by omega) (by omega)), show rng 0 (((L, s6) : List (List Nat) × List Int).1.length : Int) = (nrng 0 L.length).map (fun (i : Nat) => (i : Int)) from rng_nat (x := 0) (y := (L.length : Int)) (a := 0) (b := L.length) rfl (by omega), forN_map]
  obtain ⟨s, es, hT⟩ := forN_rng (f := fun (k : Nat) (s : List Int × List (List Nat × List Nat) × List (List Nat × List Nat) × List (List Nat × List Nat)) => law_b1 (so, s12) (L, s6) (ot, s13) (k : Int) s.1 s.2.1 s.2.2.1 s.2.2.2)
    (P := fun k s => StO s.1 ∧ TabK L s.2.1 k ∧ TabK L s.2.2.1 k ∧ TabK L s.2.2.2 k) (a := 0) (b := L.length) (s := (s13, [], [], [])) (by omega)
    ⟨hs13, ⟨Nat.le_refl _, fun i hi => by omega⟩, ⟨Nat.le_refl _, fun i hi => by omega⟩, ⟨Nat.le_refl _, fun i hi => by omega⟩⟩
    (fun k s _ hk ⟨a1, a2, a3, a4⟩ => by
      obtain ⟨x, st', ex, hx, hst⟩ := pickS_ok a1 (L := so) (by omega) (by omega)
      obtain ⟨cx, rfl, hcx⟩ := hsO x hx
      obtain ⟨c0, hc0, hc0'⟩ := hsO (so[0]'(by omega)) (List.getElem_mem _)
      obtain ⟨ck, hck, hck'⟩ := hoO (ot[k]'(by omega)) (List.getElem_mem _)
      have hLk : L[k]? = some L[k] := List.getElem?_eq_getElem hk
      refine ⟨(st', dPut s.2.1 L[k] [cx], dPut s.2.2.1 L[k] [c0], dPut s.2.2.2 L[k] [ck]), ?_, hst, a2.put hLk hcx, a3.put hLk hc0', a4.put hLk hck'⟩
      show law_b1 _ _ _ _ _ _ _ _ = _
      unfold law_b1
      have g1 : atI L (k : Int) = some L[k] := at_in hk
      have g2 : atI so (0 : Int) = some [c0] := by rw [← hc0]; exact at_in (i := 0) (by omega)
      have g3 : atI ot (k : Int) = some [ck] := by rw [← hck]; exact at_in (by omega)
      have l1 := a2.len
      have l2 := a3.len
      have l3 := a4.len
      show Option.bind (m_l_pickS s.1 so) _ = _
      rw [ex, Option.bind_some]
      show Option.bind (atI L (k : Int)) _ = _
      rw [g1, Option.bind_some, ask_t (show s.2.1.length < 16777216 by omega)]
      show Option.bind (atI so (0 : Int)) _ = _
      rw [g2, Option.bind_some, Option.bind_some, ask_t (show s.2.2.1.length < 16777216 by omega)]
      show Option.bind (atI ot (k : Int)) _ = _
      rw [g3, Option.bind_some, Option.bind_some, ask_t (show s.2.2.2.length < 16777216 by omega)])
  show Option.bind (forN (fun (k : Nat) (s : List Int × List (List Nat × List Nat) × List (List Nat × List Nat) × List (List Nat × List Nat)) => law_b1 (so, s12) (L, s6) (ot, s13) (k : Int) s.1 s.2.1 s.2.2.1 s.2.2.2) (nrng 0 L.length) (s13, [], [], [])) _ = _
  rw [es, Option.bind_some, forR_all (fun D hD => by
    have hT' : TabK L D L.length := by
      simp only [List.mem_cons, List.not_mem_nil, or_false] at hD
      rcases hD with rfl | rfl | rfl
      · exact hT.2.1
      · exact hT.2.2.1
      · exact hT.2.2.2
    obtain ⟨t, ht⟩ := hT'.tab hwc
    unfold law_b2
    show Option.bind (m_l_right w D (runsL w, squaresL w, runsL w)) _ = _
    rw [right_eq ht hw]; rfl)]
  rfl
end K79
/-! the end: the statement holds -/
namespace K79
open PySem PySem.Spec PyProof.Rows L2 Wk
theorem facts {P : Program} {w : World} {K : PySem.W.Frag} {h : Heap} {mg : Str → Option Value} {f : Addr} (X : K.In h) (G : h.Ns mainGlobals mg) (hfa : mg ("law" : Str) = some (.ref f)) (c : SaysM fa fn hd ex K) :
    ∃ fd : FuncData, (∀ (s : Shared) (v : Value), BindsTo s fd ⟨[v], []⟩ [("script", v)]) ∧ ∀ base : Heap, K.In base → base.Ns mainGlobals mg → FnOk P w K mg base CX0 9 f fd ["script"] (sp_law K) := by
  have E : Tx K mg := ⟨⟨h, X, G⟩, c⟩
  obtain ⟨fd, F⟩ := E.def_ 45 (d := d_law) rfl
  have e := hfa.symm.trans (E.glo 40)
  cases e
  have b := FunD.bindsA (ps := ["script"]) F fun _ _ _ _ _ _ us hl => match us, hl with | [_], _ => rfl
  refine ⟨fd, fun s v => b s [v] rfl, fun base _ _ => ?_⟩
  obtain ⟨fd2, G2, _, _, m2⟩ := ok_law (P := P) (w := w) (base := base) E
  exact ok_law_at E F
end K79
open PySem PySem.W PySem.Calls PyProof.Rows L2 Wk
theorem PySem.Challenge.cw_wordruns_k79_whole_led_words_and_runs_holds : PySem.Challenge.rw_wordruns_k79_whole_led_words_and_runs.Holds := by
  w_on; o_law
  refine HandSHeadRun.head_any (r := OpenLaw.row PySem.Challenge.rw_wordruns_k79_whole_led_words_and_runs) (q := view (OpenLaw.row PySem.Challenge.rw_wordruns_k79_whole_led_words_and_runs).prog [55]) (H := K79.hk) (ob := K79.ob) (M := 4000) (loose := K79.loose) (d := HandSHeadRun.topDef (OpenLaw.row PySem.Challenge.rw_wordruns_k79_whole_led_words_and_runs).prog 55) (kwd := []) K79.ob_eq
    (by kernel_rfl) (fun s => by kernel_rfl) K79.run (by kernel_rfl) (by kernel_rfl) (by kernel_rfl) (by rfl) (by first | assumption | decide +kernel) (by decide +kernel) ⟨rfl, rfl, rfl, rfl, rfl, by decide +kernel⟩ ?hw ?hc
  case hw => w_witness2
  case hc =>
    refine L2.walk_ofE (l := PySem.Challenge.rw_wordruns_k79_whole_led_words_and_runs) (n := 63) (k := 9) (x := "script") (CX := L2.CX0) rfl (by decide) (by kernel_rfl) ⟨rfl, by decide, by decide⟩ ?F (fun _ _ _ _ z => z)
    intro w mg fa h Y G hmg0
    obtain ⟨K, KX, c⟩ := Y
    have hmg : mg ("law" : PySem.Str) = some (.ref fa) := by
      have e : (HandSHeadRun.topDef (OpenLaw.row PySem.Challenge.rw_wordruns_k79_whole_led_words_and_runs).prog 55).name = ("law" : PySem.Str) := by kernel_rfl
      rw [← e]
      exact hmg0
    obtain ⟨fd, hb, hF⟩ := K79.facts (P := (PySem.Challenge.rw_wordruns_k79_whole_led_words_and_runs).prog) (w := w) KX G hmg c
    exact ⟨K, fd, K79.sp_law K, KX, hb, fun H a ns hl _ hS => ⟨H, .ref a, ns, true, Ex.refl H, rfl, ⟨a, rfl, hS⟩, K79.pure ns hl, fun v _ _ _ hv => hv⟩, hF⟩
