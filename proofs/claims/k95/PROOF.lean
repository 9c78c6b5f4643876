import PyProof.Rows.All
import Wide.All
import OpenK.AllK
import Wide.FinOn
import HandS.ForMost
import HandS.Walk
import HandS.Style
import HandS.FStr
import HandS.IsInst
import HandS.ForExc
import HandS.CallSlots
import KE.KStateDown
import Lean
import HandS.HeadEnd
import HandS.HeadHook1
import HandS.HeadHook2
import HandS.HeadHook3
import HandS.HeadHook4
import HandS.ExcInit
import HandS.ExcField
import HandS.ClsMeth
import HandS.Head0
import HandS.Head1
import HandS.Head2
import HandS.Defaults
import HandS.SuiteRaise
import HandS.RaiseFrom
import HandS.ExcInitHot
import HandS.TryOnly
import KE.KAsSuite
import HandS.ReplaceLit
import HandS.ReplaceList
import KE.GoesZip
import KE.GoesRev
import HandS.Iter
import HandS.Zip
import PySem.Challenge.RW_beadframe_k95_slips_at_the_desk
set_option Elab.async false
set_option linter.all false
set_option maxRecDepth 100000
set_option maxHeartbeats 0
/-! The known part G of the heap H, steps that keep both, data as it stands in G. -/
namespace BF
open PySem PySem.Spec PyProof.Rows L2

/-- from (G, H) to (G', H'): all that was known and tracked stands; what is newly known was not tracked before -/
structure Stp (G H G' H' : Hp) : Prop where
  g : Same G G'
  h : Same H H'
  k : Same G' H'
  n : ∀ b, G b = none → G' b ≠ none → H b = none

section
variable {G H G' H' G'' H'' G0 H0 : Hp} {p q D a b : Addr} {o : HO} {xs : List V} {y : V}
theorem Stp.refl (k : Same G H) : Stp G H G H := ⟨Same.refl _, Same.refl _, k, fun b h1 h2 => absurd h1 h2⟩
theorem Stp.trans (a : Stp G H G' H') (c : Stp G' H' G'' H'') : Stp G H G'' H'' :=
  ⟨a.g.trans c.g, a.h.trans c.h, c.k, fun b h1 h2 => by
    cases e : G' b with
    | none => exact a.h.free (c.n b e h2)
    | some o => exact a.n b h1 (by rw [e]; simp)⟩
theorem none_in (k : Same G H) (hp : H p = none) : G p = none := k.free hp
theorem same_upd2 (k : Same G H) (hp : H p = none) : Same (upd G p o) (upd H p o) := fun b u e => by
  by_cases hb : b = p
  · subst hb; rw [upd_same] at e ⊢; exact e
  · rw [upd_ne hb] at e ⊢; exact k b u e
theorem same_new (hp : G p = none) : Same G (upd G p o) := fun b u e => by
  rw [upd_ne (ne_of_none e hp)]; exact e
/-- a new thing, known from now on -/
theorem Stp.new (k : Same G H) (hp : H p = none) : Stp G H (upd G p o) (upd H p o) :=
  ⟨same_new (k.free hp), same_new hp, same_upd2 k hp, fun b h1 h2 => by
    by_cases hb : b = p
    · subst hb; exact hp
    · rw [upd_ne hb] at h2; exact absurd h1 h2⟩
/-- a new thing that is not to be known -/
theorem Stp.hid (k : Same G H) (hp : H p = none) : Stp G H G (upd H p o) :=
  ⟨Same.refl _, same_new hp, k.trans (same_new hp), fun b h1 h2 => absurd h1 h2⟩
theorem alloc {Q : VK} (k : Same G H) (c : ∀ p G' H', Stp G H G' H' → G' p = some o → H p = none → Q (.ref p) H') : ∀ p, H p = none → Q (.ref p) (upd H p o) :=
  fun p hp => c p _ _ (Stp.new k hp) upd_same hp

/-- a list at D that is being filled: not known yet -/
structure Acc (G0 H0 : Hp) (D : Addr) (xs : List V) (G H : Hp) : Prop where
  g : Same G0 G
  h : Same H0 H
  k : Same G H
  n : ∀ b, G0 b = none → G b ≠ none → H0 b = none
  gd : G D = none
  hd : H0 D = none
  at_ : H D = some (.lst xs)
theorem Acc.start (k : Same G H) (hd : H D = none) : Acc G H D [] G (upd H D (.lst [])) :=
  ⟨Same.refl _, same_new hd, k.trans (same_new hd), fun b h1 h2 => absurd h1 h2, k.free hd, hd, upd_same⟩
theorem Acc.step (a : Acc G0 H0 D xs G H) (s : Stp G H G' H') : Acc G0 H0 D xs G' H' := by
  refine ⟨a.g.trans s.g, a.h.trans s.h, s.k, fun b h1 h2 => ?_, ?_, a.hd, s.h _ _ a.at_⟩
  · cases e : G b with
    | none => exact a.h.free (s.n b e h2)
    | some o => exact a.n b h1 (by rw [e]; simp)
  · cases e : G' D with
    | none => rfl
    | some o =>
      have := s.n D a.gd (by rw [e]; simp)
      rw [a.at_] at this
      cases this
theorem Acc.push (a : Acc G0 H0 D xs G H) : Acc G0 H0 D (xs ++ [y]) G (upd H D (.lst (xs ++ [y]))) :=
  ⟨a.g, fun b o e => by rw [upd_ne (ne_of_none e a.hd)]; exact a.h b o e, fun b o e => by rw [upd_ne (ne_of_none e a.gd)]; exact a.k b o e, a.n, a.gd, a.hd, upd_same⟩
/-- it is filled: now it is known -/
theorem Acc.done (a : Acc G0 H0 D xs G H) : Stp G0 H0 (upd G D (.lst xs)) H :=
  ⟨a.g.trans (same_new a.gd), a.h, fun b o e => by
    by_cases hb : b = D
    · subst hb; rw [upd_same] at e; cases e; exact a.at_
    · rw [upd_ne hb] at e; exact a.k b o e,
    fun b h1 h2 => by
      by_cases hb : b = D
      · subst hb; exact a.hd
      · rw [upd_ne hb] at h2; exact a.n b h1 h2⟩
end

/-! ### data in the known part -/
class Mono {α : Type} (R : Hp → V → α → Prop) : Prop where
  up : ∀ {G G' v a}, Same G G' → R G v a → R G' v a
section
variable {α β : Type} {R : Hp → V → α → Prop} {G G' H H' : Hp} {v : V} {a : α}
theorem up [Mono R] (r : R G v a) (s : Same G G') : R G' v a := Mono.up s r
/-- a list -/
def RLst (R : Hp → V → α → Prop) (G : Hp) (v : V) (l : List α) : Prop := ∃ p xs, v = .ref p ∧ G p = some (.lst xs) ∧ Paired (R G) xs l
/-- a tuple of flat values -/
def RFl (f : α → List V) (G : Hp) (v : V) (a : α) : Prop := ∃ p, v = .ref p ∧ G p = some (.tup (f a))
/-- a flat value -/
def RV (f : α → V) (_ : Hp) (v : V) (a : α) : Prop := v = f a
def ROpt (R : Hp → V → α → Prop) (G : Hp) (v : V) (o : Option α) : Prop := match o with
  | none => v = .non
  | some a => R G v a
theorem paired_up [Mono R] (s : Same G G') : ∀ {xs : List V} {l : List α}, Paired (R G) xs l → Paired (R G') xs l
  | _, _, .nil => .nil
  | _, _, .cons h t => .cons (up h s) (paired_up s t)
instance [Mono R] : Mono (RLst R) := ⟨fun s ⟨p, xs, e, h, r⟩ => ⟨p, xs, e, s _ _ h, paired_up s r⟩⟩
instance {f : α → List V} : Mono (RFl f) := ⟨fun s ⟨p, e, h⟩ => ⟨p, e, s _ _ h⟩⟩
instance {f : α → V} : Mono (RV f) := ⟨fun _ h => h⟩
instance [Mono R] : Mono (ROpt R) := ⟨fun {G G' v a} s h => by
  cases a with
  | none => exact h
  | some a => exact up (R := R) h s⟩
theorem paired_len {F : V → α → Prop} : ∀ {xs : List V} {l : List α}, Paired F xs l → xs.length = l.length
  | _, _, .nil => rfl
  | _, _, .cons _ t => by rw [List.length_cons, List.length_cons, paired_len t]
theorem paired_get {F : V → α → Prop} : ∀ {xs : List V} {l : List α} {i : Nat} {x : V}, Paired F xs l → xs[i]? = some x → ∃ a, l[i]? = some a ∧ F x a
  | _, _, _, _, .nil, e => by simp at e
  | _, _, 0, _, .cons h _, e => by simp at e; subst e; exact ⟨_, rfl, h⟩
  | _, _, i + 1, x, .cons _ t, e => by
    obtain ⟨a, h1, h2⟩ := paired_get (i := i) (x := x) t (by simpa using e)
    exact ⟨a, by simpa using h1, h2⟩
theorem paired_at {F : V → α → Prop} : ∀ {xs : List V} {l : List α} {i : Nat} {a : α}, Paired F xs l → l[i]? = some a → ∃ x, xs[i]? = some x ∧ F x a
  | _, _, _, _, .nil, e => by simp at e
  | _, _, 0, _, .cons h _, e => by simp at e; subst e; exact ⟨_, rfl, h⟩
  | _, _, i + 1, a, .cons _ t, e => by
    obtain ⟨x, h1, h2⟩ := paired_at (i := i) (a := a) t (by simpa using e)
    exact ⟨x, by simpa using h1, h2⟩
theorem paired_app {F : V → α → Prop} : ∀ {xs ys : List V} {l m : List α}, Paired F xs l → Paired F ys m → Paired F (xs ++ ys) (l ++ m)
  | _, _, _, _, .nil, s => s
  | _, _, _, _, .cons h t, s => .cons h (paired_app t s)
theorem paired_take {F : V → α → Prop} (n : Nat) : ∀ {xs : List V} {l : List α}, Paired F xs l → Paired F (xs.take n) (l.take n) := fun {xs l} h => by
  induction h generalizing n with
  | nil => simpa using .nil
  | cons h t ih =>
    cases n with
    | zero => exact .nil
    | succ n => exact .cons h (ih n)
theorem paired_drop {F : V → α → Prop} (n : Nat) : ∀ {xs : List V} {l : List α}, Paired F xs l → Paired F (xs.drop n) (l.drop n) := fun {xs l} h => by
  induction h generalizing n with
  | nil => simpa using .nil
  | cons h t ih =>
    cases n with
    | zero => exact .cons h t
    | succ n => exact ih n
theorem paired_rev {F : V → α → Prop} : ∀ {xs : List V} {l : List α}, Paired F xs l → Paired F xs.reverse l.reverse
  | _, _, .nil => .nil
  | _, _, .cons h t => by
    rw [List.reverse_cons, List.reverse_cons]
    exact paired_app (paired_rev t) (.cons h .nil)
theorem paired_fl {f : α → V} : ∀ {xs : List V} {l : List α}, Paired (RV f G) xs l → xs = l.map f
  | _, _, .nil => rfl
  | _, _, .cons h t => by rw [List.map_cons, ← paired_fl t, show _ = f _ from h]
theorem paired_of {f : α → V} : ∀ (l : List α), Paired (RV f G) (l.map f) l
  | [] => .nil
  | a :: l => .cons rfl (paired_of l)
end
end BF
/-! Rules that are directed by the text alone: an operator's reading is an alternative over the values' shapes. Calls of the program's own defs by one fact each. -/
namespace BF
open PySem PySem.Spec PyProof.Rows L2 TL

section
variable {X : Cx} {a b : Expr} {ta tb te : TE}
theorem OpR.alt {f : Value → Value → Sem Value} {r1 r2 : R2} (h1 : OpR X f r1) (h2 : OpR X f r2) : OpR X f (fun x y H Q => r1 x y H Q ∨ r2 x y H Q) :=
  fun pins s σ H x y v u Q I rx ry h => h.elim (h1 pins s σ H x y v u Q I rx ry) (h2 pins s σ H x y v u Q I rx ry)
theorem CallR.alt {f : Value} {r1 r2 : List V → Hp → VK → Prop} (h1 : CallR X f r1) (h2 : CallR X f r2) : CallR X f (fun xs H Q => r1 xs H Q ∨ r2 xs H Q) :=
  fun pins s σ H xs us Q I r h => h.elim (h1 pins s σ H xs us Q I r) (h2 pins s σ H xs us Q I r)

/-! ### + -/
def rAddS : R2 := fun x y H Q => ∃ i j, x = .str i ∧ y = .str j ∧ i.length + j.length ≤ sizeLine ∧ Q (.str (i ++ j)) H
def rAdd3 : R2 := fun x y H Q => rI0 (fun i j => .int (i + j)) x y H Q ∨ rAddS x y H Q ∨ rCat x y H Q
theorem opAdd : OpR X (binaryOp .Add) rAdd3 := OpR.alt op_add (OpR.alt op_add_str op_cat)
theorem g_add {i j : Int} {H : Hp} {Q : VK} (q : Q (.int (i + j)) H) : rAdd3 (.int i) (.int j) H Q := .inl ⟨i, j, rfl, rfl, q⟩
theorem g_addS {i j : Str} {H : Hp} {Q : VK} (h : i.length + j.length ≤ sizeLine) (q : Q (.str (i ++ j)) H) : rAdd3 (.str i) (.str j) H Q := .inr (.inl ⟨i, j, rfl, rfl, h, q⟩)
theorem g_cat {l m : Addr} {xs ys : List V} {H : Hp} {Q : VK} (h1 : H l = some (.lst xs)) (h2 : H m = some (.lst ys)) (h : xs.length + ys.length ≤ sizeLine)
    (q : ∀ p, H p = none → Q (.ref p) (upd H p (.lst (xs ++ ys)))) : rAdd3 (.ref l) (.ref m) H Q := .inr (.inr ⟨l, m, xs, ys, rfl, rfl, h1, h2, h, q⟩)

/-! ### * -/
def repT (x : Str) (n : Nat) : Str := ⟨(List.replicate n x.cps.toList).flatten.toArray⟩
theorem foldl_rep (a : Array Nat) : ∀ (n : Nat) (b : Array Nat), ((List.replicate n a).foldl (· ++ ·) b).toList = b.toList ++ (List.replicate n a.toList).flatten
  | 0, b => by simp
  | n + 1, b => by
    rw [List.replicate_succ, List.foldl_cons, foldl_rep a n, List.replicate_succ, List.flatten_cons, Array.toList_append, List.append_assoc]
theorem rep_eq (x : Str) (n : Nat) : (⟨(List.replicate n x.cps).foldl (· ++ ·) #[]⟩ : Str) = repT x n := by
  refine ext_tl ?_
  show ((List.replicate n x.cps).foldl (· ++ ·) #[]).toList = _
  rw [foldl_rep]
  simp [repT, tl]
theorem rep_len (x : Str) (n : Nat) : (repT x n).length = n * x.length := by
  have : ∀ n, (List.replicate n x.cps.toList).flatten.length = n * x.cps.size := fun n => by
    induction n with
    | zero => simp
    | succ n ih => rw [List.replicate_succ, List.flatten_cons, List.length_append, ih, Nat.succ_mul, Array.length_toList, Nat.add_comm]
  show (List.replicate n x.cps.toList).flatten.toArray.size = _
  rw [List.size_toArray, this]
  rfl
theorem rep_one (x : Str) : repT x 1 = x := by
  refine ext_tl ?_
  simp [repT, tl]
def rMulS : R2 := fun x y H Q => ∃ (i : Str) (n : Int), x = .str i ∧ y = .int n ∧ 0 ≤ n ∧ n ≤ 1000 ∧ i.length ≤ 1000 ∧ Q (.str (repT i n.toNat)) H
theorem op_mulS : OpR X (binaryOp .Mult) rMulS := by
  intro pins s σ H x y v u Q I rx ry h
  obtain ⟨i, n, rfl, rfl, h0, h1, h2, q⟩ := h
  obtain ⟨t, rfl⟩ := rx
  obtain ⟨t', rfl⟩ := ry
  have e1 : decide (n < -(2 ^ 63 : Int)) = false := decide_eq_false (by omega)
  have e2 : decide (n ≥ 2 ^ 63) = false := decide_eq_false (by omega)
  have hm : i.length * n.toNat ≤ 1000 * 1000 := Nat.mul_le_mul h2 (by omega)
  refine PySem.P.mul_str (by rw [e1, e2]; rfl) (fun hn _ => ?_) (fun _ _ => ?_) ?_
  · have hm2 : (i.length : Int) * n ≤ 1000000 := by
      have e : (i.length : Int) * n = ((i.length * n.toNat : Nat) : Int) := by
        rw [Int.natCast_mul, Int.toNat_of_nonneg h0]
      rw [e]
      omega
    have : (i.length : Int) ≤ (2 ^ 63 - 1) / n := Int.le_ediv_of_mul_le (by omega) (by omega)
    omega
  · show decide (i.length * n.toNat > sizeLine) = false
    refine decide_eq_false ?_
    rw [sizeLine_eq]
    omega
  · by_cases hn : n < 1
    · rw [if_pos hn]
      have e : n = 0 := by omega
      subst e
      exact ⟨by decide, .str (repT i (0 : Int).toNat), H, I.tok _, ⟨_, rfl⟩, q⟩
    · rw [if_neg hn]
      by_cases h3 : (n == 1 || i.length == 0) = true
      · rw [if_pos h3]
        refine ⟨.str (repT i n.toNat), H, I, ⟨t, ?_⟩, q⟩
        show Value.str i t = Value.str (repT i n.toNat) t
        congr 1
        rcases (Bool.or_eq_true _ _).mp h3 with h4 | h4
        · have e : n = 1 := by simpa using h4
          subst e
          exact (rep_one i).symm
        · have e : i.length = 0 := by simpa using h4
          refine ext_tl ?_
          have e2 : tl i = [] := List.length_eq_zero_iff.mp (by rw [← len_tl]; exact e)
          have e3 : tl (repT i n.toNat) = [] := List.length_eq_zero_iff.mp (by rw [← len_tl, rep_len, e, Nat.mul_zero])
          rw [e2, e3]
      · rw [if_neg h3]
        rw [rep_eq]
        refine ⟨?_, .str (repT i n.toNat), H, I.tok _, ⟨_, rfl⟩, q⟩
        rw [rep_len, sizeLine_eq, Nat.mul_comm]
        omega
def rMul3 : R2 := fun x y H Q => rI CMul (fun i j => .int (i * j)) x y H Q ∨ rMulS x y H Q ∨ rRep x y H Q
theorem opMul : OpR X (binaryOp .Mult) rMul3 := OpR.alt op_mul (OpR.alt op_mulS op_rep)
theorem g_mul {i j : Int} {H : Hp} {Q : VK} (h : CMul i j) (q : Q (.int (i * j)) H) : rMul3 (.int i) (.int j) H Q := .inl ⟨i, j, rfl, rfl, h, q⟩
theorem g_mulS {i : Str} {n : Int} {H : Hp} {Q : VK} (h0 : 0 ≤ n) (h1 : n ≤ 1000) (h2 : i.length ≤ 1000) (q : Q (.str (repT i n.toNat)) H) : rMul3 (.str i) (.int n) H Q := .inr (.inl ⟨i, n, rfl, rfl, h0, h1, h2, q⟩)
theorem g_rep {l : Addr} {n : Int} {xs : List V} {H : Hp} {Q : VK} (h : H l = some (.lst xs)) (h0 : 0 ≤ n) (h1 : n ≤ 1000) (h2 : xs.length ≤ 1000)
    (q : ∀ p, H p = none → Q (.ref p) (upd H p (.lst (List.replicate n.toNat xs).flatten))) : rMul3 (.ref l) (.int n) H Q :=
  .inr (.inr ⟨l, n, xs, rfl, rfl, h, by omega, by omega, Nat.le_trans (Nat.mul_le_mul h2 (by omega : n.toNat ≤ 1000)) (by rw [sizeLine_eq]; omega), q⟩)
theorem g_mod {i j : Int} {H : Hp} {Q : VK} (h : 0 < j) (q : Q (.int (i % j)) H) : rI (fun _ j => 0 < j) (fun i j => .int (i % j)) (.int i) (.int j) H Q := ⟨i, j, rfl, rfl, h, q⟩
theorem g_fdiv {i j : Int} {H : Hp} {Q : VK} (h : CDiv i j) (q : Q (.int (i / j)) H) : rI CDiv (fun i j => .int (i / j)) (.int i) (.int j) H Q := ⟨i, j, rfl, rfl, h, q⟩
theorem g_sub {i j : Int} {H : Hp} {Q : VK} (q : Q (.int (i - j)) H) : rI0 (fun i j => .int (i - j)) (.int i) (.int j) H Q := ⟨i, j, rfl, rfl, q⟩
theorem g_cmp {f : Int → Int → V} {i j : Int} {H : Hp} {Q : VK} (q : Q (f i j) H) : rI0 f (.int i) (.int j) H Q := ⟨i, j, rfl, rfl, q⟩

/-! ### == -/
def rEq2 (K : PySem.W.Frag) : R2 := fun x y H Q => rEq x y H Q ∨ rEqD K x y H Q
def rNe2 (K : PySem.W.Frag) : R2 := fun x y H Q => rNe x y H Q ∨ rNeD K x y H Q
theorem room_u {A : Around} {k : Nat} (hr : Room k A) : A.units + 64 < cLine := by have := hr.un; omega
theorem opEq {k : Nat} (hr : Room k X.A) : OpR X (compareOp .Eq) (rEq2 X.K) := OpR.alt op_eq (op_eqD (room_u hr))
theorem opNe {k : Nat} (hr : Room k X.A) : OpR X (compareOp .NotEq) (rNe2 X.K) := OpR.alt op_ne (op_neD (room_u hr))
theorem g_eqI {K : PySem.W.Frag} {i j : Int} {H : Hp} {Q : VK} (q : Q (.bl (decide (i = j))) H) : rEq2 K (.int i) (.int j) H Q := .inl ⟨rfl, by
  have e : decide (V.int i = V.int j) = decide (i = j) := by simp
  rw [e]; exact q⟩
theorem g_neI {K : PySem.W.Frag} {i j : Int} {H : Hp} {Q : VK} (q : Q (.bl (!decide (i = j))) H) : rNe2 K (.int i) (.int j) H Q := .inl ⟨rfl, by
  have e : decide (V.int i = V.int j) = decide (i = j) := by simp
  rw [e]; exact q⟩
theorem g_eqS {K : PySem.W.Frag} {i j : Str} {H : Hp} {Q : VK} (q : Q (.bl (decide (i = j))) H) : rEq2 K (.str i) (.str j) H Q := .inl ⟨rfl, by
  have e : decide (V.str i = V.str j) = decide (i = j) := by simp
  rw [e]; exact q⟩
theorem g_neS {K : PySem.W.Frag} {i j : Str} {H : Hp} {Q : VK} (q : Q (.bl (!decide (i = j))) H) : rNe2 K (.str i) (.str j) H Q := .inl ⟨rfl, by
  have e : decide (V.str i = V.str j) = decide (i = j) := by simp
  rw [e]; exact q⟩

/-! ### int(..) -/
def rInt1 : List V → Hp → VK → Prop := fun xs H Q => (∃ i, xs = [.int i] ∧ Q (.int i) H) ∨ ∃ k, xs = [.bl k] ∧ Q (.int (if k then 1 else 0)) H
def rIntS : List V → Hp → VK → Prop := fun xs H Q => ∃ a n, xs = [.str a] ∧ PySem.intText? a = some n ∧ a.length ≤ 640 ∧ Q (.int n) H
def rInt3 : List V → Hp → VK → Prop := fun xs H Q => rInt1 xs H Q ∨ rIntS xs H Q
theorem callInt : CallR X (.type "int") rInt3 := CallR.alt call_int1 call_int_str
theorem g_intB {k : Bool} {H : Hp} {Q : VK} (q : Q (.int (if k then 1 else 0)) H) : rInt3 [.bl k] H Q := .inl (.inr ⟨k, rfl, q⟩)
theorem g_intS {a : Str} {n : Int} {H : Hp} {Q : VK} (h : PySem.intText? a = some n) (hl : a.length ≤ 640) (q : Q (.int n) H) : rInt3 [.str a] H Q := .inr ⟨a, n, rfl, h, hl, q⟩

/-! ### calls of built-ins, by named readings -/
def rLen1 (K : PySem.W.Frag) : List V → Hp → VK → Prop := fun xs H Q => ∃ x n, xs = [x] ∧ LenV K x H n ∧ Q (.int n) H
theorem callLen : CallR X (.builtin "len") (rLen1 X.K) := call_len
def rMin2 : List V → Hp → VK → Prop := fun xs H Q => ∃ i j, xs = [.int i, .int j] ∧ Q (.int (if j < i then j else i)) H
theorem callMin (hc : X.calm = true) : CallR X (.builtin "min") rMin2 := call_min2 hc
def rMax2 : List V → Hp → VK → Prop := fun xs H Q => ∃ i j, xs = [.int i, .int j] ∧ Q (.int (if j > i then j else i)) H
theorem callMax (hc : X.calm = true) : CallR X (.builtin "max") rMax2 := call_max2 hc
def rStrI : List V → Hp → VK → Prop := fun xs H Q => ∃ i, xs = [.int i] ∧ i.natAbs.log2 < 1920 ∧ Q (.str (toString i)) H
theorem callStr : CallR X (.type "str") rStrI := call_str_int
def rTupOf (K : PySem.W.Frag) : List V → Hp → VK → Prop := fun xs H Q => ∃ p ys, xs = [.ref p] ∧ ((SqL K H p ys ∧ ∀ l, H l = none → Q (.ref l) (upd H l (.tup ys))) ∨ (SqT K H p ys ∧ Q (.ref p) H))
theorem callTuple : CallR X (.type "tuple") (rTupOf X.K) := call_tuple_of
def rListOf (K : PySem.W.Frag) : List V → Hp → VK → Prop := fun xs H Q => ∃ p ys, xs = [.ref p] ∧ (SqL K H p ys ∨ SqT K H p ys) ∧ ∀ l, H l = none → Q (.ref l) (upd H l (.lst ys))
theorem callList : CallR X (.type "list") (rListOf X.K) := call_list_of
def rIsNo : R2 := fun x y H Q => y = .non ∧ Q (.bl (decide (x = .non))) H
def rNotNo : R2 := fun x y H Q => y = .non ∧ Q (.bl (!decide (x = .non))) H
theorem opIs : OpR X (compareOp .Is) rIsNo := op_isN
theorem opIsNot : OpR X (compareOp .IsNot) rNotNo := op_notN
def rNotSg : R2 := fun x y H Q => ∃ (c : Nat) (z : Str), x = .str ⟨#[c]⟩ ∧ y = .str z ∧ Q (.bl (!decide (c ∈ z.cps.toList))) H
theorem opNotSg : OpR X (compareOp .NotIn) rNotSg := op_notIn_sign

/-! ### methods of texts -/
def rPart : V → List V → Hp → VK → Prop := fun x xs H Q => ∃ a b, x = .str a ∧ xs = [.str b] ∧ (b.length == 0) = false ∧ a.length ≤ sizeLine ∧
  ∀ p, H p = none → Q (.ref p) (upd H p (.tup [.str (Txt.partition a b).1, .str (Txt.partition a b).2.1, .str (Txt.partition a b).2.2]))
def rSplit : V → List V → Hp → VK → Prop := fun x xs H Q => ∃ a b, x = .str a ∧ xs = [.str b] ∧ (b.length == 0) = false ∧ a.length + 2 ≤ sizeLine ∧ rNewStrs (Txt.split a b) H Q
def rJoin (K : PySem.W.Frag) : V → List V → Hp → VK → Prop := fun x xs H Q => ∃ a p, ∃ ys : List Str, x = .str a ∧ xs = [.ref p] ∧ (SqL K H p (ys.map V.str) ∨ SqT K H p (ys.map V.str)) ∧
  (ys.map (·.length)).sum + ys.length * a.length ≤ 16777216 ∧ Q (.str (Txt.join a ys)) H
section
variable {o e : Expr} {to te : TE} {apos pos : Pos}
theorem pePart (ho : PE X o to) (he : PE X e te) (hs : starEach [e] X.env = [(false, eval e X.env)] := by rfl) (hbase : attributeBase o "partition" X.env (eval o X.env) = eval o X.env := by rfl) (hline : (apos.endLine == pos.line) = true := by rfl) :
    PE X (.Call (.Attribute o "partition" apos) [e] [] pos) (tM1 rPart to te) := pe_partition ho he hs hbase hline
theorem peSplit (ho : PE X o to) (he : PE X e te) (hs : starEach [e] X.env = [(false, eval e X.env)] := by rfl) (hbase : attributeBase o "split" X.env (eval o X.env) = eval o X.env := by rfl) (hline : (apos.endLine == pos.line) = true := by rfl) :
    PE X (.Call (.Attribute o "split" apos) [e] [] pos) (tM1 rSplit to te) := pe_split ho he hs hbase hline
theorem peJoin (ho : PE X o to) (he : PE X e te) (hs : starEach [e] X.env = [(false, eval e X.env)] := by rfl) (hbase : attributeBase o "join" X.env (eval o X.env) = eval o X.env := by rfl) (hline : (apos.endLine == pos.line) = true := by rfl) :
    PE X (.Call (.Attribute o "join" apos) [e] [] pos) (tM1 (rJoin X.K) to te) := pe_join ho he hs hbase hline
end

/-! ### subscripts -/
theorem g_ixL {K : PySem.W.Frag} {p : Addr} {xs : List V} {i : Int} {v : V} {H : Hp} {Q : VK} (h : SqL K H p xs) (e : atI xs i = some v) (q : Q v H) : rIx K (.ref p) (.int i) H Q := .inl ⟨p, xs, i, v, rfl, rfl, h, e, q⟩
theorem g_ixT {K : PySem.W.Frag} {p : Addr} {xs : List V} {i : Int} {v : V} {H : Hp} {Q : VK} (h : SqT K H p xs) (e : atI xs i = some v) (q : Q v H) : rIx K (.ref p) (.int i) H Q := .inr (.inl ⟨p, xs, i, v, rfl, rfl, h, e, q⟩)
theorem g_ixS {K : PySem.W.Frag} {z : Str} {i : Int} {c : Nat} {H : Hp} {Q : VK} (h : z.length ≤ sizeLine) (e : atI z.cps.toList i = some c) (q : Q (.str ⟨#[c]⟩) H) : rIx K (.str z) (.int i) H Q := .inr (.inr ⟨z, i, c, rfl, rfl, h, e, q⟩)

/-! ### names of the module -/
def GC (mg : Str → Option Value) (x : Str) (v : V) : Prop := ∃ u, mg x = some u ∧ RelV v u
theorem pe_gc {x : Str} {v : V} {pos : Pos} (h : GC X.mg x v) (hg : Gl X x := by rfl) (hd : (x == ("__debug__" : Str)) = false := by decide) : PE X (.Name x pos) (tC v) := by
  obtain ⟨u, e, r⟩ := h
  exact pe_glob hg e r hd
end

/-! ### calls of the program's own defs -/
section
variable {P : Program} {w : World} {K : PySem.W.Frag} {mg : Str → Option Value} {base : Heap}
/-- the module's name x stands for a def with these parameters that keeps sp -/
def Cal (P : Program) (w : World) (K : PySem.W.Frag) (mg : Str → Option Value) (base : Heap) (CX : CXT) (x : Str) (ps : List Str) (n : Nat) (sp : Sp) : Prop :=
  ∃ f fd, FnOk P w K mg base CX n f fd ps sp ∧ mg x = some (.ref f) ∧ PySem.W.keepIn K (.ref f) = true ∧ Binds K fd ps []
/-- the class at C has a method m -/
def Met (P : Program) (w : World) (K : PySem.W.Frag) (mg : Str → Option Value) (base : Heap) (CX : CXT) (C : Addr) (m : Str) (ps : List Str) (n : Nat) (sp : Sp) : Prop :=
  ∃ f fd, FnOk P w K mg base CX n f fd ps sp ∧ Cls K C ∧ Meth K C m f ∧ Binds K fd ps []
/-- the module's name x is the class at C, its __init__ keeps sp -/
def Mkr (P : Program) (w : World) (K : PySem.W.Frag) (mg : Str → Option Value) (base : Heap) (CX : CXT) (x : Str) (C : Addr) (ps : List Str) (n : Nat) (sp : Sp) : Prop :=
  ∃ f fd, FnOk P w K mg base CX n f fd ps sp ∧ Mk K C f ∧ mg x = some (.ref C) ∧ Binds K fd ps []
end
section
variable {X : Cx} {CX : CXT} {k n : Nat} {C : Addr} {ps : List Str} {sp : Sp} {E : XK} {x m : Str} {p pos apos : Pos} {e o : Expr} {es : List Expr} {ta : TE} {t : TA}
theorem pe_cal (c : Cal X.prog X.w X.K X.mg X.base CX x ps n sp) (hr : Room k X.A) (hn : n ≤ k) (hx : Passes CX X E) (ha : PA X (e :: es) t) (hg : Gl X x := by rfl)
    (hdb : (x == ("__debug__" : Str)) = false := by decide) (he : starEach (e :: es) X.env = (false, eval e X.env) :: starEach es X.env := by rfl) (hpl : (backTo pos (starEach es X.env)).any (·.1) = false := by rfl) :
    PE X (.Call (.Name x p) (e :: es) [] pos) (tCall sp [] E t) := by
  obtain ⟨f, fd, F, hm, hk, hb⟩ := c
  exact pe_call F (hr.mono hn) hg hm hk hb .nil hx ha hdb he hpl
theorem pe_met {pl : Sem Bool} (c : Met X.prog X.w X.K X.mg X.base CX C m ps n sp) (hr : Room k X.A) (hn : n ≤ k) (hx : Passes CX X E) (ho : PE X o ta) (ha : PA X (e :: es) t)
    (hst : starEach (e :: es) X.env = (false, eval e X.env) :: starEach es X.env := by rfl) (hpl : (backTo pos (starEach es X.env)).any (·.1) = false := by rfl)
    (ht : eval (.Call (.Attribute o m apos) (e :: es) [] pos) X.env = (do
      let ov ← eval o X.env
      standAt apos.atName
      let (f, first) ← holding [ov] (getMethod ov m pl)
      callWith pos f first (backTo pos (starEach (e :: es) X.env)) (backToKw pos (keywordEach [] X.env))) := by rfl) :
    PE X (.Call (.Attribute o m apos) (e :: es) [] pos) (tMeth C m sp [] E ta t) := by
  obtain ⟨f, fd, F, hc, hm, hb⟩ := c
  exact pe_meth (pl := pl) ho hc hm F (hr.mono hn) hb .nil hx ha hst hpl ht
theorem pe_met0 {pl : Sem Bool} (c : Met X.prog X.w X.K X.mg X.base CX C m ps n sp) (hr : Room k X.A) (hn : n ≤ k) (hx : Passes CX X E) (ho : PE X o ta)
    (ht : eval (.Call (.Attribute o m apos) [] [] pos) X.env = (do
      let ov ← eval o X.env
      standAt apos.atName
      let (f, first) ← holding [ov] (getMethod ov m pl)
      callWith pos f first (backTo pos (starEach [] X.env)) (backToKw pos (keywordEach [] X.env))) := by rfl) :
    PE X (.Call (.Attribute o m apos) [] [] pos) (tMeth C m sp [] E ta tNil) := by
  obtain ⟨f, fd, F, hc, hm, hb⟩ := c
  exact pe_meth0 (pl := pl) ho hc hm F (hr.mono hn) hb .nil hx ht
theorem pe_mkr (c : Mkr X.prog X.w X.K X.mg X.base CX x C ps n sp) (hr : Room k X.A) (hn : n + 1 ≤ k) (hx : Passes CX X E) (ha : PA X (e :: es) t) (hg : Gl X x := by rfl)
    (hdb : (x == ("__debug__" : Str)) = false := by decide) (he : starEach (e :: es) X.env = (false, eval e X.env) :: starEach es X.env := by rfl) (hpl : (backTo pos (starEach es X.env)).any (·.1) = false := by rfl) :
    PE X (.Call (.Name x p) (e :: es) [] pos) (tMake C sp [] E t) := by
  obtain ⟨f, fd, F, hM, hm, hb⟩ := c
  exact pe_make hM F (hr.mono hn) hg hm hb .nil hx ha hdb he hpl
theorem pe_mkr0 (c : Mkr X.prog X.w X.K X.mg X.base CX x C ps n sp) (hr : Room k X.A) (hn : n + 1 ≤ k) (hx : Passes CX X E) (hg : Gl X x := by rfl)
    (hdb : (x == ("__debug__" : Str)) = false := by decide) : PE X (.Call (.Name x p) [] [] pos) (tMake C sp [] E tNil) := by
  obtain ⟨f, fd, F, hM, hm, hb⟩ := c
  exact pe_make0 hM F (hr.mono hn) hg hm hb .nil hx hdb
/-- the reading's parameters may be chosen where it is read -/
theorem pe_ex {ι : Type} {e : Expr} {t : ι → TE} (h : ∀ i, PE X e (t i)) : PE X e (fun σ H Q => ∃ i, t i σ H Q) :=
  ⟨fun pins s σ H Q I ⟨i, q⟩ => (h i).run pins s σ H Q I q⟩
end

/-! ### the ways behind an if joined -/
section
variable {X : Cx} {st : Stmt} {rest : List Stmt} {t u : TS}
def tCutS (t u : TS) : TS := fun D σ H => ∃ M : L2.St → Hp → Prop, t { D with nx := M } σ H ∧ ∀ σ' H', M σ' H' → u D σ' H'
theorem pss_cutS (h1 : PS X st t) (h2 : PSs X rest u) : PSs X (st :: rest) (tCutS t u) := by
  refine ⟨fun pins s σ H D I h => ?_⟩
  obtain ⟨M, q1, q2⟩ := h
  refine wpAny_execs_cons (thn (h1.run pins s σ H _ I q1) fun fl s1 hs => ?_)
  cases fl with
  | next =>
    obtain ⟨σ1, H1, I1, m1⟩ := hs
    exact h2.run pins s1 σ1 H1 D I1 (q2 σ1 H1 m1)
  | brk => exact hs
  | cont => exact hs
  | ret v => exact hs
end
end BF
/-! The plain model: layouts, rods' standings, moves, pushes, slips; texts. -/
namespace BF
open PySem L2 TL

structure Lay where
  u : Int
  w : Int
  l : Int
  b : Int
  deriving DecidableEq
abbrev Rod := Int × Int
inductive K4 where
  | up | down | put | take
  deriving DecidableEq
def K4.word : K4 → Str
  | .up => "up"
  | .down => "down"
  | .put => "put"
  | .take => "take"
def K4.contra : K4 → K4
  | .up => .down
  | .down => .up
  | .put => .take
  | .take => .put
structure Mv where
  k : K4
  rod : Nat
  beads : Nat
  deriving DecidableEq
def Mv.contra (m : Mv) : Mv := ⟨m.k.contra, m.rod, m.beads⟩
/-- the rod's standing behind a push, whether there are so many beads or not -/
def reach (k : K4) (s : Rod) (n : Int) : Rod := match k with
  | .up => (s.1, s.2 + n)
  | .down => (s.1, s.2 - n)
  | .put => (s.1 + n, s.2)
  | .take => (s.1 - n, s.2)
def fits (ly : Lay) (s : Rod) : Prop := (0 ≤ s.1 ∧ s.1 ≤ ly.u) ∧ (0 ≤ s.2 ∧ s.2 ≤ ly.l)
instance (ly : Lay) (s : Rod) : Decidable (fits ly s) := inferInstanceAs (Decidable (_ ∧ _))
/-- one push: None where there is no such rod, or not so many beads -/
def push (fr : List Lay) (st : List Rod) (m : Mv) : Option (List Rod) := match fr[m.rod]?, st[m.rod]? with
  | some ly, some s => if fits ly (reach m.k s m.beads) then some (st.take m.rod ++ [reach m.k s m.beads] ++ st.drop (m.rod + 1)) else none
  | _, _ => none
def allM (fr : List Lay) : List Rod → List Mv → Option (List Rod)
  | st, [] => some st
  | st, m :: ms => match push fr st m with
    | some s => allM fr s ms
    | none => none
/-- the ways to slip at one move: a word, the move in its stead (none: left out) -/
def wayFewer (m : Mv) : List (Str × Option Mv) := if 1 < m.beads then [("fewer", some (Mv.mk m.k m.rod (m.beads - 1)))] else []
def wayLast (m : Mv) : List (Str × Option Mv) := if 0 < m.rod then [("last", some (Mv.mk m.k (m.rod - 1) m.beads))] else []
def wayNext (n : Nat) (m : Mv) : List (Str × Option Mv) := if m.rod + 1 < n then [("next", some (Mv.mk m.k (m.rod + 1) m.beads))] else []
def ways (n : Nat) (m : Mv) : List (Str × Option Mv) := wayFewer m ++ wayLast m ++ [(("left" : Str), none)] ++ [(("more" : Str), some (Mv.mk m.k m.rod (m.beads + 1)))] ++ wayNext n m
structure Slip where
  at_ : Nat
  word : Str
  mv : Option Mv
  deriving DecidableEq
def Slip.row (s : Slip) (ms : List Mv) : List Mv := ms.take s.at_ ++ s.mv.toList ++ ms.drop (s.at_ + 1)
def slipsAt (n : Nat) (i : Nat) (m : Mv) : List Slip := (ways n m).map fun q => ⟨i, q.1, q.2⟩
/-- all slips of a row, from place i on -/
def slipsFrom (n : Nat) : Nat → List Mv → List Slip
  | _, [] => []
  | i, m :: ms => slipsAt n i m ++ slipsFrom n (i + 1) ms
abbrev slipsAll (n : Nat) (ms : List Mv) : List Slip := slipsFrom n 0 ms
/-- those that lead to the other standing -/
def slipsTo (fr : List Lay) (st : List Rod) (ms : List Mv) (other : List Rod) : List Slip := (slipsAll fr.length ms).filter fun s => decide (allM fr st (s.row ms) = some other)

/-! ### texts -/
def numT (n : Int) : Str := Str.ofString (toString n)
def Mv.text (m : Mv) : Str := m.k.word ++ " " ++ numT m.rod ++ " " ++ numT m.beads
def Lay.text (y : Lay) : Str := numT y.u ++ "x" ++ numT y.w ++ "+" ++ numT y.l ++ ":" ++ numT y.b
def rodT (s : Rod) : Str := numT s.1 ++ "." ++ numT s.2
def Slip.text (s : Slip) : Str := numT s.at_ ++ " " ++ s.word
def shownT (st : List Rod) : Str := Txt.join " " (st.reverse.map rodT)
def rowT (ms : List Mv) : Str := Txt.join "; " (ms.map Mv.text)
def writtenT (fr : List Lay) : Str := Txt.join " " (fr.reverse.map Lay.text)
def slipsT (ss : List Slip) : Str := Txt.join "; " (ss.map Slip.text)
/-! ### what they are as they stand -/
def layV (y : Lay) : List V := [.int y.u, .int y.w, .int y.l, .int y.b]
def rodV (s : Rod) : List V := [.int s.1, .int s.2]
def mvV (m : Mv) : List V := [.str m.k.word, .int m.rod, .int m.beads]
abbrev RLay : Hp → V → Lay → Prop := RFl layV
abbrev RRod : Hp → V → Rod → Prop := RFl rodV
/-- a move of the law's: a tuple of word, rod, beads -/
abbrev RMvT : Hp → V → Mv → Prop := RFl mvV
abbrev RFrame : Hp → V → List Lay → Prop := RLst RLay
abbrev RStd : Hp → V → List Rod → Prop := RLst RRod
abbrev RRowT : Hp → V → List Mv → Prop := RLst RMvT
end BF
/-! The text by places; what the top has written. -/
namespace BF
open PySem PySem.Spec PyProof.Rows L2 TL

def top (i : Nat) : Stmt := PySem.Challenge.pw_beadframe_k95_slips_at_the_desk.main.body.getD i (.Pass ⟨0, 0, 0, 0⟩)
abbrev s_is_whole : Stmt := top 22
abbrev N_is_whole : List Str := ["thing"]
theorem sc_is_whole : FnScope N_is_whole ["thing"] (defScope s_is_whole) := ⟨rfl, rfl, rfl, by decide +kernel, rfl, by decide +kernel, by decide +kernel⟩
abbrev s_is_layout : Stmt := top 23
abbrev N_is_layout : List Str := ["thing", "number", "upper", "worth", "lower", "base"]
theorem sc_is_layout : FnScope N_is_layout ["thing"] (defScope s_is_layout) := ⟨rfl, rfl, rfl, by decide +kernel, rfl, by decide +kernel, by decide +kernel⟩
abbrev s_small_number_layouts : Stmt := top 24
abbrev N_small_number_layouts : List Str := ["word", "sign"]
theorem sc_small_number_layouts : FnScope N_small_number_layouts ["word"] (defScope s_small_number_layouts) := ⟨rfl, rfl, rfl, by decide +kernel, rfl, by decide +kernel, by decide +kernel⟩
abbrev s_read_layout : Stmt := top 26
abbrev N_read_layout : List Str := ["text", "upper", "cross", "rest", "worth", "plus", "lower", "colon", "base", "layout", "word"]
theorem sc_read_layout : FnScope N_read_layout ["text"] (defScope s_read_layout) := ⟨rfl, rfl, rfl, by decide +kernel, rfl, by decide +kernel, by decide +kernel⟩
abbrev s_full_worth : Stmt := top 27
abbrev N_full_worth : List Str := ["layout", "upper", "worth", "lower", "base"]
theorem sc_full_worth : FnScope N_full_worth ["layout"] (defScope s_full_worth) := ⟨rfl, rfl, rfl, by decide +kernel, rfl, by decide +kernel, by decide +kernel⟩
abbrev s_clear_of : Stmt := top 33
abbrev N_clear_of : List Str := ["frame", "layout"]
theorem sc_clear_of : FnScope N_clear_of ["frame"] (defScope s_clear_of) := ⟨rfl, rfl, rfl, by decide +kernel, rfl, by decide +kernel, by decide +kernel⟩
abbrev s_small_number_moves : Stmt := top 43
abbrev N_small_number_moves : List Str := ["word", "sign"]
theorem sc_small_number_moves : FnScope N_small_number_moves ["word"] (defScope s_small_number_moves) := ⟨rfl, rfl, rfl, by decide +kernel, rfl, by decide +kernel, by decide +kernel⟩
abbrev s_read_move : Stmt := top 45
abbrev N_read_move : List Str := ["text", "words", "rod", "beads"]
theorem sc_read_move : FnScope N_read_move ["text"] (defScope s_read_move) := ⟨rfl, rfl, rfl, by decide +kernel, rfl, by decide +kernel, by decide +kernel⟩
abbrev s_done_all : Stmt := top 47
abbrev N_done_all : List Str := ["frame", "standing", "row", "here", "at", "move", "e"]
theorem sc_done_all : FnScope N_done_all ["frame", "standing", "row"] (defScope s_done_all) := ⟨rfl, rfl, rfl, by decide +kernel, rfl, by decide +kernel, by decide +kernel⟩
abbrev s_read_row : Stmt := top 50
abbrev N_read_row : List Str := ["text", "part"]
theorem sc_read_row : FnScope N_read_row ["text"] (defScope s_read_row) := ⟨rfl, rfl, rfl, by decide +kernel, rfl, by decide +kernel, by decide +kernel⟩
abbrev s_like : Stmt := top 110
abbrev N_like : List Str := ["move", "rod", "beads"]
theorem sc_like : FnScope N_like ["move", "rod", "beads"] (defScope s_like) := ⟨rfl, rfl, rfl, by decide +kernel, rfl, by decide +kernel, by decide +kernel⟩
abbrev s_slips_at : Stmt := top 111
abbrev N_slips_at : List Str := ["frame", "row", "at", "move", "found"]
theorem sc_slips_at : FnScope N_slips_at ["frame", "row", "at"] (defScope s_slips_at) := ⟨rfl, rfl, rfl, by decide +kernel, rfl, by decide +kernel, by decide +kernel⟩
abbrev s_with_slip : Stmt := top 112
abbrev N_with_slip : List Str := ["row", "slip", "at", "word", "move"]
theorem sc_with_slip : FnScope N_with_slip ["row", "slip"] (defScope s_with_slip) := ⟨rfl, rfl, rfl, by decide +kernel, rfl, by decide +kernel, by decide +kernel⟩
abbrev s_leads_to : Stmt := top 113
abbrev N_leads_to : List Str := ["frame", "standing", "row", "other", "found"]
theorem sc_leads_to : FnScope N_leads_to ["frame", "standing", "row", "other"] (defScope s_leads_to) := ⟨rfl, rfl, rfl, by decide +kernel, rfl, by decide +kernel, by decide +kernel⟩
abbrev s_slips_of : Stmt := top 114
abbrev N_slips_of : List Str := ["frame", "standing", "row", "other", "told", "at", "slip"]
theorem sc_slips_of : FnScope N_slips_of ["frame", "standing", "row", "other"] (defScope s_slips_of) := ⟨rfl, rfl, rfl, by decide +kernel, rfl, by decide +kernel, by decide +kernel⟩
abbrev s_read_rod : Stmt := top 116
abbrev N_read_rod : List Str := ["layout", "word", "high", "point", "low", "one"]
theorem sc_read_rod : FnScope N_read_rod ["layout", "word"] (defScope s_read_rod) := ⟨rfl, rfl, rfl, by decide +kernel, rfl, by decide +kernel, by decide +kernel⟩
abbrev s_read_standing : Stmt := top 117
abbrev N_read_standing : List Str := ["frame", "text", "words", "layout", "word"]
theorem sc_read_standing : FnScope N_read_standing ["frame", "text"] (defScope s_read_standing) := ⟨rfl, rfl, rfl, by decide +kernel, rfl, by decide +kernel, by decide +kernel⟩
abbrev s_shown_standing : Stmt := top 118
abbrev N_shown_standing : List Str := ["standing", "high", "low"]
theorem sc_shown_standing : FnScope N_shown_standing ["standing"] (defScope s_shown_standing) := ⟨rfl, rfl, rfl, by decide +kernel, rfl, by decide +kernel, by decide +kernel⟩
abbrev s_word_fits : Stmt := top 124
abbrev N_word_fits : List Str := ["kind", "word"]
theorem sc_word_fits : FnScope N_word_fits ["kind", "word"] (defScope s_word_fits) := ⟨rfl, rfl, rfl, by decide +kernel, rfl, by decide +kernel, by decide +kernel⟩
abbrev s_look_at : Stmt := top 125
abbrev N_look_at : List Str := ["words", "shape", "kind", "word"]
theorem sc_look_at : FnScope N_look_at ["words", "shape"] (defScope s_look_at) := ⟨rfl, rfl, rfl, by decide +kernel, rfl, by decide +kernel, by decide +kernel⟩
abbrev s_is_name : Stmt := top 103
abbrev N_is_name : List Str := ["word", "sign"]
theorem sc_is_name : FnScope N_is_name ["word"] (defScope s_is_name) := ⟨rfl, rfl, rfl, by decide +kernel, rfl, by decide +kernel, by decide +kernel⟩
abbrev s_l_mixed : Stmt := top 128
abbrev N_l_mixed : List Str := ["_law_script", "_law_k"]
theorem sc_l_mixed : FnScope N_l_mixed ["_law_script", "_law_k"] (defScope s_l_mixed) := ⟨rfl, rfl, rfl, by decide +kernel, rfl, by decide +kernel, by decide +kernel⟩
abbrev s_l_layout : Stmt := top 129
abbrev N_l_layout : List Str := ["_law_cell", "_law_base", "_law_upper", "_law_worth", "_law_lower", "_law_most"]
theorem sc_l_layout : FnScope N_l_layout ["_law_cell"] (defScope s_l_layout) := ⟨rfl, rfl, rfl, by decide +kernel, rfl, by decide +kernel, by decide +kernel⟩
abbrev s_l_frame : Stmt := top 130
abbrev N_l_frame : List Str := ["_law_script", "_law_at", "_law_most", "_law_k"]
theorem sc_l_frame : FnScope N_l_frame ["_law_script", "_law_at", "_law_most"] (defScope s_l_frame) := ⟨rfl, rfl, rfl, by decide +kernel, rfl, by decide +kernel, by decide +kernel⟩
abbrev s_l_written : Stmt := top 131
abbrev N_l_written : List Str := ["_law_frame_here", "_law_texts", "_law_upper", "_law_worth", "_law_lower", "_law_base"]
theorem sc_l_written : FnScope N_l_written ["_law_frame_here"] (defScope s_l_written) := ⟨rfl, rfl, rfl, by decide +kernel, rfl, by decide +kernel, by decide +kernel⟩
abbrev s_l_name : Stmt := top 132
abbrev N_l_name : List Str := ["_law_script", "_law_k", "_law_pad"]
theorem sc_l_name : FnScope N_l_name ["_law_script", "_law_k"] (defScope s_l_name) := ⟨rfl, rfl, rfl, by decide +kernel, rfl, by decide +kernel, by decide +kernel⟩
abbrev s_l_shown : Stmt := top 133
abbrev N_l_shown : List Str := ["_law_standing", "_law_high", "_law_low"]
theorem sc_l_shown : FnScope N_l_shown ["_law_standing"] (defScope s_l_shown) := ⟨rfl, rfl, rfl, by decide +kernel, rfl, by decide +kernel, by decide +kernel⟩
abbrev s_l_push : Stmt := top 135
abbrev N_l_push : List Str := ["_law_frame_here", "_law_standing", "_law_word", "_law_rod", "_law_beads", "_law_high", "_law_low", "_law_sign"]
theorem sc_l_push : FnScope N_l_push ["_law_frame_here", "_law_standing", "_law_word", "_law_rod", "_law_beads"] (defScope s_l_push) := ⟨rfl, rfl, rfl, by decide +kernel, rfl, by decide +kernel, by decide +kernel⟩
abbrev s_l_drawn : Stmt := top 136
abbrev N_l_drawn : List Str := ["_law_script", "_law_at", "_law_frame_here", "_law_found", "_law_rod", "_law_layout_here", "_law_cell"]
theorem sc_l_drawn : FnScope N_l_drawn ["_law_script", "_law_at", "_law_frame_here"] (defScope s_l_drawn) := ⟨rfl, rfl, rfl, by decide +kernel, rfl, by decide +kernel, by decide +kernel⟩
abbrev s_l_all : Stmt := top 137
abbrev N_l_all : List Str := ["_law_frame_here", "_law_standing", "_law_moves_here", "_law_word", "_law_rod", "_law_beads"]
theorem sc_l_all : FnScope N_l_all ["_law_frame_here", "_law_standing", "_law_moves_here"] (defScope s_l_all) := ⟨rfl, rfl, rfl, by decide +kernel, rfl, by decide +kernel, by decide +kernel⟩
abbrev s_l_slips : Stmt := top 138
abbrev N_l_slips : List Str := ["_law_frame_here", "_law_moves_here", "_law_found", "_law_at", "_law_move", "_law_word", "_law_rod", "_law_beads", "_law_ways", "_law_said", "_law_other_here", "_law_good", "_law_kind", "_law_there", "_law_many"]
theorem sc_l_slips : FnScope N_l_slips ["_law_frame_here", "_law_moves_here"] (defScope s_l_slips) := ⟨rfl, rfl, rfl, by decide +kernel, rfl, by decide +kernel, by decide +kernel⟩
abbrev s_l_moves : Stmt := top 139
abbrev N_l_moves : List Str := ["_law_script", "_law_k", "_law_frame_here", "_law_standing", "_law_found", "_law_j", "_law_cell", "_law_rod", "_law_upper", "_law_worth", "_law_lower", "_law_base", "_law_high", "_law_low", "_law_rooms", "_law_way", "_law_word", "_law_beads"]
theorem sc_l_moves : FnScope N_l_moves ["_law_script", "_law_k", "_law_frame_here", "_law_standing"] (defScope s_l_moves) := ⟨rfl, rfl, rfl, by decide +kernel, rfl, by decide +kernel, by decide +kernel⟩
abbrev s_l_text : Stmt := top 140
abbrev N_l_text : List Str := ["_law_moves_here", "_law_word", "_law_rod", "_law_beads"]
theorem sc_l_text : FnScope N_l_text ["_law_moves_here"] (defScope s_l_text) := ⟨rfl, rfl, rfl, by decide +kernel, rfl, by decide +kernel, by decide +kernel⟩
abbrev s_l_right : Stmt := top 141
abbrev N_l_right : List Str := ["_law_desk", "_law_name_here", "_law_frame_here", "_law_standing", "_law_moves_here", "_law_other_here", "_law_due", "_law_at", "_law_said", "_law_row"]
theorem sc_l_right : FnScope N_l_right ["_law_desk", "_law_name_here", "_law_frame_here", "_law_standing", "_law_moves_here", "_law_other_here"] (defScope s_l_right) := ⟨rfl, rfl, rfl, by decide +kernel, rfl, by decide +kernel, by decide +kernel⟩
abbrev s_l_other : Stmt := top 142
abbrev N_l_other : List Str := ["_law_script", "_law_k", "_law_frame_here", "_law_standing", "_law_moves_here", "_law_cell", "_law_some", "_law_at", "_law_said", "_law_row", "_law_one"]
theorem sc_l_other : FnScope N_l_other ["_law_script", "_law_k", "_law_frame_here", "_law_standing", "_law_moves_here"] (defScope s_l_other) := ⟨rfl, rfl, rfl, by decide +kernel, rfl, by decide +kernel, by decide +kernel⟩
abbrev s_law : Stmt := top 143
abbrev N_law : List Str := ["_law_script", "_law_desk", "_law_name_here", "_law_frame_here", "_law_standing", "_law_done", "_law_rod", "_law_one", "_law_word", "_law_beads", "_law_k", "_law_moves_here", "_law_other_here", "_law_behind"]
theorem sc_law : FnScope N_law ["_law_script"] (defScope s_law) := ⟨rfl, rfl, rfl, by decide +kernel, rfl, by decide +kernel, by decide +kernel⟩
abbrev s_Stuck_init : Stmt := inClass (top 5) 0
abbrev N_Stuck_init : List Str := ["self", "rod", "at"]
theorem sc_Stuck_init : FnScope N_Stuck_init ["self", "rod", "at"] (defScope s_Stuck_init) := ⟨rfl, rfl, rfl, by decide +kernel, rfl, by decide +kernel, by decide +kernel⟩
abbrev s_Move_init : Stmt := inClass (top 38) 0
abbrev N_Move_init : List Str := ["self", "rod", "beads"]
theorem sc_Move_init : FnScope N_Move_init ["self", "rod", "beads"] (defScope s_Move_init) := ⟨rfl, rfl, rfl, by decide +kernel, rfl, by decide +kernel, by decide +kernel⟩
abbrev s_Move_done : Stmt := inClass (top 38) 5
abbrev N_Move_done : List Str := ["self", "frame", "standing", "layout", "high", "low"]
theorem sc_Move_done : FnScope N_Move_done ["self", "frame", "standing"] (defScope s_Move_done) := ⟨rfl, rfl, rfl, by decide +kernel, rfl, by decide +kernel, by decide +kernel⟩
abbrev s_Up_contrary : Stmt := inClass (top 39) 1
abbrev N_Up_contrary : List Str := ["self"]
theorem sc_Up_contrary : FnScope N_Up_contrary ["self"] (defScope s_Up_contrary) := ⟨rfl, rfl, rfl, by decide +kernel, rfl, by decide +kernel, by decide +kernel⟩
abbrev s_Up_reached : Stmt := inClass (top 39) 2
abbrev N_Up_reached : List Str := ["self", "layout", "rod_standing"]
theorem sc_Up_reached : FnScope N_Up_reached ["self", "layout", "rod_standing"] (defScope s_Up_reached) := ⟨rfl, rfl, rfl, by decide +kernel, rfl, by decide +kernel, by decide +kernel⟩
abbrev s_Down_contrary : Stmt := inClass (top 40) 1
abbrev N_Down_contrary : List Str := ["self"]
theorem sc_Down_contrary : FnScope N_Down_contrary ["self"] (defScope s_Down_contrary) := ⟨rfl, rfl, rfl, by decide +kernel, rfl, by decide +kernel, by decide +kernel⟩
abbrev s_Down_reached : Stmt := inClass (top 40) 2
abbrev N_Down_reached : List Str := ["self", "layout", "rod_standing"]
theorem sc_Down_reached : FnScope N_Down_reached ["self", "layout", "rod_standing"] (defScope s_Down_reached) := ⟨rfl, rfl, rfl, by decide +kernel, rfl, by decide +kernel, by decide +kernel⟩
abbrev s_Put_contrary : Stmt := inClass (top 41) 1
abbrev N_Put_contrary : List Str := ["self"]
theorem sc_Put_contrary : FnScope N_Put_contrary ["self"] (defScope s_Put_contrary) := ⟨rfl, rfl, rfl, by decide +kernel, rfl, by decide +kernel, by decide +kernel⟩
abbrev s_Put_reached : Stmt := inClass (top 41) 2
abbrev N_Put_reached : List Str := ["self", "layout", "rod_standing"]
theorem sc_Put_reached : FnScope N_Put_reached ["self", "layout", "rod_standing"] (defScope s_Put_reached) := ⟨rfl, rfl, rfl, by decide +kernel, rfl, by decide +kernel, by decide +kernel⟩
abbrev s_Take_contrary : Stmt := inClass (top 42) 1
abbrev N_Take_contrary : List Str := ["self"]
theorem sc_Take_contrary : FnScope N_Take_contrary ["self"] (defScope s_Take_contrary) := ⟨rfl, rfl, rfl, by decide +kernel, rfl, by decide +kernel, by decide +kernel⟩
abbrev s_Take_reached : Stmt := inClass (top 42) 2
abbrev N_Take_reached : List Str := ["self", "layout", "rod_standing"]
theorem sc_Take_reached : FnScope N_Take_reached ["self", "layout", "rod_standing"] (defScope s_Take_reached) := ⟨rfl, rfl, rfl, by decide +kernel, rfl, by decide +kernel, by decide +kernel⟩
abbrev s_Kept_init : Stmt := inClass (top 122) 0
abbrev N_Kept_init : List Str := ["self", "frame"]
theorem sc_Kept_init : FnScope N_Kept_init ["self", "frame"] (defScope s_Kept_init) := ⟨rfl, rfl, rfl, by decide +kernel, rfl, by decide +kernel, by decide +kernel⟩
abbrev s_Kept_push_row : Stmt := inClass (top 122) 1
abbrev N_Kept_push_row : List Str := ["self", "row"]
theorem sc_Kept_push_row : FnScope N_Kept_push_row ["self", "row"] (defScope s_Kept_push_row) := ⟨rfl, rfl, rfl, by decide +kernel, rfl, by decide +kernel, by decide +kernel⟩
abbrev s_Kept_pull_back : Stmt := inClass (top 122) 2
abbrev N_Kept_pull_back : List Str := ["self"]
theorem sc_Kept_pull_back : FnScope N_Kept_pull_back ["self"] (defScope s_Kept_pull_back) := ⟨rfl, rfl, rfl, by decide +kernel, rfl, by decide +kernel, by decide +kernel⟩
abbrev s_Desk_init : Stmt := inClass (top 126) 0
abbrev N_Desk_init : List Str := ["self"]
theorem sc_Desk_init : FnScope N_Desk_init ["self"] (defScope s_Desk_init) := ⟨rfl, rfl, rfl, by decide +kernel, rfl, by decide +kernel, by decide +kernel⟩
abbrev s_Desk_kept : Stmt := inClass (top 126) 1
abbrev N_Desk_kept : List Str := ["self", "name"]
theorem sc_Desk_kept : FnScope N_Desk_kept ["self", "name"] (defScope s_Desk_kept) := ⟨rfl, rfl, rfl, by decide +kernel, rfl, by decide +kernel, by decide +kernel⟩
abbrev s_Desk_say : Stmt := inClass (top 126) 2
abbrev N_Desk_say : List Str := ["self", "row", "word", "blank", "rest", "words", "kept", "moves"]
theorem sc_Desk_say : FnScope N_Desk_say ["self", "row"] (defScope s_Desk_say) := ⟨rfl, rfl, rfl, by decide +kernel, rfl, by decide +kernel, by decide +kernel⟩
abbrev s_Desk_lay : Stmt := inClass (top 126) 4
abbrev N_Desk_lay : List Str := ["self", "words", "word"]
theorem sc_Desk_lay : FnScope N_Desk_lay ["self", "words"] (defScope s_Desk_lay) := ⟨rfl, rfl, rfl, by decide +kernel, rfl, by decide +kernel, by decide +kernel⟩
abbrev s_Desk_move : Stmt := inClass (top 126) 6
abbrev N_Desk_move : List Str := ["self", "rest", "name", "blank", "text", "kept"]
theorem sc_Desk_move : FnScope N_Desk_move ["self", "rest"] (defScope s_Desk_move) := ⟨rfl, rfl, rfl, by decide +kernel, rfl, by decide +kernel, by decide +kernel⟩
abbrev s_Desk_slip : Stmt := inClass (top 126) 8
abbrev N_Desk_slip : List Str := ["self", "rest", "name", "blank", "word", "more", "text", "kept", "other", "found", "at", "said", "move"]
theorem sc_Desk_slip : FnScope N_Desk_slip ["self", "rest"] (defScope s_Desk_slip) := ⟨rfl, rfl, rfl, by decide +kernel, rfl, by decide +kernel, by decide +kernel⟩
/-- the addresses of the classes -/
structure Adr where
  mv : K4 → Addr
  kept : Addr
  desk : Addr
  stuck : Addr
/-- built-in names are still built in, constants of the module stand -/
structure Bas (K : PySem.W.Frag) (mg : Str → Option Value) : Prop where
  z_len : mg "len" = none
  z_isinstance : mg "isinstance" = none
  z_min : mg "min" = none
  z_max : mg "max" = none
  z_int : mg "int" = none
  z_str : mg "str" = none
  z_bool : mg "bool" = none
  z_tuple : mg "tuple" = none
  z_list : mg "list" = none
  z_range : mg "range" = none
  z_enumerate : mg "enumerate" = none
  z_zip : mg "zip" = none
  z_reversed : mg "reversed" = none
  c_FIGURES_layouts : GC mg "FIGURES_layouts" (.str "0123456789")
  c_MOST_FIGURES_layouts : GC mg "MOST_FIGURES_layouts" (.int 2)
  c_MOST_UPPER : GC mg "MOST_UPPER" (.int 6)
  c_MOST_WORTH : GC mg "MOST_WORTH" (.int 20)
  c_MOST_LOWER : GC mg "MOST_LOWER" (.int 24)
  c_MOST_BASE : GC mg "MOST_BASE" (.int 25)
  c_FIGURES_moves : GC mg "FIGURES_moves" (.str "0123456789")
  c_LETTERS : GC mg "LETTERS" (.str "abcdefghijklmnopqrstuvwxyz")
  c_LONGEST_NAME : GC mg "LONGEST_NAME" (.int 8)
  c_MOST_RODS_desk : GC mg "MOST_RODS_desk" (.int 20)

section
variable {X : Cx} {pos : Pos}
theorem pe_tyn {x : Str} {n : String} (hm : X.mg x = none) (hv : bootBuiltins x = some (.type n)) (hg : Gl X x := by rfl) (hn : x ≠ "__name__" := by decide) (hd : (x == ("__debug__" : Str)) = false := by decide) : PE X (.Name x pos) (tC (.ty n)) :=
  pe_bltn hg hm hv rfl hn hd
end
end BF
/-! the head's facts: what is looked at, what it tells -/
namespace BF
open PySem PySem.Spec PyProof.Rows L2
def fns : List He.DefD := [
  ⟨("is_whole", none), "is_whole", "is_whole", defArgs s_is_whole, defBody s_is_whole, defScope s_is_whole, [], []⟩,
  ⟨("is_layout", none), "is_layout", "is_layout", defArgs s_is_layout, defBody s_is_layout, defScope s_is_layout, [], []⟩,
  ⟨("small_number_layouts", none), "small_number", "small_number", defArgs s_small_number_layouts, defBody s_small_number_layouts, defScope s_small_number_layouts, [], []⟩,
  ⟨("read_layout", none), "read_layout", "read_layout", defArgs s_read_layout, defBody s_read_layout, defScope s_read_layout, [], []⟩,
  ⟨("full_worth", none), "full_worth", "full_worth", defArgs s_full_worth, defBody s_full_worth, defScope s_full_worth, [], []⟩,
  ⟨("clear_of", none), "clear_of", "clear_of", defArgs s_clear_of, defBody s_clear_of, defScope s_clear_of, [], []⟩,
  ⟨("small_number_moves", none), "small_number", "small_number", defArgs s_small_number_moves, defBody s_small_number_moves, defScope s_small_number_moves, [], []⟩,
  ⟨("read_move", none), "read_move", "read_move", defArgs s_read_move, defBody s_read_move, defScope s_read_move, [], []⟩,
  ⟨("done_all", none), "done_all", "done_all", defArgs s_done_all, defBody s_done_all, defScope s_done_all, [], []⟩,
  ⟨("read_row", none), "read_row", "read_row", defArgs s_read_row, defBody s_read_row, defScope s_read_row, [], []⟩,
  ⟨("like", none), "like", "like", defArgs s_like, defBody s_like, defScope s_like, [], []⟩,
  ⟨("slips_at", none), "slips_at", "slips_at", defArgs s_slips_at, defBody s_slips_at, defScope s_slips_at, [], []⟩,
  ⟨("with_slip", none), "with_slip", "with_slip", defArgs s_with_slip, defBody s_with_slip, defScope s_with_slip, [], []⟩,
  ⟨("leads_to", none), "leads_to", "leads_to", defArgs s_leads_to, defBody s_leads_to, defScope s_leads_to, [], []⟩,
  ⟨("slips_of", none), "slips_of", "slips_of", defArgs s_slips_of, defBody s_slips_of, defScope s_slips_of, [], []⟩,
  ⟨("read_rod", none), "read_rod", "read_rod", defArgs s_read_rod, defBody s_read_rod, defScope s_read_rod, [], []⟩,
  ⟨("read_standing", none), "read_standing", "read_standing", defArgs s_read_standing, defBody s_read_standing, defScope s_read_standing, [], []⟩,
  ⟨("shown_standing", none), "shown_standing", "shown_standing", defArgs s_shown_standing, defBody s_shown_standing, defScope s_shown_standing, [], []⟩,
  ⟨("word_fits", none), "word_fits", "word_fits", defArgs s_word_fits, defBody s_word_fits, defScope s_word_fits, [], []⟩,
  ⟨("look_at", none), "look_at", "look_at", defArgs s_look_at, defBody s_look_at, defScope s_look_at, [], []⟩,
  ⟨("is_name", none), "is_name", "is_name", defArgs s_is_name, defBody s_is_name, defScope s_is_name, [], []⟩,
  ⟨("_law_mixed", none), "_law_mixed", "_law_mixed", defArgs s_l_mixed, defBody s_l_mixed, defScope s_l_mixed, [], []⟩,
  ⟨("_law_layout", none), "_law_layout", "_law_layout", defArgs s_l_layout, defBody s_l_layout, defScope s_l_layout, [], []⟩,
  ⟨("_law_frame", none), "_law_frame", "_law_frame", defArgs s_l_frame, defBody s_l_frame, defScope s_l_frame, [], []⟩,
  ⟨("_law_written", none), "_law_written", "_law_written", defArgs s_l_written, defBody s_l_written, defScope s_l_written, [], []⟩,
  ⟨("_law_name", none), "_law_name", "_law_name", defArgs s_l_name, defBody s_l_name, defScope s_l_name, [], []⟩,
  ⟨("_law_shown", none), "_law_shown", "_law_shown", defArgs s_l_shown, defBody s_l_shown, defScope s_l_shown, [], []⟩,
  ⟨("_law_push", none), "_law_push", "_law_push", defArgs s_l_push, defBody s_l_push, defScope s_l_push, [], []⟩,
  ⟨("_law_drawn", none), "_law_drawn", "_law_drawn", defArgs s_l_drawn, defBody s_l_drawn, defScope s_l_drawn, [], []⟩,
  ⟨("_law_all", none), "_law_all", "_law_all", defArgs s_l_all, defBody s_l_all, defScope s_l_all, [], []⟩,
  ⟨("_law_slips", none), "_law_slips", "_law_slips", defArgs s_l_slips, defBody s_l_slips, defScope s_l_slips, [], []⟩,
  ⟨("_law_moves", none), "_law_moves", "_law_moves", defArgs s_l_moves, defBody s_l_moves, defScope s_l_moves, [], []⟩,
  ⟨("_law_text", none), "_law_text", "_law_text", defArgs s_l_text, defBody s_l_text, defScope s_l_text, [], []⟩,
  ⟨("_law_right", none), "_law_right", "_law_right", defArgs s_l_right, defBody s_l_right, defScope s_l_right, [], []⟩,
  ⟨("_law_other", none), "_law_other", "_law_other", defArgs s_l_other, defBody s_l_other, defScope s_l_other, [], []⟩,
  ⟨("law", none), "law", "law", defArgs s_law, defBody s_law, defScope s_law, [], []⟩,
  ⟨("Stuck", some "__init__"), "__init__", "Stuck.__init__", defArgs s_Stuck_init, defBody s_Stuck_init, defScope s_Stuck_init, [], []⟩,
  ⟨("Up", some "__init__"), "__init__", "Move.__init__", defArgs s_Move_init, defBody s_Move_init, defScope s_Move_init, [], []⟩,
  ⟨("Down", some "__init__"), "__init__", "Move.__init__", defArgs s_Move_init, defBody s_Move_init, defScope s_Move_init, [], []⟩,
  ⟨("Put", some "__init__"), "__init__", "Move.__init__", defArgs s_Move_init, defBody s_Move_init, defScope s_Move_init, [], []⟩,
  ⟨("Take", some "__init__"), "__init__", "Move.__init__", defArgs s_Move_init, defBody s_Move_init, defScope s_Move_init, [], []⟩,
  ⟨("Up", some "done"), "done", "Move.done", defArgs s_Move_done, defBody s_Move_done, defScope s_Move_done, [], []⟩,
  ⟨("Down", some "done"), "done", "Move.done", defArgs s_Move_done, defBody s_Move_done, defScope s_Move_done, [], []⟩,
  ⟨("Put", some "done"), "done", "Move.done", defArgs s_Move_done, defBody s_Move_done, defScope s_Move_done, [], []⟩,
  ⟨("Take", some "done"), "done", "Move.done", defArgs s_Move_done, defBody s_Move_done, defScope s_Move_done, [], []⟩,
  ⟨("Up", some "contrary"), "contrary", "Up.contrary", defArgs s_Up_contrary, defBody s_Up_contrary, defScope s_Up_contrary, [], []⟩,
  ⟨("Up", some "reached"), "reached", "Up.reached", defArgs s_Up_reached, defBody s_Up_reached, defScope s_Up_reached, [], []⟩,
  ⟨("Down", some "contrary"), "contrary", "Down.contrary", defArgs s_Down_contrary, defBody s_Down_contrary, defScope s_Down_contrary, [], []⟩,
  ⟨("Down", some "reached"), "reached", "Down.reached", defArgs s_Down_reached, defBody s_Down_reached, defScope s_Down_reached, [], []⟩,
  ⟨("Put", some "contrary"), "contrary", "Put.contrary", defArgs s_Put_contrary, defBody s_Put_contrary, defScope s_Put_contrary, [], []⟩,
  ⟨("Put", some "reached"), "reached", "Put.reached", defArgs s_Put_reached, defBody s_Put_reached, defScope s_Put_reached, [], []⟩,
  ⟨("Take", some "contrary"), "contrary", "Take.contrary", defArgs s_Take_contrary, defBody s_Take_contrary, defScope s_Take_contrary, [], []⟩,
  ⟨("Take", some "reached"), "reached", "Take.reached", defArgs s_Take_reached, defBody s_Take_reached, defScope s_Take_reached, [], []⟩,
  ⟨("Kept", some "__init__"), "__init__", "Kept.__init__", defArgs s_Kept_init, defBody s_Kept_init, defScope s_Kept_init, [], []⟩,
  ⟨("Kept", some "push_row"), "push_row", "Kept.push_row", defArgs s_Kept_push_row, defBody s_Kept_push_row, defScope s_Kept_push_row, [], []⟩,
  ⟨("Kept", some "pull_back"), "pull_back", "Kept.pull_back", defArgs s_Kept_pull_back, defBody s_Kept_pull_back, defScope s_Kept_pull_back, [], []⟩,
  ⟨("Desk", some "__init__"), "__init__", "Desk.__init__", defArgs s_Desk_init, defBody s_Desk_init, defScope s_Desk_init, [], []⟩,
  ⟨("Desk", some "kept"), "kept", "Desk.kept", defArgs s_Desk_kept, defBody s_Desk_kept, defScope s_Desk_kept, [], []⟩,
  ⟨("Desk", some "say"), "say", "Desk.say", defArgs s_Desk_say, defBody s_Desk_say, defScope s_Desk_say, [], []⟩,
  ⟨("Desk", some "lay"), "lay", "Desk.lay", defArgs s_Desk_lay, defBody s_Desk_lay, defScope s_Desk_lay, [], []⟩,
  ⟨("Desk", some "move"), "move", "Desk.move", defArgs s_Desk_move, defBody s_Desk_move, defScope s_Desk_move, [], []⟩,
  ⟨("Desk", some "slip"), "slip", "Desk.slip", defArgs s_Desk_slip, defBody s_Desk_slip, defScope s_Desk_slip, [], []⟩]
def fas : List He.Fa := [.glo "is_whole", .glo "is_layout", .glo "small_number_layouts", .glo "read_layout", .glo "full_worth", .glo "clear_of", .glo "small_number_moves", .glo "read_move", .glo "done_all", .glo "read_row", .glo "like", .glo "slips_at", .glo "with_slip", .glo "leads_to", .glo "slips_of", .glo "read_rod", .glo "read_standing", .glo "shown_standing", .glo "word_fits", .glo "look_at", .glo "is_name", .glo "_law_mixed", .glo "_law_layout", .glo "_law_frame", .glo "_law_written", .glo "_law_name", .glo "_law_shown", .glo "_law_push", .glo "_law_drawn", .glo "_law_all", .glo "_law_slips", .glo "_law_moves", .glo "_law_text", .glo "_law_right", .glo "_law_other", .glo "law", .glo "Up", .glo "Down", .glo "Put", .glo "Take", .glo "Kept", .glo "Desk", .glo "Stuck", .glo "FrameError", .glo "SHAPES_desk", .free "len", .free "isinstance", .free "min", .free "max", .free "int", .free "str", .free "bool", .free "tuple", .free "list", .free "range", .free "enumerate", .free "zip", .free "reversed", .str "FIGURES_layouts" "0123456789", .str "FIGURES_moves" "0123456789", .str "LETTERS" "abcdefghijklmnopqrstuvwxyz", .int "MOST_FIGURES_layouts" 2, .int "MOST_UPPER" 6, .int "MOST_WORTH" 20, .int "MOST_LOWER" 24, .int "MOST_BASE" 25, .int "LONGEST_NAME" 8, .int "MOST_RODS_desk" 20, .cls "Up", .cls "Down", .cls "Put", .cls "Take", .cls "Kept", .cls "Desk", .noat "Up" "rod", .noat "Up" "beads", .noat "Down" "rod", .noat "Down" "beads", .noat "Put" "rod", .noat "Put" "beads", .noat "Take" "rod", .noat "Take" "beads", .noat "Kept" "frame", .noat "Kept" "standing", .noat "Kept" "pushed", .noat "Desk" "held", .noat "Stuck" "rod", .noat "Stuck" "at", .meth "Up" "contrary", .meth "Up" "reached", .meth "Up" "done", .meth "Down" "contrary", .meth "Down" "reached", .meth "Down" "done", .meth "Put" "contrary", .meth "Put" "reached", .meth "Put" "done", .meth "Take" "contrary", .meth "Take" "reached", .meth "Take" "done", .meth "Kept" "push_row", .meth "Kept" "pull_back", .meth "Desk" "kept", .meth "Desk" "say", .meth "Desk" "lay", .meth "Desk" "move", .meth "Desk" "slip", .mkr "Up", .mkr "Down", .mkr "Put", .mkr "Take", .mkr "Kept", .mkr "Desk", .exm "Stuck" "Stuck" true]
def seed0 : List Str := ["is_whole", "is_layout", "small_number_layouts", "read_layout", "full_worth", "clear_of", "small_number_moves", "read_move", "done_all", "read_row", "like", "slips_at", "with_slip", "leads_to", "slips_of", "read_rod", "read_standing", "shown_standing", "word_fits", "look_at"]
def seed1 : List Str := ["is_name", "_law_mixed", "_law_layout", "_law_frame", "_law_written", "_law_name", "_law_shown", "_law_push", "_law_drawn", "_law_all", "_law_slips", "_law_moves", "_law_text", "_law_right", "_law_other", "law", "Up", "Down", "Put", "Take"]
def seed2 : List Str := ["Kept", "Desk", "Stuck", "FrameError", "SHAPES_desk", "Move"]
def seedN : List Str := seed0 ++ (seed1 ++ (seed2))

/-! ### the part of the heap that the needed names reach -/
def refsZ (o : Obj) : List Addr := match o.data with
  | .func fd => He.refV fd.code
  | .cls cd => [cd.ns]
  | .dict es _ => es.toList.flatMap fun e => He.refV e.val
  | _ => []
def stepZ (g : Addr → Option Obj) (as : List Addr) : List Addr := as.flatMap fun a => match g a with
  | some o => refsZ o
  | none => []
def asZ (g : Addr → Option Obj) : Nat → List Addr → List Addr
  | 0, as => as
  | n + 1, as => as ++ asZ g n (stepZ g as)
def kZ (g : Addr → Option Obj) (n : Nat) : PySem.W.Frag := He.frG g (mainGlobals :: cStatics :: asZ g n (seedN.map (He.ga (He.frG g [mainGlobals]))))
/-! ### more facts -/
def isiB (K : PySem.W.Frag) (C : Addr) : Bool :=
  He.eqO (PySem.W.findIn K (.ref C) "__class__") (some (some (.builtin "object.__class__"))) && (He.eqO (PySem.W.specialIn K (.builtin "object.__class__") "__get__") (some (some (.builtin "getset_descriptor.__get__"))) &&
    (decide (PySem.W.takesIn K (.builtin "object.__class__") = some true) && decide (PySem.W.mroIn K C (.type "object") = some true)))
def mvA (K : PySem.W.Frag) : K4 → Addr
  | .up => He.ga K "Up"
  | .down => He.ga K "Down"
  | .put => He.ga K "Put"
  | .take => He.ga K "Take"
def k4s : List K4 := [.up, .down, .put, .take]
theorem k4s_mem (k : K4) : k ∈ k4s := by cases k <;> simp [k4s]
def kitB (K : PySem.W.Frag) : Bool := k4s.all fun k => k4s.all fun j => decide (PySem.W.kitOne K (.ref (mvA K k)) (.ref (mvA K j)) = some (decide (k = j)))
theorem kitB_ok {K : PySem.W.Frag} (h : kitB K = true) (k j : K4) : PySem.W.kitOne K (.ref (mvA K k)) (.ref (mvA K j)) = some (decide (k = j)) :=
  of_decide_eq_true (List.all_eq_true.mp (List.all_eq_true.mp h k (k4s_mem k)) j (k4s_mem j))
def oexB (K : PySem.W.Frag) (C : Addr) : Bool := (match K.lookup C with
  | some ⟨.type "type", _, .cls cd, sl⟩ => (match cd.mro, sl.toList with
    | .ref C' :: bm, [_, _, _, _, some (.builtin n), _] => C' == C && (n == "ValueError.__new__" && (!cd.hasDel && (cd.hasDict && PySem.HandSPX.refsVE bm)))
    | _, _ => false)
  | _ => false) && (He.eqO (PySem.W.findIn K (.ref C) "__setattr__") (some (some (.builtin "object.__setattr__"))) && (decide (PySem.W.subIn K (.ref C) (.type "BaseException") = some true) && (decide (PySem.W.typeIn K (.ref C) = some (.type "type")) && PySem.W.keepIn K (.ref C))))
theorem oexB_ok {K : PySem.W.Frag} {C : Addr} (h : oexB K C = true) : OexC K C := by
  obtain ⟨q, h⟩ := He.ba h
  obtain ⟨h2, h⟩ := He.ba h
  obtain ⟨h3, h⟩ := He.ba h
  obtain ⟨h4, h5⟩ := He.ba h
  refine ⟨?_, He.eqO_ok h2, of_decide_eq_true h3, of_decide_eq_true h4, h5⟩
  split at q
  · rename_i dd cd sl ho
    split at q
    · rename_i C' bm k0 k1 k2 k3 n k5 hm hs
      obtain ⟨q1, q⟩ := He.ba q
      obtain ⟨q2, q⟩ := He.ba q
      obtain ⟨q3, q⟩ := He.ba q
      obtain ⟨q4, q5⟩ := He.ba q
      have e1 := beq_iff_eq.mp q1
      have e2 := beq_iff_eq.mp q2
      subst e1 e2
      obtain ⟨nm, bs, mro, ns, qn, hd, sn, sub, ab, col, del⟩ := cd
      have e3 : mro = .ref C' :: bm := hm
      have e4 : del = false := by cases del <;> first | rfl | cases q3
      have e5 : hd = true := q4
      subst e3 e4 e5
      have e6 : sl = #[k0, k1, k2, k3, some (.builtin "ValueError.__new__"), k5] := by
        obtain ⟨l⟩ := sl
        exact congrArg Array.mk hs
      subst e6
      exact ⟨nm, qn, ns, bs, bm, sn, sub, ab, col, dd, k0, k1, k2, k3, k5, ho, q5⟩
    · cases q
  · cases q
def feB (K : PySem.W.Frag) (C : Addr) : Bool := PySem.W.readsIn K C (.type "type") && (He.eqO (PySem.W.specialIn K (.ref C) "__getattribute__") (some (some (.builtin "type.__getattribute__"))) && (match PySem.W.findCls K (.ref C) (.type "type") "__init__" with
  | some (.val (.builtin n)) => n == "ValueError.__init__"
  | _ => false))
theorem feB_ok {K : PySem.W.Frag} {C : Addr} (h : feB K C = true) : ClX.CRead K C (.type "type") ∧ PySem.W.findCls K (.ref C) (.type "type") "__init__" = some (.val (.builtin "ValueError.__init__")) := by
  obtain ⟨h1, h⟩ := He.ba h
  obtain ⟨h2, h3⟩ := He.ba h
  refine ⟨⟨h1, He.eqO_ok h2⟩, ?_⟩
  split at h3
  · rename_i n e
    have e2 := beq_iff_eq.mp h3
    subst e2
    exact e
  · cases h3
def stB (K : PySem.W.Frag) : Bool := He.eqO (PySem.W.findIn K (.ref (He.ga K "Stuck")) "__init__") (some (some (.ref (He.fAd K ("Stuck", some "__init__"))))) && decide (PySem.W.typeIn K (.ref (He.fAd K ("Stuck", some "__init__"))) = some (.type "function"))
def shA (K : PySem.W.Frag) (x : Str) : Addr := match PySem.W.nsIn K (He.ga K "SHAPES_desk") x with
  | some (some (.ref p)) => p
  | _ => 0
def shB (K : PySem.W.Frag) (x : Str) : Bool := He.eqO (PySem.W.nsIn K (He.ga K "SHAPES_desk") x) (some (some (.ref (shA K x)))) && (match K.lookup (shA K x) with
  | some ⟨.type c, _, .seq its _, _⟩ => c == "tuple" && (decide (its.size ≤ sizeLine) && He.relAll [V.str "name"] its.toList)
  | _ => false)
theorem shB_ok {K : PySem.W.Frag} {x : Str} (h : shB K x = true) : PySem.W.nsIn K (He.ga K "SHAPES_desk") x = some (some (.ref (shA K x))) ∧ ∀ H, SqT K H (shA K x) [.str "name"] := by
  obtain ⟨h1, h⟩ := He.ba h
  refine ⟨He.eqO_ok h1, fun H => ?_⟩
  split at h
  · rename_i c dd its n sl e
    obtain ⟨h2, h⟩ := He.ba h
    obtain ⟨h3, h4⟩ := He.ba h
    exact .inr ⟨_, its, n, e, congrArg Value.type (beq_iff_eq.mp h2), rfl, of_decide_eq_true h3, He.relAll_ok h4⟩
  · cases h
def exL (K : PySem.W.Frag) : List Bool := [isiB K (He.ga K "Up"), isiB K (He.ga K "Down"), isiB K (He.ga K "Put"), isiB K (He.ga K "Take"), kitB K, oexB K (He.ga K "Stuck"), xfB K (He.ga K "Stuck"), stB K, feB K (He.ga K "FrameError"), shB K "shows", shB K "back"]
def exZ (K : PySem.W.Frag) : Bool := (exL K).all id
theorem exZ_at {K : PySem.W.Frag} (h : exZ K = true) (i : Nat) {b : Bool} (hi : (exL K)[i]? = some b) : b = true := List.all_eq_true.mp h b (List.mem_of_getElem? hi)
/-! ### the hook -/
def tabs : List He.Tab := [(fun K => He.ga K "SHAPES_desk", ["shows", "back", "tidy", "add", "take", "bring", "fewest"])]
abbrev AlZ : Type := He.AlT × Bool
def obsZ (n : Nat) (g : Addr → Option Obj) : AlZ := (He.obsT fas fns tabs (kZ g n), exZ (kZ g n))
def valZ (w : World) : AlZ := (He.valT fns tabs w, true)
structure SaysZ (w : World) (K : PySem.W.Frag) : Prop where
  t : He.SaysT fas fns tabs w K
  more : exZ K = true
def hookZ (n : Nat) : PySem.W.Hook where
  α := AlZ
  obs := fun s => obsZ n s.heap.get?
  val := fun w => valZ w
  says := fun w h => ∃ K : PySem.W.Frag, K.In h ∧ SaysZ w K
  of := fun _ _ e => ⟨_, He.frG_in, congrArg (fun z : AlZ => z.1) e, congrArg (fun z : AlZ => z.2) e⟩
  keeps := fun _ _ _ ⟨K, hK, c⟩ k => ⟨K, PySem.W.Frag.In.keeps hK k, c⟩
theorem obsZ_eq {n : Nat} {g : Addr → Option Obj} {s : Shared} (h : ∀ a, g a = s.heap.get? a) : obsZ n g = (hookZ n).obs s := by
  have e : g = s.heap.get? := funext h
  rw [e] <;> rfl
section
variable {K : PySem.W.Frag} {h : Heap} {mg : Str → Option Value}
theorem gc_int (X : K.In h) (G : h.Ns mainGlobals mg) {x : Str} {i : Int} (c : (He.Fa.int x i).ok K = true) : GC mg x (.int i) := by
  obtain ⟨t, e⟩ := He.int_ok X G c
  exact ⟨_, e, t, rfl⟩
theorem gc_str (X : K.In h) (G : h.Ns mainGlobals mg) {x z : Str} (c : (He.Fa.str x z).ok K = true) : GC mg x (.str z) := by
  obtain ⟨t, e⟩ := He.str_ok X G c
  exact ⟨_, e, t, rfl⟩
end
def AK (K : PySem.W.Frag) : Adr := { mv := mvA K, kept := He.ga K "Kept", desk := He.ga K "Desk", stuck := He.ga K "Stuck" }
end BF
namespace BfHr
open PySem PySem.W PySem.Calls PyProof.Rows
abbrev R : OpenRow := OpenLaw.row PySem.Challenge.rw_beadframe_k95_slips_at_the_desk
abbrev qv : Program := view R.prog [143]
def names1 : List PySem.Str := ["FrameError", "NoLayout", "TooGreat", "NoStanding", "Stuck", "NoMove", "Below", "NoDivisor", "NoRow", "Spoilt", "TooLong", "NoBack", "NoName", "NoSay", "FIGURES_layouts", "MOST_FIGURES_layouts", "MOST_UPPER", "MOST_WORTH", "MOST_LOWER", "MOST_BASE", "is_whole", "is_layout", "small_number", "small_number_layouts", "read_layout", "full_worth", "count_of", "plain_of", "place_of", "borne_by"]
def names2 : List PySem.Str := ["clear_of", "digits_of", "tidy_of", "FIGURES_moves", "Move", "Up", "Down", "Put", "Take", "small_number_moves", "read_move", "done_all", "rod_rows", "rows_between", "read_row", "shown_row", "tidied_row", "Hand", "tidy_hand", "adding_row", "taking_row", "rod_standings", "choices_at", "keys_of", "least_of", "table_of", "cheapest_of", "most_at", "with_digit", "quotient_rows"]
def names3 : List PySem.Str := ["root_row", "product_row", "MOST_DONE", "done_count", "root_below", "Reckoner", "reckoned_of", "Maker", "made_of", "replayed_by", "divisor_of", "lowest_of", "point_place", "brought_row", "part_borne", "Price", "ByMoves", "ByGrips", "ByBeads", "LETTERS", "FIGURES_scripts", "LONGEST_NAME", "MOST_FIGURES_scripts", "MOST_RODS_scripts", "MOST_ROWS", "MOST_TURNS", "DEEPEST", "SHAPES_scripts", "is_name", "is_number"]
def names4 : List PySem.Str := ["Script", "layouts_of", "Scribe", "read_script", "like", "slips_at", "with_slip", "leads_to", "slips_of", "read_rod", "read_standing", "shown_standing", "MOST_RODS_desk", "SHAPES_desk", "Kept", "price_of", "word_fits", "look_at", "Desk", "_law_mixed", "_law_layout", "_law_frame", "_law_written", "_law_name", "_law_shown", "_law_borne", "_law_push", "_law_drawn", "_law_all", "_law_slips"]
def names5 : List PySem.Str := ["_law_moves", "_law_text", "_law_right", "_law_other"]
def names : List PySem.Str := names1 ++ (names2 ++ (names3 ++ (names4 ++ (names5))))



def ob (s : SharedT) : BF.AlZ := BF.obsZ 3 (HandSHeadRun.getT s)
abbrev hk : Hook := BF.hookZ 3
theorem ob_eq (s : SharedT) : ob s = hk.obs s.abs := BF.obsZ_eq (HandSHeadRun.getT_eq s)
theorem join4 {α β γ δ ε : Type} {o : Option α} {f : α → β} {g : α → γ} {h : α → δ} {i : α → ε} {a : β} {b : γ} {c : δ} {d : ε} (h1 : o.map (fun s => f s) = some a) (h2 : o.map (fun s => g s) = some b) (h3 : o.map (fun s => h s) = some c) (h4 : o.map (fun s => i s) = some d) : o.map (fun s => (f s, g s, (h s, i s))) = some (a, b, (c, d)) := by
  cases o with
  | none => exact nomatch (show (none : Option β) = some a from h1)
  | some s =>
    have e1 : f s = a := Option.some.inj h1
    have e2 : g s = b := Option.some.inj h2
    have e3 : h s = c := Option.some.inj h3
    have e4 : i s = d := Option.some.inj h4
    show some (f s, g s, (h s, i s)) = some (a, b, (c, d))
    rw [e1, e2, e3, e4]
noncomputable abbrev topEnd (w : World) (os : OsState) : Option SharedT := HandSHeadRun.endF (HandSHeadRun.stepQ (HandSHeadRun.denQ HandSHeadRun.tabQ) R.prog w) 20000 R.prog w os
noncomputable abbrev loF (w : World) (s : SharedT) : Bool := HandSHeadRun.looksF R.prog (boot_heap w.params) s.abs
noncomputable abbrev seF (s : SharedT) := HandSHeadRun.seenQ qv names (importedModules R.prog.main.body) (fun s => xlAt qv [] s && recOk R.toRowW.records s) s.abs
abbrev kF (s : SharedT) : Frag := BF.kZ (HandSHeadRun.getT s) 3
abbrev oF (s : SharedT) : He.AlT := He.obsT BF.fas BF.fns BF.tabs (kF s)
abbrev eF (s : SharedT) : Bool := BF.exZ (kF s)
def E1 (w : World) : Prop := ∀ os : OsState, (topEnd w os).map (fun s => loF w s) = some true
def E2 (w : World) : Prop := ∀ os : OsState, (topEnd w os).map (fun s => seF s) = some (openGood qv names)
def E3 (w : World) : Prop := ∀ os : OsState, (topEnd w os).map (fun s => oF s) = some (He.valT BF.fns BF.tabs w)
def E4 (w : World) : Prop := ∀ os : OsState, (topEnd w os).map (fun s => eF s) = some true
theorem r1F (w : World) : E1 (w.withFollow "special-get-raises" false) := by
  intro os
  kernel_rfl
theorem r1T (w : World) : E1 (w.withFollow "special-get-raises" true) := by
  intro os
  kernel_rfl
theorem r2F (w : World) : E2 (w.withFollow "special-get-raises" false) := by
  intro os
  kernel_rfl
theorem r2T (w : World) : E2 (w.withFollow "special-get-raises" true) := by
  intro os
  kernel_rfl
theorem r3F (w : World) : E3 (w.withFollow "special-get-raises" false) := by
  intro os
  kernel_rfl
theorem r3T (w : World) : E3 (w.withFollow "special-get-raises" true) := by
  intro os
  kernel_rfl
theorem r4F (w : World) : E4 (w.withFollow "special-get-raises" false) := by
  intro os
  kernel_rfl
theorem r4T (w : World) : E4 (w.withFollow "special-get-raises" true) := by
  intro os
  kernel_rfl
theorem r1A (w : World) : E1 w := byRow2 "special-get-raises" (P := fun w => E1 w) r1F r1T w
theorem r2A (w : World) : E2 w := byRow2 "special-get-raises" (P := fun w => E2 w) r2F r2T w
theorem r3A (w : World) : E3 w := byRow2 "special-get-raises" (P := fun w => E3 w) r3F r3T w
theorem r4A (w : World) : E4 w := byRow2 "special-get-raises" (P := fun w => E4 w) r4F r4T w
theorem run (w : World) : HandSHeadRun.RunEq R qv hk ob 20000 names w := fun os => join4 (r1A w os) (r2A w os) (r3A w os) (r4A w os)
end BfHr
/-! the head, but for the walk -/
namespace BfHe
open PySem PySem.W PySem.Calls PyProof.Rows
theorem top (hc : WalkO BfHr.qv BfHr.names (XL BfHr.qv []) BfHr.hk.says BfHr.R.toRowW (HandSHeadRun.topDef BfHr.R.prog 143) [] fun f vs => PySem.call f vs) : PySem.Challenge.rw_beadframe_k95_slips_at_the_desk.Holds := by
  w_on; o_law
  refine HandSHeadRun.head_any (r := OpenLaw.row PySem.Challenge.rw_beadframe_k95_slips_at_the_desk) (q := view (OpenLaw.row PySem.Challenge.rw_beadframe_k95_slips_at_the_desk).prog [143]) (H := BfHr.hk) (ob := BfHr.ob) (M := 20000) (loose := BfHr.names) (d := HandSHeadRun.topDef (OpenLaw.row PySem.Challenge.rw_beadframe_k95_slips_at_the_desk).prog 143) (kwd := []) BfHr.ob_eq
    (by kernel_rfl) (fun s => by kernel_rfl) BfHr.run (by kernel_rfl) (by kernel_rfl) (by kernel_rfl) (by rfl) (by first | assumption | decide +kernel) (by decide +kernel) ⟨rfl, rfl, rfl, rfl, rfl, by decide +kernel⟩ ?hw hc
  case hw => w_witness2
end BfHe
/-! Defs as they stand; readings step by step. -/
namespace BF
open PySem PySem.Spec PyProof.Rows L2 TL

abbrev FnP (K : PySem.W.Frag) (x q : Str) (st : Stmt) (f : Addr) (fd : FuncData) : Prop := FunD K x q (defArgs st) (defBody st) (defScope st) [] [] f fd
/-- the module's name g stands for the def st, named x, q -/
def Std (K : PySem.W.Frag) (mg : Str → Option Value) (g x q : Str) (st : Stmt) (ps : List Str) : Prop := ∃ f fd, FnP K x q st f fd ∧ mg g = some (.ref f) ∧ Binds K fd ps []
/-- the class at C has the method m: the def st -/
def StdM (K : PySem.W.Frag) (C : Addr) (m q : Str) (st : Stmt) (ps : List Str) : Prop := ∃ f fd, FnP K m q st f fd ∧ Cls K C ∧ Meth K C m f ∧ Binds K fd ps []
/-- the module's name g is the class at C, made by the def st -/
def StdI (K : PySem.W.Frag) (mg : Str → Option Value) (g : Str) (C : Addr) (q : Str) (st : Stmt) (ps : List Str) : Prop := ∃ f fd, FnP K "__init__" q st f fd ∧ Mk K C f ∧ mg g = some (.ref C) ∧ Binds K fd ps []
section
variable {P : Program} {w : World} {K : PySem.W.Frag} {mg : Str → Option Value} {base : Heap} {g x q m : Str} {C : Addr} {st : Stmt} {N ps : List Str} {k : Nat} {sp : Sp}
theorem Std.cal (D : Std K mg g x q st ps) (S : FnScope N ps (defScope st)) (len : ∀ vs H Q E, sp vs H Q E → vs.length = ps.length)
    (hbody : ∀ (f : Addr) (cdv : Value) (A : Around) (outer : List Env) (s : Shared) (H : Hp) (vs : List V) (Q : VK) (E : XK), Room k (A.deeper (envOfC q (defScope st) s.heap.objs.size f cdv)) → sp vs H Q E →
      ∃ t, PSs (cxOf CX0 P w K mg base N q (defScope st) f cdv A outer s H E).nox (defBody st) t ∧ t { nx := fun _ H' => Q .non H', rt := Q } (start N vs) H) : Cal P w K mg base CX0 g ps (k + 1) sp := by
  obtain ⟨f, fd, F, e, b⟩ := D
  refine ⟨f, fd, F.ok S len fun cdv A outer s H vs Q E hr h => ?_, e, F.kp, b⟩
  obtain ⟨t, h1, h2⟩ := hbody f cdv A outer s H vs Q E hr h
  exact ⟨t, h1.nox, h2⟩
theorem StdM.met (D : StdM K C m q st ps) (S : FnScope N ps (defScope st)) (len : ∀ vs H Q E, sp vs H Q E → vs.length = ps.length)
    (hbody : ∀ (f : Addr) (cdv : Value) (A : Around) (outer : List Env) (s : Shared) (H : Hp) (vs : List V) (Q : VK) (E : XK), Room k (A.deeper (envOfC q (defScope st) s.heap.objs.size f cdv)) → sp vs H Q E →
      ∃ t, PSs (cxOf CX0 P w K mg base N q (defScope st) f cdv A outer s H E).nox (defBody st) t ∧ t { nx := fun _ H' => Q .non H', rt := Q } (start N vs) H) : Met P w K mg base CX0 C m ps (k + 1) sp := by
  obtain ⟨f, fd, F, c, e, b⟩ := D
  refine ⟨f, fd, F.ok S len fun cdv A outer s H vs Q E hr h => ?_, c, e, b⟩
  obtain ⟨t, h1, h2⟩ := hbody f cdv A outer s H vs Q E hr h
  exact ⟨t, h1.nox, h2⟩
theorem StdI.mkr (D : StdI K mg g C q st ps) (S : FnScope N ps (defScope st)) (len : ∀ vs H Q E, sp vs H Q E → vs.length = ps.length)
    (hbody : ∀ (f : Addr) (cdv : Value) (A : Around) (outer : List Env) (s : Shared) (H : Hp) (vs : List V) (Q : VK) (E : XK), Room k (A.deeper (envOfC q (defScope st) s.heap.objs.size f cdv)) → sp vs H Q E →
      ∃ t, PSs (cxOf CX0 P w K mg base N q (defScope st) f cdv A outer s H E).nox (defBody st) t ∧ t { nx := fun _ H' => Q .non H', rt := Q } (start N vs) H) : Mkr P w K mg base CX0 g C ps (k + 1) sp := by
  obtain ⟨f, fd, F, c, e, b⟩ := D
  refine ⟨f, fd, F.ok S len fun cdv A outer s H vs Q E hr h => ?_, c, e, b⟩
  obtain ⟨t, h1, h2⟩ := hbody f cdv A outer s H vs Q E hr h
  exact ⟨t, h1.nox, h2⟩
end

/-! ### readings -/
section
variable {K : PySem.W.Frag} {σ : L2.St} {H : Hp} {Q : VK} {QT : Bool → Hp → Prop} {QA : List V → Hp → Prop} {ta tb tc te : TE} {t u : TT} {ts tz : TS} {D : Ends} {v : V} {i : Nat} {b : Bool} {r r' : R2} {as : TA}
theorem w_seq (h : ts { D with nx := tz D } σ H) : tSeq ts tz D σ H := h
theorem w_var (e : σ[i]? = some (some v)) (h : Q v H) : tVar i σ H Q := ⟨v, e, h⟩
theorem w_c (h : Q v H) : tC v σ H Q := h
theorem w_op (h : ta σ H fun x H1 => tb σ H1 fun y H2 => r x y H2 Q) : tOp r ta tb σ H Q := h
theorem w_asg {g : TG} (h : te σ H fun x H1 => g x σ H1 D.nx) : tAsg te g D σ H := h
theorem w_name {N : L2.St → Hp → Prop} (h : N (σ.set i (some v)) H) : gName i v σ H N := h
theorem w_ret (h : te σ H D.rt) : tRet te D σ H := h
theorem w_drop (h : te σ H fun _ H1 => D.nx σ H1) : tDrop te D σ H := h
theorem w_next (h : D.nx σ H) : tNext D σ H := h
theorem w_if (h : t σ H fun b H1 => if b = true then ts D σ H1 else tz D σ H1) : tIfS t ts tz D σ H := h
theorem w_test (h : te σ H fun x H' => ∃ k, x = .bl k ∧ QT k H') : tTest te σ H QT := h
theorem w_B (h : te σ H fun x H' => ∃ k, x = .bl k ∧ QT k H') : tB te σ H QT := h
theorem w_bl {R : Bool → Prop} (h : R b) : ∃ k, V.bl b = V.bl k ∧ R k := ⟨b, rfl, h⟩
theorem w_not (h : t σ H fun c H1 => QT (!c) H1) : tNot t σ H QT := h
theorem w_and (h : t σ H fun c H1 => if c = true then u σ H1 QT else QT false H1) : tAnd t u σ H QT := h
theorem w_or (h : t σ H fun c H1 => if c = true then QT true H1 else u σ H1 QT) : tOr t u σ H QT := h
theorem w_nil (h : QA [] H) : tNil σ H QA := h
theorem w_cons {tr : TA} (h : ta σ H fun x H1 => tr σ H1 fun xs H2 => QA (x :: xs) H2) : tCons ta tr σ H QA := h
theorem w_cb {rr : List V → Hp → VK → Prop} (h : as σ H fun vs H1 => rr vs H1 Q) : tCB rr as σ H Q := h
theorem w_chain (h : ta σ H fun x H1 => tb σ H1 fun y H2 => r x y H2 fun z H3 => ∃ k, z = .bl k ∧ (if k = true then tc σ H3 fun w' H4 => r' y w' H4 Q else Q (.bl false) H3)) : tChain r r' ta tb tc σ H Q := h
theorem w_call {sp : Sp} {E : XK} (h : as σ H fun vs H1 => sp (vs ++ []) H1 Q E) : tCall sp [] E as σ H Q := h
def NewT (Q : VK) (xs : List V) (H : Hp) : Prop := xs.length ≤ sizeLine ∧ ∀ p, H p = none → Q (.ref p) (upd H p (.tup xs))
def NewL (Q : VK) (xs : List V) (H : Hp) : Prop := xs.length ≤ sizeLine ∧ ∀ p, H p = none → Q (.ref p) (upd H p (.lst xs))
theorem w_tup (h : as σ H (NewT Q)) : tTup as σ H Q := h
theorem w_lst (h : as σ H (NewL Q)) : tLst as σ H Q := h
theorem w_un {ru : V → Hp → VK → Prop} (h : ta σ H fun x H1 => ru x H1 Q) : tUn ru ta σ H Q := h
theorem w_neg {n : Int} (h : Q (.int (-n)) H) : rU (fun i => .int (-i)) (.int n) H Q := ⟨n, rfl, h⟩
theorem w_andV (h : ta σ H fun x H1 => ∃ c, x = .bl c ∧ if c = true then tb σ H1 Q else Q (.bl false) H1) : tAndV ta tb σ H Q := h
theorem w_orV (h : ta σ H fun x H1 => ∃ c, x = .bl c ∧ if c = true then Q (.bl true) H1 else tb σ H1 Q) : tOrV ta tb σ H Q := h
theorem w_notV (h : ta σ H fun x H1 => ∃ c, x = .bl c ∧ Q (.bl (!c)) H1) : tNotV ta σ H Q := h
theorem w_iteT {A B : Prop} (h : A) : if true = true then A else B := by rw [if_pos rfl]; exact h
theorem w_iteF {A B : Prop} (h : B) : if false = true then A else B := by rw [if_neg Bool.false_ne_true]; exact h
theorem w_ite {c : Prop} {dc : Decidable c} {A B : Prop} (h1 : c → A) (h2 : ¬ c → B) : if decide c = true then A else B := by
  by_cases h : c
  · rw [if_pos (decide_eq_true h)]; exact h1 h
  · rw [if_neg (by rw [decide_eq_false h]; exact Bool.false_ne_true)]; exact h2 h
theorem w_iteN {c : Prop} {dc : Decidable c} {A B : Prop} (h1 : ¬ c → A) (h2 : c → B) : if (!decide c) = true then A else B := by
  by_cases h : c
  · rw [if_neg (by rw [decide_eq_true h]; exact Bool.false_ne_true)]; exact h2 h
  · rw [if_pos (by rw [decide_eq_false h]; rfl)]; exact h1 h
theorem w_ntT {A B : Prop} (h : B) : if (!true) = true then A else B := w_iteF h
theorem w_ntF {A B : Prop} (h : A) : if (!false) = true then A else B := w_iteT h
theorem w_iteB {c : Bool} {A B : Prop} (h1 : c = true → A) (h2 : c = false → B) : if c = true then A else B := by
  cases c with
  | true => exact w_iteT (h1 rfl)
  | false => exact w_iteF (h2 rfl)
theorem w_pos {c : Bool} {A B : Prop} (hc : c = true) (h : A) : if c = true then A else B := by rw [if_pos hc]; exact h
theorem w_neg' {c : Bool} {A B : Prop} (hc : c = false) (h : B) : if c = true then A else B := by rw [hc]; exact w_iteF h
/-- a known list's length -/
theorem w_lenL {p : Addr} {xs : List V} (h : SqL K H p xs) (hQ : Q (.int (xs.length : Nat)) H) : rLen1 K [.ref p] H Q := ⟨_, _, rfl, .inl ⟨xs, h, rfl⟩, hQ⟩
theorem w_lenT {p : Addr} {xs : List V} (h : SqT K H p xs) (hQ : Q (.int (xs.length : Nat)) H) : rLen1 K [.ref p] H Q := ⟨_, _, rfl, .inr ⟨xs, h, rfl⟩, hQ⟩
theorem w_lenS {z : Str} (h : z.length ≤ sizeLine) (hQ : Q (.int (z.length : Nat)) H) : rLen1 K [.str z] H Q := ⟨_, _, rfl, ⟨h, rfl⟩, hQ⟩
theorem w_min {i j : Int} (h : Q (.int (if j < i then j else i)) H) : rMin2 [.int i, .int j] H Q := ⟨i, j, rfl, h⟩
theorem w_max {i j : Int} (h : Q (.int (if j > i then j else i)) H) : rMax2 [.int i, .int j] H Q := ⟨i, j, rfl, h⟩
theorem w_strI {i : Int} (hz : i.natAbs.log2 < 1920) (h : Q (.str (numT i)) H) : rStrI [.int i] H Q := ⟨i, rfl, hz, h⟩
theorem w_isN (h : Q (.bl (decide (v = .non))) H) : rIsNo v .non H Q := ⟨rfl, h⟩
theorem w_notN (h : Q (.bl (!decide (v = .non))) H) : rNotNo v .non H Q := ⟨rfl, h⟩
theorem w_notSg {c : Nat} {z : Str} (h : Q (.bl (!decide (c ∈ z.cps.toList))) H) : rNotSg (.str ⟨#[c]⟩) (.str z) H Q := ⟨c, z, rfl, rfl, h⟩
/-- isinstance of built-in kinds -/
theorem w_isi {x : V} {t n : String} {c : Bool} (ty : TyX K H x (.type t)) (e : PySem.W.kitOne K (.type t) (.type n) = some c) (h : Q (.bl c) H) : rIsi K [x, .ty n] H Q := ⟨x, _, _, _, c, rfl, .ty n, ty, e, h⟩
end

theorem at_ {G H : Hp} {p : Addr} {o : HO} (h : G p = some o) (k : Same G H) : H p = some o := k _ _ h
section
variable {K : PySem.W.Frag} {σ : L2.St} {G H : Hp} {Q : VK} {as : TA} {te : TE} {xs ys : List V} {p p' : Addr}
/-- a new tuple, known from now on -/
theorem w_tupK (k : Same G H) (hl : Nat.ble xs.length 1000 = true) (c : ∀ p G' H', Stp G H G' H' → G' p = some (.tup xs) → H p = none → Q (.ref p) H') : NewT Q xs H :=
  ⟨Nat.le_trans (Nat.le_of_ble_eq_true hl) (by rw [sizeLine_eq]; decide), alloc k c⟩
theorem w_lstK (k : Same G H) (hl : Nat.ble xs.length 1000 = true) (c : ∀ p G' H', Stp G H G' H' → G' p = some (.lst xs) → H p = none → Q (.ref p) H') : NewL Q xs H :=
  ⟨Nat.le_trans (Nat.le_of_ble_eq_true hl) (by rw [sizeLine_eq]; decide), alloc k c⟩
theorem w_cat (k : Same G H) (h1 : H p = some (.lst xs)) (h2 : H p' = some (.lst ys)) (hl : xs.length + ys.length ≤ 1000) (c : ∀ p G' H', Stp G H G' H' → G' p = some (.lst (xs ++ ys)) → H p = none → Q (.ref p) H') : rAdd3 (.ref p) (.ref p') H Q :=
  g_cat h1 h2 (Nat.le_trans hl (by rw [sizeLine_eq]; decide)) (alloc k c)
theorem w_inT {x : V} (h : SqT K H p xs) (hx : flatV x = true) (hf : xs.all flatV = true) {b : Bool} (e : inV x xs = b) (q : Q (.bl b) H) : rIn K false x (.ref p) H Q := ⟨p, xs, rfl, .inr h, hx, hf, by rw [← e] at q; exact q⟩
theorem w_inL {x : V} (h : SqL K H p xs) (hx : flatV x = true) (hf : xs.all flatV = true) {b : Bool} (e : inV x xs = b) (q : Q (.bl b) H) : rIn K false x (.ref p) H Q := ⟨p, xs, rfl, .inl h, hx, hf, by rw [← e] at q; exact q⟩
end

section
variable {K : PySem.W.Frag} {σ : L2.St} {G H : Hp} {Q : VK} {N : L2.St → Hp → Prop} {xs ys : List V} {p : Addr} {v x : V} {tg : TG} {tgs : TGs} {n : Nat}
theorem w_gtup (h : SqT K H p xs) (hn : xs.length = n) (c : tgs xs σ H N) : gTup K n tgs (.ref p) σ H N := ⟨p, xs, rfl, h, hn, c⟩
theorem w_gcons (h : tg v σ H fun σ' H' => tgs xs σ' H' N) : gCons tg tgs (v :: xs) σ H N := ⟨v, xs, rfl, h⟩
theorem w_gnil (h : N σ H) : gNil [] σ H N := ⟨rfl, h⟩
/-- an item of a list | a tuple at a place that is a natural number -/
theorem w_ixL {i : Nat} (h : SqL K H p xs) (e : xs[i]? = some v) (q : Q v H) : rIx K (.ref p) (.int (i : Nat)) H Q := g_ixL h (atI_nat e) q
theorem w_ixT {i : Nat} (h : SqT K H p xs) (e : xs[i]? = some v) (q : Q v H) : rIx K (.ref p) (.int (i : Nat)) H Q := g_ixT h (atI_nat e) q
theorem w_sl {te : TE} {tl th : TO} {r : V → Option Int → Option Int → Hp → VK → Prop} (h : te σ H fun x H1 => tl σ H1 fun l H2 => th σ H2 fun u H3 => r x l u H3 Q) : tSl r te tl th σ H Q := h
theorem w_noP {QO : Option Int → Hp → Prop} (h : QO none H) : tNoPart σ H QO := h
theorem w_part {te : TE} {QO : Option Int → Hp → Prop} (h : te σ H fun x H1 => ∃ i, x = .int i ∧ QO (some i) H1) : tPart te σ H QO := h
theorem w_int1 {i : Int} {R : Int → Prop} (h : R i) : ∃ j, V.int i = V.int j ∧ R j := ⟨i, rfl, h⟩
theorem sIx_nat {n d i : Nat} (h : i ≤ n) : HT.sIx n d (some (i : Int)) = i := by
  rw [HT.sIx_nat]
  exact Nat.min_eq_left h
theorem sIx_none {n d : Nat} : HT.sIx n d none = d := rfl
theorem w_slTake {i : Nat} (k : Same G H) (h : SqL K H p xs) (hi : i ≤ xs.length) (c : ∀ q G' H', Stp G H G' H' → G' q = some (.lst (xs.take i)) → H q = none → Q (.ref q) H') : rSlL K (.ref p) none (some (i : Int)) H Q := by
  refine ⟨p, xs, rfl, h, ?_⟩
  have e : cutV xs none (some (i : Int)) = xs.take i := by
    unfold cutV
    rw [sIx_nat hi, sIx_none]
    simp
  rw [e]
  exact alloc k c
theorem w_slDrop {i : Nat} (k : Same G H) (h : SqL K H p xs) (hi : i ≤ xs.length) (c : ∀ q G' H', Stp G H G' H' → G' q = some (.lst (xs.drop i)) → H q = none → Q (.ref q) H') : rSlL K (.ref p) (some (i : Int)) none H Q := by
  refine ⟨p, xs, rfl, h, ?_⟩
  have e : cutV xs (some (i : Int)) none = xs.drop i := by
    unfold cutV
    rw [sIx_nat hi, sIx_none]
    exact List.take_of_length_le (by rw [List.length_drop]; omega)
  rw [e]
  exact alloc k c
end

section
variable {K : PySem.W.Frag} {σ : L2.St} {G H : Hp} {Q : VK} {xs : List V} {p : Addr} {v x : V} {to te : TE} {a b c d : Str}
theorem w_M1 {r : V → List V → Hp → VK → Prop} (h : to σ H fun x H1 => (∃ a, x = .str a) ∧ te σ H1 fun y H2 => r x [y] H2 Q) : tM1 r to te σ H Q := h
theorem w_isStr {R : Prop} (h : R) : (∃ a', V.str a = V.str a') ∧ R := ⟨⟨a, rfl⟩, h⟩
theorem w_par {x y z : Str} (k : Same G H) (hb : (b.length == 0) = false) (hl : a.length ≤ 10000000) (e : Txt.partition a b = (x, y, z)) (cc : ∀ p G' H', Stp G H G' H' → G' p = some (.tup [.str x, .str y, .str z]) → Q (.ref p) H') : rPart (.str a) [.str b] H Q := by
  refine ⟨a, b, rfl, rfl, hb, Nat.le_trans hl (by rw [sizeLine_eq]; decide), ?_⟩
  rw [e]
  exact alloc k fun p G' H' s h _ => cc p G' H' s h
theorem w_split {parts : List Str} (k : Same G H) (hb : (b.length == 0) = false) (hl : a.length ≤ 10000000) (e : Txt.split a b = parts) (cc : ∀ p G' H', Stp G H G' H' → G' p = some (.lst (parts.map V.str)) → Q (.ref p) H') : rSplit (.str a) [.str b] H Q := by
  refine ⟨a, b, rfl, rfl, hb, by rw [sizeLine_eq]; omega, ?_⟩
  rw [e]
  exact alloc k fun p G' H' s h _ => cc p G' H' s h
theorem w_join {ys : List Str} (h : SqL K H p (ys.map V.str)) (hl : (ys.map (·.length)).sum + ys.length * a.length ≤ 16777216) (q : Q (.str (Txt.join a ys)) H) : rJoin K (.str a) [.ref p] H Q := ⟨a, p, ys, rfl, rfl, .inl h, hl, q⟩
theorem w_yes {c : Prop} {dc : Decidable c} {A B : Prop} (hc : c) (h : A) : if decide c = true then A else B := by rw [if_pos (decide_eq_true hc)]; exact h
theorem w_no {c : Prop} {dc : Decidable c} {A B : Prop} (hc : ¬ c) (h : B) : if decide c = true then A else B := by rw [if_neg (by rw [decide_eq_false hc]; exact Bool.false_ne_true)]; exact h
theorem w_yesN {c : Prop} {dc : Decidable c} {A B : Prop} (hc : ¬ c) (h : A) : if (!decide c) = true then A else B := by rw [if_pos (by rw [decide_eq_false hc]; rfl)]; exact h
theorem w_noN {c : Prop} {dc : Decidable c} {A B : Prop} (hc : c) (h : B) : if (!decide c) = true then A else B := by rw [if_neg (by rw [decide_eq_true hc]; exact Bool.false_ne_true)]; exact h
theorem w_tupOf {ys : List V} (k : Same G H) (h : SqL K H p ys) (cc : ∀ q G' H', Stp G H G' H' → G' q = some (.tup ys) → Q (.ref q) H') : rTupOf K [.ref p] H Q := ⟨p, ys, rfl, .inl ⟨h, alloc k fun p G' H' s h _ => cc p G' H' s h⟩⟩
theorem w_listOf {ys : List V} (k : Same G H) (h : SqL K H p ys) (cc : ∀ q G' H', Stp G H G' H' → G' q = some (.lst ys) → Q (.ref q) H') : rListOf K [.ref p] H Q := ⟨p, ys, rfl, .inl h, alloc k fun p G' H' s h _ => cc p G' H' s h⟩
end
end BF
/-! List comprehensions and loops over what is known. -/
namespace BF
open PySem PySem.Spec PyProof.Rows L2 TL

/-- what is left of a comprehension, of a for, when its source is known -/
def LcT (J : It) (g : TG) (tt : TT) (te : TE) (vs : List Nat) (σ : L2.St) (H1 : Hp) (Q : VK) : Prop := ∀ D, H1 D = none → ∃ W : Nat → Nat → Hp → Prop, (∃ m, W 0 m (upd H1 D (.lst []))) ∧ ∀ i m H, W i m H →
  (J.stop i H ∧ Q (.ref D) H) ∨ (J.go i H ∧ ∃ Nx : Hp → Prop, (∀ H', Nx H' → ∃ m', m' < m ∧ W (i + 1) m' H') ∧ ∀ x H', J.yld i H x H' → g x (wipe σ vs) H' fun σ2 H2 => wipe σ2 vs = wipe σ vs ∧ tt σ2 H2 fun b H3 =>
    if b = true then te σ2 H3 fun y H4 => ∃ acc, H4 D = some (.lst acc) ∧ acc.length < sizeLine ∧ Nx (upd H4 D (.lst (acc ++ [y]))) else Nx H3)
def ForT (J : It) (g : TG) (tb : TS) (D : Ends) (σ : L2.St) (H : Hp) : Prop := ∃ W : Nat → Nat → L2.St → Hp → Prop, (∃ m, W 0 m σ H) ∧ ∀ i m σ H, W i m σ H →
  (J.stop i H ∧ D.nx σ H) ∨ (J.go i H ∧ ∃ N : L2.St → Hp → Prop, (∀ σ' H', N σ' H' → ∃ m', m' < m ∧ W (i + 1) m' σ' H') ∧ ∀ x H', J.yld i H x H' → g x σ H' fun σ2 H2 => tb { D with nx := N, ct := N, bk := D.nx } σ2 H2)
section
variable {K : PySem.W.Frag} {σ : L2.St} {H : Hp} {Q : VK} {g : TG} {tt : TT} {te tl : TE} {ta : TA} {tb : TS} {D : Ends} {vs : List Nat} {wi : TI} {R : It → Hp → Prop}
theorem w_lc (h : wi σ H fun J H1 => LcT J g tt te vs σ H1 Q) : tLc wi g tt te vs σ H Q := h
theorem w_for (h : wi σ H fun J H1 => ForT J g tb D σ H1) : tFor wi g tb D σ H := h
theorem w_iL (h : tl σ H fun x H1 => ∃ a, x = .ref a ∧ (∃ xs, SqL K H1 a xs) ∧ R (Itl K a) H1) : iList K tl σ H R := h
theorem w_iT (h : tl σ H fun x H1 => ∃ a, x = .ref a ∧ (∃ xs, SqT K H1 a xs) ∧ R (Itt K a) H1) : iTup K tl σ H R := h
theorem w_iS (h : tl σ H fun x H1 => ∃ z, x = .str z ∧ R (Its z) H1) : iStr tl σ H R := h
theorem w_iRev (h : ta σ H fun vs H1 => ∃ (a : Addr) (xs : List V), vs = [.ref a] ∧ SqL K H1 a xs ∧ R (Itv K a xs.length) H1) : iRev K ta σ H R := h
theorem w_iEn (h : ta σ H fun vs H1 => ∃ a xs, vs = [.ref a] ∧ SqL K H1 a xs ∧ R (Ite K a) H1) : iEnum K ta σ H R := h
theorem w_iZip (h : ta σ H fun vs H1 => ∃ a b xs ys, vs = [.ref a, .ref b] ∧ SqL K H1 a xs ∧ SqL K H1 b ys ∧ R (Itz K a b) H1) : iZip K ta σ H R := h
theorem w_iR1 (h : ta σ H fun vs H1 => ∃ j : Int, vs = [.int j] ∧ -(2 ^ 62) ≤ j ∧ j < 2 ^ 62 ∧ R (Itr 0 j.toNat) H1) : iRng1 ta σ H R := h
theorem for_go {J : It} {n : Nat} {Gd : Hp → Prop} {Y : Nat → Hp → V → Hp → Prop} (w : Walk J n Gd Y) (Pv : Nat → L2.St → Hp → Prop) (h0 : Pv 0 σ H) (hG : ∀ i σ H, i ≤ n → Pv i σ H → Gd H)
    (hs : ∀ i x σ H H', i < n → Pv i σ H → Y i H x H' → g x σ H' fun σ2 H2 => tb { D with nx := Pv (i + 1), ct := Pv (i + 1), bk := D.nx } σ2 H2) (hd : ∀ σ H, Pv n σ H → D.nx σ H) : ForT J g tb D σ H := for_it w Pv h0 hG hs hd
end
theorem wipe1 {σ : L2.St} {i : Nat} {o : Option V} : wipe ((wipe σ [i]).set i o) [i] = wipe σ [i] := by
  show ((σ.set i none).set i o).set i none = σ.set i none
  rw [List.set_set, List.set_set]
theorem wipe2 {σ : L2.St} {i j : Nat} {o u : Option V} (h : i ≠ j) : wipe (((wipe σ [i, j]).set i o).set j u) [i, j] = wipe σ [i, j] := by
  show (((((σ.set j none).set i none).set i o).set j u).set j none).set i none = (σ.set j none).set i none
  rw [List.set_set, List.set_set, List.set_comm _ _ h, List.set_set, List.set_set]
theorem range_succ_fm {β : Type} (out : Nat → Option β) (i : Nat) : (List.range (i + 1)).filterMap out = (List.range i).filterMap out ++ (out i).toList := by
  rw [List.range_succ, List.filterMap_append]
  cases h : out i <;> simp [h]
theorem lc_go {β : Type} {R : Hp → V → β → Prop} [Mono R] {J : It} {n : Nat} {Gd : Hp → Prop} {Y : Nat → Hp → V → Hp → Prop} {g : TG} {tt : TT} {te : TE} {vs : List Nat} {σ : L2.St} {G H1 : Hp} {Q : VK} (w : Walk J n Gd Y) (k : Same G H1) (out : Nat → Option β) (hn : n ≤ 1000)
    (hG : ∀ G' H', Same G G' → Same G' H' → Gd H')
    (hs : ∀ (i : Nat) (x : V) (G1 H2 H3 : Hp) (C : V → Hp → Prop) (C0 : Hp → Prop), i < n → Same G G1 → Same G1 H2 → Y i H2 x H3 → (∀ y b G4 H4, out i = some b → Stp G1 H2 G4 H4 → R G4 y b → C y H4) → (∀ G4 H4, out i = none → Stp G1 H2 G4 H4 → C0 H4) →
      g x (wipe σ vs) H3 fun σ2 H5 => wipe σ2 vs = wipe σ vs ∧ tt σ2 H5 fun b H6 => if b = true then te σ2 H6 C else C0 H6)
    (hd : ∀ (p : Addr) (xs : List V) (G' H' : Hp), Stp G H1 G' H' → G' p = some (.lst xs) → Paired (R G') xs ((List.range n).filterMap out) → Q (.ref p) H') :
    LcT J g tt te vs σ H1 Q := by
  intro D hD
  refine lc_it w (fun i H => ∃ xs G', Acc G H1 D xs G' H ∧ Paired (R G') xs ((List.range i).filterMap out)) ⟨[], G, Acc.start k hD, .nil⟩ ?_ ?_ ?_
  · rintro i H _ ⟨xs, G', a, _⟩
    exact hG G' H a.g a.k
  · rintro i x H H' hi ⟨xs, G', a, pr⟩ hY
    refine hs i x G' H H' _ _ hi a.g a.k hY (fun y b G4 H4 e s r => ?_) (fun G4 H4 e s => ?_)
    · have a2 := a.step s
      refine ⟨xs, a2.at_, ?_, xs ++ [y], G4, a2.push, ?_⟩
      · have e1 := paired_len pr
        have e2 := List.length_filterMap_le out (List.range i)
        rw [List.length_range] at e2
        rw [sizeLine_eq]
        omega
      · rw [range_succ_fm, e]
        exact paired_app (paired_up s.g pr) (.cons r .nil)
    · refine ⟨xs, G4, a.step s, ?_⟩
      rw [range_succ_fm, e]
      show Paired (R G4) xs (_ ++ [])
      rw [List.append_nil]
      exact paired_up s.g pr
  · rintro H ⟨xs, G', a, pr⟩
    exact hd D xs _ H a.done upd_same (paired_up (same_new a.gd) pr)
/-- .. without a test, each item made -/
theorem lc_map {β : Type} {R : Hp → V → β → Prop} [Mono R] {J : It} {n : Nat} {Gd : Hp → Prop} {Y : Nat → Hp → V → Hp → Prop} {g : TG} {te : TE} {vs : List Nat} {σ : L2.St} {G H1 : Hp} {Q : VK} (w : Walk J n Gd Y) (k : Same G H1) (out : Nat → β) (hn : n ≤ 1000)
    (hG : ∀ G' H', Same G G' → Same G' H' → Gd H')
    (hs : ∀ (i : Nat) (x : V) (G1 H2 H3 : Hp) (C : V → Hp → Prop), i < n → Same G G1 → Same G1 H2 → Y i H2 x H3 → (∀ y G4 H4, Stp G1 H2 G4 H4 → R G4 y (out i) → C y H4) →
      g x (wipe σ vs) H3 fun σ2 H5 => wipe σ2 vs = wipe σ vs ∧ te σ2 H5 C)
    (hd : ∀ (p : Addr) (xs : List V) (G' H' : Hp), Stp G H1 G' H' → G' p = some (.lst xs) → Paired (R G') xs ((List.range n).map out) → Q (.ref p) H') :
    LcT J g tYes te vs σ H1 Q := by
  have e : ∀ n, (List.range n).filterMap (fun i => some (out i)) = (List.range n).map out := fun n => by
    rw [← List.filterMap_eq_map]
    rfl
  refine lc_go (R := R) w k (fun i => some (out i)) hn hG (fun i x G1 H2 H3 C C0 hi h1 h2 hY hC _ => ?_) (fun p xs G' H' s h r => hd p xs G' H' s h (by rw [e] at r; exact r))
  exact hs i x G1 H2 H3 C hi h1 h2 hY fun y G4 H4 s r => hC y (out i) G4 H4 rfl s r
theorem map_range {α β : Type} (l : List α) (d : α) (f : α → β) : (List.range l.length).map (fun i => f (l.getD i d)) = l.map f := by
  refine List.ext_getElem (by simp) fun i h1 h2 => ?_
  simp at h1 h2
  simp [h1]
end BF
/-! Texts: numbers, parts, joins. -/
namespace BF
open PySem L2 TL

theorem app_assoc (a b c : Str) : a ++ b ++ c = a ++ (b ++ c) := ext_tl (by rw [tl_append, tl_append, tl_append, tl_append, List.append_assoc])
theorem app_len (a b : Str) : (a ++ b).length = a.length + b.length := by rw [len_tl, tl_append, List.length_append, ← len_tl, ← len_tl]
theorem tl_nn (n : Nat) : tl (numT (n : Int)) = numL n := tl_num n
theorem num_nat {n : Int} (h : 0 ≤ n) : numT n = numT ((n.toNat : Nat) : Int) := by rw [Int.toNat_of_nonneg h]
theorem num_free {n : Int} {s : Nat} (h0 : 0 ≤ n) (h : s < 48 ∨ 57 < s) : s ∉ tl (numT n) := by
  rw [num_nat h0, tl_nn]
  exact numL_free h
theorem lt100 {n : Int} (h0 : 0 ≤ n) (h : n < 100) : ∃ m : Nat, m < 100 ∧ n = (m : Int) := ⟨n.toNat, by omega, by omega⟩
theorem num100 : ∀ n, n < 100 → ((numL n).length = 1 ∨ ((numL n).length = 2 ∧ (numL n).head? ≠ some 48)) ∧ (∀ c ∈ numL n, c ∈ ([48, 49, 50, 51, 52, 53, 54, 55, 56, 57] : List Nat)) ∧ ((numL n).head? = some 48 → n = 0) := by decide +kernel
theorem num_len {n : Int} (h0 : 0 ≤ n) (h : n < 100) : 1 ≤ (numT n).length ∧ (numT n).length ≤ 2 := by
  obtain ⟨m, hm, rfl⟩ := lt100 h0 h
  rw [len_tl, tl_nn]
  rcases (num100 m hm).1 with e | ⟨e, _⟩ <;> omega
theorem num_int {n : Int} (h0 : 0 ≤ n) (h : n < 100) : PySem.intText? (numT n) = some n := by
  obtain ⟨m, hm, rfl⟩ := lt100 h0 h
  refine int_num ?_
  rcases (num100 m hm).1 with e | ⟨e, _⟩ <;> omega
theorem tl_figs : tl ("0123456789" : Str) = [48, 49, 50, 51, 52, 53, 54, 55, 56, 57] := by decide +kernel
theorem num_figs {n : Int} (h0 : 0 ≤ n) (h : n < 100) {c : Nat} (hc : c ∈ tl (numT n)) : c ∈ tl ("0123456789" : Str) := by
  obtain ⟨m, hm, rfl⟩ := lt100 h0 h
  rw [tl_nn] at hc
  rw [tl_figs]
  exact (num100 m hm).2.1 c hc
theorem num_head {n : Int} (h0 : 0 ≤ n) (h : n < 100) (hl : 1 < (numT n).length) {c : Nat} (hc : (tl (numT n))[0]? = some c) : c ≠ 48 := by
  obtain ⟨m, hm, rfl⟩ := lt100 h0 h
  rw [len_tl, tl_nn] at hl
  rw [tl_nn] at hc
  rcases (num100 m hm).1 with e | ⟨_, e⟩
  · omega
  · rintro rfl
    rw [List.head?_eq_getElem?] at e
    exact e hc
theorem num_log {n : Int} (h0 : 0 ≤ n) (h : n < 100000) : n.natAbs.log2 < 1920 := by
  have : n.natAbs.log2 ≤ n.natAbs := Nat.log2_le_self _
  by_cases hz : n.natAbs = 0
  · rw [hz]; decide
  · have h2 : n.natAbs.log2 < 17 := (Nat.log2_lt hz).mpr (by omega)
    omega

/-! ### one sign that parts -/
theorem tl_x : tl ("x" : Str) = [120] := by decide +kernel
theorem tl_plus : tl ("+" : Str) = [43] := by decide +kernel
theorem tl_colon : tl (":" : Str) = [58] := by decide +kernel
theorem tl_dot : tl ("." : Str) = [46] := by decide +kernel
theorem tl_blank : tl (" " : Str) = [32] := by decide +kernel
theorem tl_slash : tl ("/" : Str) = [47] := by decide +kernel
theorem tl_semi : tl ("; " : Str) = [59, 32] := by decide +kernel
theorem part_at {y a b : Str} {s : Nat} (ey : tl y = [s]) (h : s ∉ tl a) : Txt.partition (a ++ (y ++ b)) y = (a, y, b) := by
  rw [← app_assoc]
  exact partition_app ey h
theorem part_lay (y : Lay) (hu : 0 ≤ y.u) : Txt.partition y.text "x" = (numT y.u, ("x" : Str), numT y.w ++ ("+" ++ (numT y.l ++ (":" ++ numT y.b)))) := by
  unfold Lay.text
  simp only [app_assoc]
  exact part_at tl_x (num_free hu (by decide))
theorem part_lay2 (y : Lay) (hw : 0 ≤ y.w) : Txt.partition (numT y.w ++ ("+" ++ (numT y.l ++ (":" ++ numT y.b)))) "+" = (numT y.w, ("+" : Str), numT y.l ++ (":" ++ numT y.b)) :=
  part_at tl_plus (num_free hw (by decide))
theorem part_lay3 (y : Lay) (hl : 0 ≤ y.l) : Txt.partition (numT y.l ++ (":" ++ numT y.b)) ":" = (numT y.l, (":" : Str), numT y.b) :=
  part_at tl_colon (num_free hl (by decide))
theorem part_rod (s : Rod) (h : 0 ≤ s.1) : Txt.partition (rodT s) "." = (numT s.1, ("." : Str), numT s.2) := by
  unfold rodT
  rw [app_assoc]
  exact part_at tl_dot (num_free h (by decide))
end BF
/-! The program's classes: what is asked of them, their instances. -/
namespace BF
open PySem PySem.Spec PyProof.Rows L2 TL

/-- what isinstance asks of a class besides -/
structure IsiC (K : PySem.W.Frag) (C : Addr) : Prop where
  ha : PySem.W.findIn K (.ref C) "__class__" = some (some (.builtin "object.__class__"))
  hn : PySem.W.specialIn K (.builtin "object.__class__") "__get__" = some (some (.builtin "getset_descriptor.__get__"))
  htk : PySem.W.takesIn K (.builtin "object.__class__") = some true
  hm : PySem.W.mroIn K C (.type "object") = some true
structure Cla (K : PySem.W.Frag) (mg : Str → Option Value) (A : Adr) : Prop where
  mcl : ∀ k, Cls K (A.mv k)
  mRod : ∀ k, NoAttr K (A.mv k) "rod"
  mBeads : ∀ k, NoAttr K (A.mv k) "beads"
  mIs : ∀ k, IsiC K (A.mv k)
  kit : ∀ k j, PySem.W.kitOne K (.ref (A.mv k)) (.ref (A.mv j)) = some (decide (k = j))
  gUp : GC mg "Up" (.ref (A.mv .up))
  gDown : GC mg "Down" (.ref (A.mv .down))
  gPut : GC mg "Put" (.ref (A.mv .put))
  gTake : GC mg "Take" (.ref (A.mv .take))
  kcl : Cls K A.kept
  kF : NoAttr K A.kept "frame"
  kS : NoAttr K A.kept "standing"
  kP : NoAttr K A.kept "pushed"
  dcl : Cls K A.desk
  dH : NoAttr K A.desk "held"

/-! ### fields -/
theorem s_ne {a b : Str} (h : (a == b) = false) : a ≠ b := by
  intro e
  subst e
  simp at h
def mvF (m : Mv) : List (Str × V) := [("rod", .int m.rod), ("beads", .int m.beads)]
theorem mv_rod (m : Mv) : (mvF m).lookup ("rod" : Str) = some (V.int m.rod) := by simp [mvF, List.lookup]
theorem mv_beads (m : Mv) : (mvF m).lookup ("beads" : Str) = some (V.int m.beads) := by
  have e : (("beads" : Str) == "rod") = false := by decide +kernel
  simp [mvF, List.lookup, e]
theorem mv_no (m : Mv) {x : Str} (h1 : (x == ("rod" : Str)) = false) (h2 : (x == ("beads" : Str)) = false) : (mvF m).lookup x = none := by simp [mvF, List.lookup, h1, h2]
theorem putF2 (a b : V) : putF "beads" b (putF "rod" a []) = [(("rod" : Str), a), ("beads", b)] := by
  have e : ¬ (("rod" : Str) = "beads") := by decide +kernel
  show putF "beads" b [("rod", a)] = _
  show (if ("rod" : Str) = "beads" then _ else _) = _
  rw [if_neg e]
  rfl
/-- a Move object -/
def RMv (A : Adr) (G : Hp) (v : V) (m : Mv) : Prop := ∃ a dx, v = .ref a ∧ G a = some (.ins (A.mv m.k) dx (mvF m))
instance {A : Adr} : Mono (RMv A) := ⟨fun s ⟨a, dx, e, h⟩ => ⟨a, dx, e, s _ _ h⟩⟩
abbrev RRow (A : Adr) : Hp → V → List Mv → Prop := RLst (RMv A)
/-- a slip: a tuple of place, word, move or None -/
def RSlip (A : Adr) (G : Hp) (v : V) (s : Slip) : Prop := ∃ p x, v = .ref p ∧ G p = some (.tup [.int s.at_, .str s.word, x]) ∧ ROpt (RMv A) G x s.mv
instance {A : Adr} : Mono (RSlip A) := ⟨fun s ⟨p, x, e, h, r⟩ => ⟨p, x, e, s _ _ h, up (R := ROpt (RMv A)) r s⟩⟩

section
variable {K : PySem.W.Frag} {mg : Str → Option Value} {A : Adr} {σ : L2.St} {G H H1 : Hp} {Q : VK} {ta : TE} {x dx a C : Addr} {fs : List (Str × V)} {f : Str} {v : V} {m : Mv} {o o0 : HO}
def FldT (K : PySem.W.Frag) (f : Str) (x : V) (H1 : Hp) (Q : VK) : Prop := ∃ a C dx fs v, x = .ref a ∧ H1 a = some (.ins C dx fs) ∧ Cls K C ∧ NoAttr K C f ∧ fs.lookup f = some v ∧ Q v H1
theorem w_fld (h : ta σ H fun x H1 => FldT K f x H1 Q) : tFld K ta f σ H Q := h
theorem w_fldAt (h : H a = some (.ins C dx fs)) (c : Cls K C) (n : NoAttr K C f) (l : fs.lookup f = some v) (q : Q v H) : FldT K f (.ref a) H Q := ⟨a, C, dx, fs, v, rfl, h, c, n, l, q⟩
theorem w_rod (T : Cla K mg A) (h : H a = some (.ins (A.mv m.k) dx (mvF m))) (q : Q (.int m.rod) H) : FldT K "rod" (.ref a) H Q := w_fldAt h (T.mcl _) (T.mRod _) (mv_rod m) q
theorem w_beads (T : Cla K mg A) (h : H a = some (.ins (A.mv m.k) dx (mvF m))) (q : Q (.int m.beads) H) : FldT K "beads" (.ref a) H Q := w_fldAt h (T.mcl _) (T.mBeads _) (mv_beads m) q
theorem w_meth {m : Str} {sp : Sp} {E : XK} {t : TA} (h : ta σ H fun x H1 => ∃ a dx fs, x = .ref a ∧ H1 a = some (.ins C dx fs) ∧ fs.lookup m = none ∧ t σ H1 fun vs H2 => sp (x :: (vs ++ [])) H2 Q E) : tMeth C m sp [] E ta t σ H Q := h
def MakeT (C : Addr) (sp : Sp) (E : XK) (Q : VK) (vs : List V) (H1 : Hp) : Prop := ∀ x dx, H1 x = none → H1 dx = none → dx ≠ x →
  sp (.ref x :: (vs ++ [])) (upd (upd H1 dx (.own x)) x (.ins C dx [])) (fun v H2 => v = .non ∧ Q (.ref x) H2) E
theorem w_make {sp : Sp} {E : XK} {t : TA} (h : t σ H (MakeT C sp E Q)) : tMake C sp [] E t σ H Q := h
/-- a new instance, whole, known from now on -/
theorem made_stp (k : Same G H) (hx : H x = none) (hd : H dx = none) (ne : dx ≠ x) : Stp G H (upd G x o) (upd (upd (upd H dx (.own x)) x o0) x o) := by
  rw [upd_upd]
  refine (Stp.hid k hd).trans (Stp.new (k.trans (same_new hd)) ?_)
  rw [upd_ne (Ne.symm ne)]
  exact hx
/-- a move's own __init__ -/
def spMvI (A : Adr) : Sp := fun vs H Q _ => ∃ (k : K4) (x dx : Addr) (r b : Int), vs = [.ref x, .int r, .int b] ∧ H x = some (.ins (A.mv k) dx []) ∧ Q .non (upd H x (.ins (A.mv k) dx [("rod", .int r), ("beads", .int b)]))
theorem w_makeMv {E : XK} {k : K4} {r b : Nat} (ks : Same G H) (c : ∀ v G' H', Stp G H G' H' → RMv A G' v ⟨k, r, b⟩ → Q v H') : MakeT (A.mv k) (spMvI A) E Q [.int r, .int b] H := by
  intro x dx hx hd ne
  refine ⟨k, x, dx, r, b, rfl, upd_same, rfl, ?_⟩
  exact c _ _ _ (made_stp ks hx hd ne) ⟨x, dx, rfl, upd_same⟩
/-- isinstance(move, class of moves) -/
theorem w_isMv (T : Cla K mg A) {k : K4} (h : H a = some (.ins (A.mv m.k) dx fs)) (q : Q (.bl (decide (m.k = k))) H) : rIsi K [.ref a, .ref (A.mv k)] H Q :=
  ⟨_, _, _, _, _, rfl, .own _, .base (.ins h (T.mcl m.k) (T.mIs m.k).ha (T.mIs m.k).hn (T.mIs m.k).htk (T.mIs m.k).hm), T.kit m.k k, q⟩
end

/-! ### FrameError.__init__(self, ..) -/
section
variable {X : Cx} {e : Expr} {es : List Expr} {ta : TA} {p1 p2 pos : Pos}
theorem pe_feinit {pl : Sem Bool} {C0 : Addr} {mc : Value} (hg : Gl X "FrameError") (hm : X.mg "FrameError" = some (.ref C0)) (r : ClX.CRead X.K C0 mc) (vV : PySem.W.findCls X.K (.ref C0) mc "__init__" = some (.val (.builtin "ValueError.__init__"))) (ha : PA X (e :: es) ta)
    (hc : eval (.Call (.Attribute (.Name "FrameError" p1) "__init__" p2) (e :: es) [] pos) X.env = (do
      let ov ← eval (.Name "FrameError" p1) X.env
      standAt p2.atName
      let (f, first) ← holding [ov] (getMethod ov "__init__" pl)
      callWith pos f first (backTo pos (starEach (e :: es) X.env)) (backToKw pos (keywordEach [] X.env))) := by rfl)
    (he : starEach (e :: es) X.env = (false, eval e X.env) :: starEach es X.env := by rfl) (hpl : (backTo pos (starEach es X.env)).any (·.1) = false := by rfl) :
    PE X (.Call (.Attribute (.Name "FrameError" p1) "__init__" p2) (e :: es) [] pos) (tVeI X.K ta) := by
  refine ⟨fun pins s σ H Q I h => ?_⟩
  refine PySem.W.methodCall_KW (ld_glob I hg hm ?_ (by decide)) hc
  refine PySem.W.method_cls I.kIn r.ga (PySem.W.cls_value I.kIn r.rd vV (by decide +kernel) ?_)
  show wpAny _ _ (callWith pos (Value.builtin "ValueError.__init__") [] (backTo pos (starEach (e :: es) X.env)) []) _ _ _
  refine PyProof.Rows.callWith_method1 (thn (ha.run pos pins _ σ H _ (I.tok _) h) fun us s1 hh => ?_) he hpl
  obtain ⟨vs, H1, I1, r1, a, C, ws, ev, hl, T, ea, q⟩ := hh
  subst ev
  cases r1 with
  | @cons _ u0 _ ur ra rw' =>
    have e0 : u0 = Value.ref a := ra
    subst e0
    have hlen : ur.length ≤ sizeLine := by
      rw [← Paired.length rw', sizeLine_eq]
      omega
    exact oinit_ok T I1 ea hlen fun s' J => ⟨.non, H1, J, rfl, q⟩
end
end BF
/-! except X as n: a suite that raises. -/
namespace BF
open PySem PySem.Spec PyProof.Rows L2 TL HotX

/-- the context of such a suite -/
abbrev suX (X : Cx) (a : Addr) (pn : List (Addr × Obj)) (xe : Value → Shared → Prop) : Cx := { X with A := X.A.mark (some (.ref a)), calm := false, pn := pn, xe := xe }
/-- what is left to do when the suite raises -/
def asXe (X : Cx) (a : Addr) (n : Str) (pos : Pos) : Value → Shared → Prop := fun x s₃ =>
  wpAny (model X.prog X.w) (X.A.mark (some (.ref a))) (noteFrame x X.env) (fun _ s₄ =>
    wpAny (model X.prog X.w) (X.A.mark (some (.ref a))) (do bindName X.env n .none; unbindBehindTheSuite X.env n pos)
      (fun _ s₅ => wpAny (model X.prog X.w) (X.A.mark (some (.ref a))) (passOn "try.except-as" x X.env : Sem Flow) (fun _ _ => False) (notedBy (model X.prog X.w) (X.A.mark (some (.ref a))) X.env (cameBackBy (model X.prog X.w) X.A X.env X.xe)) s₅)
      (fun y s₅ => wpAny (model X.prog X.w) (X.A.mark (some (.ref a))) (setFlight x none) (fun _ s₆ => notedBy (model X.prog X.w) (X.A.mark (some (.ref a))) X.env (cameBackBy (model X.prog X.w) X.A X.env X.xe) y s₆) (notedBy (model X.prog X.w) (X.A.mark (some (.ref a))) X.env (cameBackBy (model X.prog X.w) X.A X.env X.xe)) s₅) s₄)
    (notedBy (model X.prog X.w) (X.A.mark (some (.ref a))) X.env (cameBackBy (model X.prog X.w) X.A X.env X.xe)) s₃
section
variable {X : Cx} {pins : List (Addr × Obj)} {σ : L2.St} {H : Hp} {s : Shared} {i : Nat} {n : Str}
theorem unsuX {a : Addr} {q : Addr × Obj} {pn' : List (Addr × Obj)} {xe : Value → Shared → Prop} (I : Inv (suX X a (q :: (X.pn ++ pins)) xe) pn' σ H s) (ok : X.Ok) : Inv X pins σ H s :=
  ⟨ok, I.os, I.bare, I.base, I.loc, I.cell, I.free, I.freeC, fun p hp => I.pin p (List.mem_append_left _ (List.mem_cons_of_mem _ hp)), I.hok, I.len⟩
theorem toSuX {a : Addr} {pn pn' : List (Addr × Obj)} {xe : Value → Shared → Prop} (I : Inv (X.suite a pn) pn' σ H s) : Inv (suX X a pn xe) pn' σ H s := Inv.unwish (X := suX X a pn xe) (E := fun _ _ => False) I
/-- a state in which the name's slot is empty, all else as it was -/
theorem inv_gone (I : Inv X pins σ H s) (hN : X.N.Nodup) (hi : X.N[i]? = some n) : ∃ m, s.heap.Ns X.env.locals m ∧ ∀ (h' : Heap) (v : Option Value) (t' : Nat), h'.Ns X.env.locals (fun y => if y = n then v else m y) →
    (∀ b, b ≠ X.env.locals → h'.get? b = s.heap.get? b) → Inv X pins (σ.set i none) H { s with heap := h', toks := t' } := by
  obtain ⟨m, hn, hlk⟩ := id I.loc
  refine ⟨m, hn, fun h' v t' hn' hs => ?_⟩
  have nL : ∀ {b : Addr} {o : Obj}, X.s_0.heap.get? b = some o → b ≠ X.env.locals := fun {b o} e => Nat.ne_of_lt (Nat.lt_of_lt_of_le (Heap.lt_size e) I.ok.above)
  have cel : ∀ {c : Addr} {u : Option Value} {y : Str}, X.env.cells.lookup y = some c → s.heap.IsCell c u → h'.IsCell c u := fun {c u y} e z => by
    obtain ⟨o, e1, e2⟩ := z
    exact ⟨o, (hs c (I.cne y c e)).trans e1, e2⟩
  refine { ok := I.ok, os := I.os, bare := I.bare, base := ?_, loc := ⟨_, hn', ?_⟩, cell := ?_, free := I.free, freeC := I.freeC, pin := ?_, hok := ?_, len := by rw [List.length_set]; exact I.len }
  · have U := I.base
    refine { keep := ?_, slot := ?_, free := U.free, there := ?_, tups := U.tups, frzs := U.frzs, tbls := U.tbls }
    · intro b o e e1 e2 e3
      rw [hs b (nL e)]
      exact U.keep b o e e1 e2 e3
    · intro b o e e1 e2 e3
      rw [hs b (nL e)]
      exact U.slot b o e e1 e2 e3
    · intro b o e e1
      rw [hs b (nL e)]
      exact U.there b o e e1
  · intro j y u e1 e2 e3
    have hji : j ≠ i := by
      rintro rfl
      rw [List.getElem?_set] at e2
      simp at e2
    rw [List.getElem?_set_ne (Ne.symm hji)] at e2
    obtain ⟨u', r, q⟩ := hlk j y u e1 e2 e3
    refine ⟨u', r, ?_⟩
    rcases q with ⟨k, e⟩ | ⟨k, c, e, z⟩
    · have hy : y ≠ n := by
        rintro rfl
        exact hji (nodup_ix hN e1 hi)
      exact .inl ⟨k, (if_neg hy).trans e⟩
    · exact .inr ⟨k, c, e, cel e z⟩
  · intro y c e
    obtain ⟨u, z⟩ := I.cell y c e
    exact ⟨u, cel e z⟩
  · intro p hp
    obtain ⟨e1, e2, e3, e4, e5⟩ := I.pin p hp
    exact ⟨(hs p.1 e3).trans e1, e2, e3, e4, e5⟩
  · intro b o e
    refine (I.hok b o e).stay (fun c u hc q => ?_) (fun _ q => q) fun _ _ q => q
    have hcL : c ≠ X.env.locals := by
      rintro rfl
      rcases hc with hc | hc
      · rw [← hc, I.free] at e; cases e
      · rw [I.free] at hc; cases hc
    rw [hs c hcL]
    exact q
end
/-- noted by the frame, and held there -/
theorem sky_held {M : Model} {A : Around} {E₁ : Value → Shared → Prop} {s : Shared} {B : Heap} {env : Env} {outer : List Env} {L a : Addr} {Z : Obj → Prop} {Q : Unit → Shared → Prop} (hZ : HandSPX.Steady Z) (hfr : A.frames = some (env :: outer)) (hf : env.frame = some L)
    (x : Sky B (env :: outer) a Z L s.heap) (hQ : ∀ h', HandSPX.HeldZ B (env :: outer) a Z L h' → s.heap.UpToSlots h' → Q () { s with heap := h' }) : wpAny M A (noteFrame (.ref a) env) Q E₁ s := by
  rcases x with ⟨k1, k2, k3, oe, vs, k4, k5, k6, k7⟩ | fl | hh
  · exact HandSPX.look_newZ hZ hfr k3 hf k4 k1 k2 k6 k7 k5 hQ
  · exact HandSPX.looks_onZ hZ hfr hf fl hQ
  · exact HandSPX.againZ hf hh.2.2.2 (hQ s.heap hh (Heap.UpToSlots.refl _))
section
variable {X : Cx} {pins : List (Addr × Obj)} {i : Nat} {n : Str} {Wout : WX} {a : Addr} {q : Addr × Obj} {pos : Pos}
theorem takes_as (ok : X.Ok) (hs : X.stack = X.env :: X.outer) (hf : X.env.frame = some X.env.locals) (hN : X.N.Nodup) (hi : X.N[i]? = some n) (hl : X.env.kindOf n = some .local)
    (hpa : ∀ hd : Option Value, PassesOwnAt (model X.prog X.w) (X.A.mark hd) X.A X.env X.xe) (tk : Takes X Wout) :
    Takes (suX X a (q :: (X.pn ++ pins)) (asXe X a n pos)) (fun cls d σ H => Wout cls d (σ.set i none) H) := by
  intro u s' xx
  obtain ⟨e, B, sI, pn2, σ, H, cls, d, rfl, I2, nb, up, sky, na, os, ag, w⟩ := xx
  have J : Inv X pins σ H sI := unsuX I2 ok
  have hfr : (X.A.mark (some (.ref a))).frames = some (X.env :: X.outer) := by
    show X.A.frames = _
    rw [ok.frames, hs]
  have sky' : Sky B (X.env :: X.outer) e (Zc cls d) X.env.locals s'.heap := by rw [← hs]; exact sky
  have Lin : X.env.locals ∈ frs X.stack := by
    rw [hs]
    exact List.mem_filterMap.mpr ⟨X.env, List.mem_cons_self, hf⟩
  show wpAny (model X.prog X.w) (X.A.mark (some (.ref a))) (noteFrame (.ref e) X.env) _ _ s'
  refine sky_held Zc.steady hfr hf sky' fun h3 hh3 up3 => ?_
  have dom : ∀ {b : Addr}, ((B.get? b).isSome || decide (b ∈ frs X.stack)) = true ↔ ((∃ o, B.get? b = some o) ∨ b ∈ frs X.stack) := fun {b} => by
    rw [Bool.or_eq_true, Option.isSome_iff_exists, decide_eq_true_iff]
  obtain ⟨G3, g3, z3⟩ := restrict h3 fun b => (B.get? b).isSome || decide (b ∈ frs X.stack)
  have in3 : ∀ {b : Addr} {o : Obj}, sI.heap.get? b = some o → G3.get? b = h3.get? b := fun {b o} z => g3 b (dom.mpr (by
    by_cases hb : b ∈ frs X.stack
    · exact .inr hb
    · exact .inl ⟨o, nb b o z hb⟩))
  have up' : sI.heap.UpToSlots h3 := up.trans up3
  -- the state without the exception
  have J3 : Inv X pins σ H { sI with heap := G3, gens := s'.gens, drawn := s'.drawn, toks := s'.toks } := by
    have sl : ∀ b ∈ frs X.stack, ∀ o, sI.heap.get? b = some o → ∃ sl, G3.get? b = some { o with slots := sl } := fun b hb o z => by
      obtain ⟨_, o', e', hd⟩ := J.stack.mem hb
      rw [z] at e'; cases e'
      rw [in3 z]
      exact up' b o z hd
    have sb : ∀ b o, B.get? b = some o → G3.get? b = some o := fun b o z => by
      rw [g3 b (dom.mpr (.inl ⟨o, z⟩))]
      exact hh3.1 b o z
    exact J.call (ch := []) (H' := H) ⟨fun b o z _ hb _ => sb b o (nb b o z hb), fun b o z _ hb _ => sl b hb o z, fun _ _ _ n _ => n, fun b o z _ => by
        by_cases hb : b ∈ frs X.stack
        · obtain ⟨y, e1⟩ := sl b hb o z
          exact ⟨_, e1⟩
        · exact ⟨o, sb b o (nb b o z hb)⟩, fun _ _ z => z, fun _ _ _ z => z, fun b ps z => ⟨#[], by rw [z]; simp⟩⟩
      ((J.inGround nb).kept sb) ag (fun _ z => nomatch z)
  obtain ⟨m, hn, gone⟩ := inv_gone J3 hN hi
  have eL : G3.get? X.env.locals = h3.get? X.env.locals := g3 _ (dom.mpr (.inr Lin))
  have hn3 : h3.Ns X.env.locals m := by
    obtain ⟨o, es, ep, e1, r⟩ := hn
    exact ⟨o, es, ep, eL.symm.trans e1, r⟩
  have hcls : (X.env.scope.kind == .class || (X.env.scope.kind == .module && X.env.locals != X.env.globals)) = false := by rw [ok.kind]; rfl
  refine wpAny_nameGoes_keeps (s := { s' with heap := h3 }) hl hn3 hcls fun h4 v hn4 hs4 => ?_
  obtain ⟨G4, g4, z4⟩ := restrict h4 fun b => (B.get? b).isSome || decide (b ∈ frs X.stack)
  have J4 := gone G4 v (s'.toks + 1) (by
      obtain ⟨o, es, ep, e1, r⟩ := hn4
      exact ⟨o, es, ep, (g4 _ (dom.mpr (.inr Lin))).trans e1, r⟩) (fun b hb => by
    show G4.get? b = G3.get? b
    cases hp : ((B.get? b).isSome || decide (b ∈ frs X.stack)) with
    | true => rw [g4 b hp, g3 b hp]; exact hs4.2 b hb
    | false => rw [z4 b hp, z3 b hp])
  -- what is held stays held
  obtain ⟨k1, k2, k3, oe, vs, T, oT, ts, he, hz, hd, h1, hnT, hTe, hT, hdT, hfl⟩ := hh3
  obtain ⟨oL, esL, epL, hoL, hdL, _⟩ := id hn3
  have neE : e ≠ X.env.locals := by
    rintro rfl
    rw [hoL] at he; cases he
    rw [hdL] at hd; cases hd
  have neT : T ≠ X.env.locals := by
    rintro rfl
    rw [hoL] at hT; cases hT
    rw [hdL] at hdT; cases hdT
  have bL : B.get? X.env.locals = none := by
    obtain ⟨_, ⟨L', o', f1, f2, _⟩, _⟩ := k3
    rw [hf] at f1; cases f1
    exact f2
  have hh4 : HandSPX.HeldZ B (X.env :: X.outer) e (Zc cls d) X.env.locals h4 := by
    refine ⟨fun b o z => ?_, k2, Heap.FunFrames.sameBut hs4 hn4 k3, oe, vs, T, oT, ts, (hs4.2 e neE).trans he, hz, hd, h1, hnT, hTe, (hs4.2 T neT).trans hT, hdT, hfl⟩
    have hb : b ≠ X.env.locals := by
      rintro rfl
      rw [bL] at z; cases z
    exact (hs4.2 b hb).trans (k1 b o z)
  obtain ⟨c1, c2, c3, oe4, vs4, T4, oT4, ts4, he4, hz4, hd4, h14, hnT4, hTe4, hT4, hdT4, hfl4⟩ := id hh4
  show wpAny _ _ (passOn "try.except-as" (.ref e) X.env : Sem Flow) _ _ _
  unfold PySem.passOn
  refine wpAny_bind (wpAny_field he4 hd4 h14 ?_)
  rw [if_neg (show ¬ ((Value.ref T4 == Value.none) = true) from by simp)]
  have fin : wpAny (model X.prog X.w) (X.A.mark (some (.ref a))) (setFlight (.ref e) X.env.frame) (fun _ s4 => wpAny (model X.prog X.w) (X.A.mark (some (.ref a))) (throw (.ref e) : Sem Flow) (fun _ _ => False) (notedBy (model X.prog X.w) (X.A.mark (some (.ref a))) X.env (cameBackBy (model X.prog X.w) X.A X.env X.xe)) s4)
      (notedBy (model X.prog X.w) (X.A.mark (some (.ref a))) X.env (cameBackBy (model X.prog X.w) X.A X.env X.xe)) { s' with heap := h4, toks := s'.toks + 1 } := by
    rw [hf]
    refine HandSPX.setFlight_onZ hh4 fun h5 hh5 up5 => wpAny_throw (hpa (some (.ref a)) _ _ (tk _ _ ?_))
    refine ⟨e, B, _, pins, σ.set i none, H, cls, d, rfl, J4, fun b o z hb => ?_, ?_, .inr (.inr (by rw [hs]; exact hh5)), na, os, ag, w⟩
    · cases hp : ((B.get? b).isSome || decide (b ∈ frs X.stack)) with
      | false =>
        have z' : G4.get? b = some o := z
        rw [z4 b hp] at z'; cases z'
      | true =>
        have z' : G4.get? b = some o := z
        rw [g4 b hp] at z'
        rcases dom.mp hp with ⟨o', eo⟩ | hb'
        · rw [c1 b o' eo] at z'; cases z'
          exact eo
        · exact absurd hb' hb
    · refine Heap.UpToSlots.trans (Heap.UpToSlots.of_keeps fun b o z => ?_) up5
      have z' : G4.get? b = some o := z
      cases hp : ((B.get? b).isSome || decide (b ∈ frs X.stack)) with
      | false => rw [z4 b hp] at z'; cases z'
      | true => rw [g4 b hp] at z'; exact z'
  first
    | exact wpAny_bind (wpAny_pure (wpAny_bind fin))
    | exact wpAny_bind fin
end

/-- what the clause 'except x as n: (a suite that always raises)' wishes of an exception of the body -/
def wAsX (K : PySem.W.Frag) (c : Value) (i : Nat) (ts : Addr → Value → Option Addr → TS) (Wout : WX) : WX := fun cls d σ H =>
  ∃ b, PySem.W.exmOne K cls c = some b ∧ (b = true → ∀ a, H a = none → ts a cls d { nx := fun _ _ => False, rt := fun _ _ => False, bk := fun _ _ => False, ct := fun _ _ => False } (σ.set i (some (.ref a))) H) ∧ (b = false → Wout cls d σ H)
section
variable {X : Cx} {x n : Str} {c : Value} {i : Nat} {body suite : List Stmt} {b₀ : Stmt} {np pos pos' : Pos} {tb : WX → TS} {ts : Addr → Value → Option Addr → TS} {Wout : WX}
theorem ps_try_asX (hs : X.stack = X.env :: X.outer) (hf : X.env.frame = some X.env.locals) (hN : X.N.Nodup) (hi : X.N[i]? = some n) (hln : X.env.kindOf n = some .local) (hc : Names X x c)
    (hpa : ∀ hd : Option Value, PassesOwnAt (model X.prog X.w) (X.A.mark hd) X.A X.env X.xe) (tk : Takes X Wout)
    (hb : ∀ (W : WX) (pn : List (Addr × Obj)) (xe : Value → Shared → Prop), L2N.Takes (X.tr pn xe) W → PassesOwn (model X.prog X.w) X.A X.env xe → PSs (X.tr pn xe) body (tb W))
    (hsu : ∀ (a : Addr) (oe : Obj) (cls : Value) (d : Option Addr) (pn : List (Addr × Obj)) (xe : Value → Shared → Prop), L2N.Zn cls d oe → (∃ vs, oe.data = .fields vs) → Takes (suX X a ((a, oe) :: pn) xe) (fun cls d σ H => Wout cls d (σ.set i none) H) → L2H.HotC (suX X a ((a, oe) :: pn) xe) →
      PSs (suX X a ((a, oe) :: pn) xe) (b₀ :: suite) (ts a cls d)) :
    PS X (.Try body [.ExceptHandler (some (.Name x np)) (some n) (b₀ :: suite) pos'] [] [] pos) (fun D σ H => tb (wAsX X.K c i ts Wout) D σ H) := by
  refine ⟨fun pins s σ H D I h => ?_⟩
  have ok := I.ok
  have hfr : X.A.frames = some (X.env :: X.outer) := by rw [ok.frames, hs]
  refine wpAny_Try_except ?_
  refine wpAny_mono ((hb (wAsX X.K c i ts Wout) (X.pn ++ pins) (fun e s₁ => wpAny (model X.prog X.w) X.A (noteFrame e X.env) (fun _ s₂ => wpAny (model X.prog X.w) X.A (setFlight e none) (fun _ s₃ =>
    wpAny (model X.prog X.w) X.A (handleBy e X.env [.ExceptHandler (some (.Name x np)) (some n) (b₀ :: suite) pos']) (SP X pins D) X.xe s₃) X.xe s₂) X.xe s₁) (fun u s' xx => ?_) PassesOwn.looking).run [] s σ H D (I.toTry _) h) (fun f s1 hsp => ?_) (fun e s1 he => he)
  · obtain ⟨a, B, sI, pins', σ', H', cls, d, rfl, J', nb, up, sky, na, os, ag, b, hb1, hyes, hno⟩ := xx
    have J : Inv X pins σ' H' sI := J'.ofTry ok
    have sky' : Sky B (X.env :: X.outer) a (L2N.Zn cls d) X.env.locals s'.heap := by rw [← hs]; exact sky
    show wpAny (model X.prog X.w) X.A (noteFrame (.ref a) X.env) _ _ _
    refine L2N.Sky.land L2N.Zn.steady hfr hf sky' fun h3 fl3 up3 => ?_
    have J3 : Inv X pins σ' H' { s' with heap := h3 } := J.landed nb fl3.1 (up.trans up3) os ag
    obtain ⟨oe3, vs3, he3, hz3, hd3⟩ := fl3.there
    have nfr : a ∉ frs (X.env :: X.outer) := fun hm => by
      obtain ⟨_, o', e', hnf⟩ := fl3.2.2.1.mem hm
      rw [he3] at e'; cases e'
      exact hnf _ hd3
    have nL : a ≠ X.env.locals := fun z => nfr (List.mem_filterMap.mpr ⟨X.env, List.mem_cons_self, by rw [hf, z]⟩)
    have nF : a ∉ X.fs := fun hm => by
      obtain ⟨e, he, q⟩ := List.mem_filterMap.mp hm
      exact nfr (List.mem_filterMap.mpr ⟨e, List.mem_cons_of_mem _ he, q⟩)
    have S3 := J3.suite he3 hd3 na nL nF
    refine wpAny_handleBy_cons (codeAny_handlers_test ?_) (by intro q; cases q)
    have LT : PySem.W.Looks (model X.prog X.w) h3 (typeOf (.ref a)) cls := fun A Q E s k q => wpAny_typeOf_ref (k _ _ he3) (by rw [hz3.1]; exact q)
    have LM := PySem.W.exm_one (M := model X.prog X.w) (J3.kIn) LT hb1
    have test : ∀ {Q : Value → Shared → Prop} {E : Value → Shared → Prop}, Q c { s' with heap := h3 } → wpAny (model X.prog X.w) (X.A.mark (some (.ref a))) (eval (.Name x np) X.env) Q E { s' with heap := h3 } := fun {Q E} q => by
      obtain ⟨hg, hdbg, hm | ⟨hm, hv, hnn⟩⟩ := hc
      · exact ld_glob (X := X.suite a ((a, oe3) :: (X.pn ++ pins))) S3 hg hm q hdbg
      · exact ld_blt (X := X.suite a ((a, oe3) :: (X.pn ++ pins))) S3 hg hm hv q hnn hdbg
    refine test (LM.here ?_)
    cases b with
    | true =>
      refine codeAny_handlers_suite_as ?_
      refine HandSPX.lands_againZ fl3 fun h4 fl4 up4 => ?_
      have J4 : Inv X pins σ' H' { s' with heap := h4 } := J.landed nb fl4.1 ((up.trans up3).trans up4) os ag
      obtain ⟨oe4, vs4, he4, hz4, hd4⟩ := fl4.there
      have S4 := toSuX (xe := asXe X a n pos') (J4.suite he4 hd4 na nL nF)
      have hot : L2H.HotC (suX X a ((a, oe4) :: (X.pn ++ pins)) (asXe X a n pos')) := ⟨(a, oe4), ⟨rfl, vs4, hd4, hz4.2.2 vs4 hd4⟩, List.mem_cons_self⟩
      have tkS := takes_as (q := (a, oe4)) (pins := pins) (a := a) (pos := pos') ok hs hf hN hi hln hpa tk
      refine store_ok (X := suX X a ((a, oe4) :: (X.pn ++ pins)) (asXe X a n pos')) (v := .ref a) S4 hN hi (.inl hln) rfl (fun s5 S5 => ?_) (.inr hln)
      refine wpAny_mono ((hsu a oe4 cls d (X.pn ++ pins) _ hz4 ⟨_, hd4⟩ tkS hot).run [] s5 _ H' _ S5 (hyes rfl a na)) (fun f s6 hsp => ?_) (fun _ _ z => z)
      cases f with
      | next => obtain ⟨_, _, _, q6⟩ := hsp; exact q6.elim
      | brk => obtain ⟨_, _, _, q6⟩ := hsp; exact q6.elim
      | cont => obtain ⟨_, _, _, q6⟩ := hsp; exact q6.elim
      | ret u => obtain ⟨_, _, _, _, _, q6⟩ := hsp; exact q6.elim
    | false =>
      show wpAny _ X.A (handleBy (.ref a) X.env []) _ _ _
      refine wpAny_handleBy_nil ?_
      have fl3' : HandSPX.FlyingZ B (X.env :: X.outer) a (Zc cls d) h3 := L2H.flyingZ_imp (fun o z => z.zc) fl3
      obtain ⟨k1, k2, k3, oe, vs, T, oT, ts', he, hz, hd, h1, hr⟩ := id fl3'
      unfold PySem.passOn
      refine wpAny_bind (wpAny_field he hd h1 ?_)
      rw [if_neg (show ¬ ((Value.ref T == Value.none) = true) from by simp)]
      have fin : wpAny (model X.prog X.w) X.A (setFlight (.ref a) X.env.frame) (fun _ s4 => wpAny (model X.prog X.w) X.A (throw (.ref a) : Sem Flow) (SP X pins D) X.xe s4) X.xe { s' with heap := h3 } := by
        rw [hf]
        refine HandSPX.setFlight_upZ fl3' fun h4 hh4 up4 => wpAny_throw (tk _ _ ?_)
        exact ⟨a, B, sI, pins, σ', H', cls, d, rfl, J, nb, (up.trans up3).trans up4, .inr (.inr (by rw [hs]; exact hh4)), na, os, ag, hno rfl⟩
      first
        | exact wpAny_bind (wpAny_pure (wpAny_bind fin))
        | exact wpAny_bind fin
  · cases f with
    | next =>
      obtain ⟨σ', H', J', q⟩ := hsp
      exact wpAny_execs_nil ⟨σ', H', J'.ofTry ok, q⟩
    | brk =>
      obtain ⟨σ', H', J', q⟩ := hsp
      exact ⟨σ', H', J'.ofTry ok, q⟩
    | cont =>
      obtain ⟨σ', H', J', q⟩ := hsp
      exact ⟨σ', H', J'.ofTry ok, q⟩
    | ret u =>
      obtain ⟨v, σ', H', J', r, q⟩ := hsp
      exact ⟨v, σ', H', J'.ofTry ok, r, q⟩
end
end BF
namespace BF
open PySem PySem.Spec PyProof.Rows L2 TL HotX
/-! ### err.f, X a context that pins the exception -/
section
variable {X : Cx} {e : Expr} {te : TE} {pos : Pos} {n : Str}
theorem pe_xg {a C : Addr} {oe : Obj} {cls : Value} {d : Option Addr} (hp : (a, oe) ∈ X.pn) (T : XfC X.K C) (hno : PySem.W.findIn X.K (.ref C) n = some none) (hz : Zc cls d oe) (hf : ∃ vs, oe.data = .fields vs) (he : PE X e te)
    (hb : attributeBase e n X.env (eval e X.env) = eval e X.env := by rfl) : PE X (.Attribute e n pos) (tXf a cls d C n te) := by
  refine ⟨fun pins s σ H Q I h => attr_of hb (thn (he.run pins s σ H _ I h) fun u s1 hh => ?_)⟩
  obtain ⟨x, H1, I1, rx, rfl, rfl, dd, fs, v, rfl, ea, l, q⟩ := hh
  cases (show u = Value.ref a from rx)
  have ha := (I1.pin (a, oe) (List.mem_append_left _ hp)).1
  obtain ⟨vs, hd⟩ := hf
  obtain ⟨mA, hns, hr⟩ := (show ObjOk X.prog X.w H1 s1.heap dd (.xd fs) from I1.hok dd _ ea)
  obtain ⟨od, ho, hl⟩ := lookIn_ns hns
  obtain ⟨u, hu, ru⟩ := RelO.some_of (v := v) (o := mA n) (by rw [← l]; exact hr n)
  have J : PySem.W.InstAt s1.heap a oe C (some od) := by
    refine ⟨ha, hz.1, ?_, ?_⟩
    · unfold PySem.W.notCls
      rw [hd]
    · rw [hz.2]
      exact ho
  exact HandSPX.exc_get I1.kIn J T.ga T.gg T.exC (PySem.W.findObj_own T.hdC hno rfl (by rw [hl, hu])) (handed_of ru) ⟨v, H1, I1.tok _, ru, q⟩
/-! ### a method that may raise -/
def tMetS (C : Addr) (m : Str) (sp : Sp) (E : L2.St → XK) (ta : TE) (t : TA) : TE := fun σ H Q => ta σ H fun x H1 => ∃ a dx fs, x = .ref a ∧ H1 a = some (.ins C dx fs) ∧ fs.lookup m = none ∧ t σ H1 fun vs H2 => sp (x :: vs) H2 Q (E σ)
variable {CX : CXT} {k j : Nat} {C : Addr} {ps : List Str} {sp : Sp} {E : L2.St → XK} {x m : Str} {p apos : Pos} {o : Expr} {es : List Expr} {ta : TE} {t : TA}
theorem pe_metS {pl : Sem Bool} (c : Met X.prog X.w X.K X.mg X.base CX C m ps j sp) (hr : Room k X.A) (hn : j ≤ k) (hx : ∀ σ, PassesAt CX X σ (E σ)) (ho : PE X o ta) (ha : PA X (e :: es) t)
    (hst : starEach (e :: es) X.env = (false, eval e X.env) :: starEach es X.env := by rfl) (hpl : (backTo pos (starEach es X.env)).any (·.1) = false := by rfl)
    (ht : eval (.Call (.Attribute o m apos) (e :: es) [] pos) X.env = (do
      let ov ← eval o X.env
      standAt apos.atName
      let (f, first) ← holding [ov] (getMethod ov m pl)
      callWith pos f first (backTo pos (starEach (e :: es) X.env)) (backToKw pos (keywordEach [] X.env))) := by rfl) :
    PE X (.Call (.Attribute o m apos) (e :: es) [] pos) (tMetS C m sp E ta t) := by
  obtain ⟨f, fd, F, hc, hm, hb⟩ := c
  refine ⟨fun pins s σ H Q I h => PySem.W.methodCall_KW (pl := pl) (thn (ho.run pins s σ H _ I h) fun u s1 hh => ?_) ht⟩
  obtain ⟨x, H1, I1, rx, a, dx, fs, rfl, ea, l, q⟩ := hh
  cases (show u = Value.ref a from rx)
  refine getmeth_ok I1 ea hc hm l (PySem.W.callWith_K (first := [.ref a]) (h₀ := X.base) I.ok.mod.kin hm.kp (thn (ha.run pos pins s1 σ H1 _ I1 q) fun us s2 hh => ?_) hst hpl)
  obtain ⟨vs, H2, I2, r, q2⟩ := hh
  exact ⟨I2.kIn, run_fnS (us := .ref a :: us) (vs := .ref a :: vs) (F.mono hn) hr hb (hx σ) I2 (.cons rfl r) q2⟩
theorem pe_calS (c : Cal X.prog X.w X.K X.mg X.base CX x ps j sp) (hr : Room k X.A) (hn : j ≤ k) (hx : ∀ σ, PassesAt CX X σ (E σ)) (ha : PA X (e :: es) t) (hg : Gl X x := by rfl)
    (hdb : (x == ("__debug__" : Str)) = false := by decide) (he : starEach (e :: es) X.env = (false, eval e X.env) :: starEach es X.env := by rfl) (hpl : (backTo pos (starEach es X.env)).any (·.1) = false := by rfl) :
    PE X (.Call (.Name x p) (e :: es) [] pos) (tCallS sp E t) := by
  obtain ⟨f, fd, F, hm, hk, hb⟩ := c
  exact pe_callS F (hr.mono hn) hg hm hk hb hx ha hdb he hpl
/-! ### an own exception made where nothing is handled: its context is None -/
theorem pmkN {fI : Addr} {fd : FuncData} (T : OexC X.K C) (iC : PySem.W.findIn X.K (.ref C) "__init__" = some (some (.ref fI))) (tI : PySem.W.typeIn X.K (.ref fI) = some (.type "function"))
    (F1 : FnOk X.prog X.w X.K X.mg X.base CX k fI fd ps sp) (hr : Room (k + 1) X.A) (hb : Binds X.K fd ps []) (hx : Passes CX X (fun _ _ _ => False)) (hm : X.mg x = some (.ref C)) (ha : PA X (e :: es) t) (hg : Gl X x := by rfl)
    (hdb : (x == ("__debug__" : Str)) = false := by decide) (he : starEach (e :: es) X.env = (false, eval e X.env) :: starEach es X.env := by rfl) (hpl : (backTo pos (starEach es X.env)).any (·.1) = false := by rfl) :
    L2N.PMk X (.Call (.Name x p) (e :: es) [] pos) (tMkO C sp [] t) := by
  intro pins s σ H Q I h
  obtain ⟨nm, q, N, bs, bm, sn, sub, ab, col, dd, k0, k1, k2, k3, k5, hC, hbm⟩ := T.cls
  refine wpAny_Call_Name_kw (ld_glob I hg hm (PySem.W.callWith_K (h₀ := X.base) I.ok.mod.kin T.kC (thn (ha.run pos pins s σ H _ I h) fun us s1 hh => ?_) he hpl) hdb)
  obtain ⟨vs, H1, I1, r1, hz, q1⟩ := hh
  refine ⟨I1.kIn, ?_⟩
  show wpAny _ _ (call (.ref C) us) _ _ _
  obtain ⟨hp, g, dr, tk, os⟩ := s1
  have hsz : hp.objs.size ≤ hp.objs.size + 1 := by omega
  have hq := q1 (hp.objs.size + 1) (I1.hok.fresh hsz)
  have kk : ∀ b o, hp.get? b = some o → ((hp.push (PySem.W.kdv_tup us)).push (PySem.HandSPX.excO C hp.objs.size)).get? b = some o := fun b o y => Heap.get?_push_of_some _ (Heap.get?_push_of_some _ y)
  have hget : ((hp.push (PySem.W.kdv_tup us)).push (PySem.HandSPX.excO C hp.objs.size)).get? (hp.objs.size + 1) = some (PySem.HandSPX.excO C hp.objs.size) := by heap_get
  have I2 : Inv X pins σ (upd H1 (hp.objs.size + 1) (exo (hp.objs.size + 1) C none)) ⟨(hp.push (PySem.W.kdv_tup us)).push (PySem.HandSPX.excO C hp.objs.size), g, dr, tk, os⟩ :=
    I1.laid (t' := tk) (a := hp.objs.size + 1) (o := exo (hp.objs.size + 1) C none) (h' := (hp.push (PySem.W.kdv_tup us)).push (PySem.HandSPX.excO C hp.objs.size)) kk hsz (exo_ok hget)
  have r2 : Vals (V.ref (hp.objs.size + 1) :: (vs ++ [])) (Value.ref (hp.objs.size + 1) :: (us ++ [])) := .cons rfl (r1.append .nil)
  have hl : (Value.ref (hp.objs.size + 1) :: us ++ []).length = ps.length := by
    rw [← F1.len _ _ _ _ hq]
    exact r2.length.symm
  have hus : us.length ≤ sizeLine := by
    have e1 := Paired.length r1
    rw [sizeLine_eq]
    omega
  have b2 := hb _ (Value.ref (hp.objs.size + 1) :: us) I2.kIn hl
  rw [List.cons_append] at b2
  have run := F1.run _ X.stack _ _ ⟨Value.ref (hp.objs.size + 1) :: us, []⟩ (Value.ref (hp.objs.size + 1) :: (us ++ [])) _ _ (fun _ _ _ => False) (hr.make C us []) (I2.env0.make C us []) b2 r2 hq
  refine wpAny_call (PySem.HandSPX.call_own F.excBase_ValueError (fun Y => PySem.HandSPX.refsVE_contains Y bm hbm) (I1.kIn _ _ hC) (PySem.W.looks_findIn I1.kIn iC) (fun self => PySem.W.bind_fn I1.kIn self tI) hus (codeAny_mono run fun r s' hq' => ?_))
  cases r with
  | error er => exact hx pins σ _ _ er s' I2 hq'
  | ok fl =>
    cases fl with
    | next => exact False.elim hq'
    | brk => exact False.elim hq'
    | cont => exact False.elim hq'
    | ret u =>
      obtain ⟨v, H2, os2, bare2, un2, hok2, rv, rfl, d, fs, ea, ed, hd1, q2⟩ := hq'
      obtain ⟨h2, g2, d2, t2, os'⟩ := s'
      obtain ⟨t0, G, J, kG, ge, hoe, na⟩ := mk_end0 (d2 := d2) (t2 := t2) I1 hsz kk un2 hok2 os2 bare2 ea ed hd1
      refine ⟨rv, hp.objs.size + 1, _, _, ⟨G, g2, d2, t2, os'⟩, _, .ref C, some d, rfl, J, kG, ge, hoe, ⟨rfl, rfl, fun ws hv => ?_⟩, rfl, rfl, na, rfl, bare2, raises_own T.exC T.tyC, q2⟩
      cases hv
      rfl
end
end BF
/-! The texts of moves, rows, standings: read back. -/
namespace BF
open PySem PySem.Spec PyProof.Rows L2 TL
theorem join_one (y a : Str) : Txt.join y [a] = a := by rw [join_eq]; rfl
theorem join_cons (y a b : Str) (r : List Str) : Txt.join y (a :: b :: r) = a ++ y ++ Txt.join y (b :: r) := by rw [join_eq, join_eq]; rfl
theorem join_nil (y : Str) : Txt.join y [] = "" := by rw [join_eq]; rfl
theorem join_len (y : Str) : ∀ (ps : List Str) (n : Nat), (∀ p ∈ ps, p.length ≤ n) → (Txt.join y ps).length ≤ ps.length * (n + y.length)
  | [], n, _ => by
    rw [join_nil]
    have : ("" : Str).length = 0 := by decide +kernel
    omega
  | [a], n, h => by
    rw [join_one]
    have := h a (by simp)
    simp
    omega
  | a :: b :: r, n, h => by
    rw [join_cons, app_len, app_len]
    have h1 := h a (by simp)
    have h2 := join_len y (b :: r) n fun p hp => h p (List.mem_cons_of_mem _ hp)
    rw [List.length_cons (a := a), Nat.succ_mul]
    omega
theorem len_blank : (" " : Str).length = 1 := by decide +kernel
theorem len_semi : ("; " : Str).length = 2 := by decide +kernel
theorem len_slash : ("/" : Str).length = 1 := by decide +kernel
theorem len_dot : ("." : Str).length = 1 := by decide +kernel
/-! ### moves -/
structure OkMv (m : Mv) : Prop where
  rod : m.rod < 100
  b0 : 1 ≤ m.beads
  b1 : m.beads < 100
theorem word_free (k : K4) : 32 ∉ tl k.word ∧ 59 ∉ tl k.word ∧ k.word.length ≤ 4 ∧ 1 ≤ k.word.length := by cases k <;> decide +kernel
theorem mv_join (m : Mv) : m.text = Txt.join " " [m.k.word, numT m.rod, numT m.beads] := by
  rw [join_cons, join_cons, join_one, Mv.text]
  simp only [app_assoc]
theorem mv_split (m : Mv) : Txt.split m.text " " = [m.k.word, numT m.rod, numT m.beads] := by
  rw [mv_join]
  refine split_join (s := 32) (S := []) tl_blank (by decide +kernel) (by simp) fun p hp => ?_
  rcases List.mem_cons.mp hp with rfl | hp
  · exact (word_free m.k).1
  rcases List.mem_cons.mp hp with rfl | hp
  · exact num_free (by omega) (by omega)
  · cases List.mem_singleton.mp hp
    exact num_free (by omega) (by omega)
theorem mv_len {m : Mv} (o : OkMv m) : m.text.length ≤ 10 ∧ 1 ≤ m.text.length := by
  have h1 := num_len (n := m.rod) (by omega) (by have := o.rod; omega)
  have h2 := num_len (n := m.beads) (by omega) (by have := o.b1; omega)
  have h3 := word_free m.k
  unfold Mv.text
  simp only [app_len, len_blank]
  omega
theorem mv_semi {m : Mv} (o : OkMv m) : 59 ∉ tl m.text := by
  unfold Mv.text
  simp only [tl_append, tl_blank, List.mem_append, not_or]
  exact ⟨⟨⟨⟨(word_free m.k).2.1, by decide⟩, num_free (by omega) (by omega)⟩, by decide⟩, num_free (by omega) (by omega)⟩
theorem row_split {ms : List Mv} (hne : ms ≠ []) (o : ∀ m ∈ ms, OkMv m) : Txt.split (rowT ms) "; " = ms.map Mv.text := by
  refine split_join (s := 59) (S := [32]) tl_semi (by decide +kernel) (by simpa using hne) fun p hp => ?_
  obtain ⟨m, hm, rfl⟩ := List.mem_map.mp hp
  exact mv_semi (o m hm)
theorem row_len {ms : List Mv} (o : ∀ m ∈ ms, OkMv m) : (rowT ms).length ≤ ms.length * 12 := by
  have := join_len "; " (ms.map Mv.text) 10 fun p hp => by
    obtain ⟨m, hm, rfl⟩ := List.mem_map.mp hp
    exact (mv_len (o m hm)).1
  rw [List.length_map, len_semi] at this
  exact this
theorem row_ne {ms : List Mv} (hne : ms ≠ []) (o : ∀ m ∈ ms, OkMv m) : rowT ms ≠ "" := by
  intro e
  cases ms with
  | nil => exact hne rfl
  | cons m r =>
    have h1 := (mv_len (o m (by simp))).2
    have e0 : ("" : Str).length = 0 := by decide +kernel
    cases r with
    | nil =>
      have e2 : rowT [m] = m.text := join_one _ _
      rw [e2] at e
      rw [e] at h1
      omega
    | cons m2 r =>
      have e2 : rowT (m :: m2 :: r) = m.text ++ "; " ++ Txt.join "; " ((m2 :: r).map Mv.text) := join_cons _ _ _ _
      rw [e2] at e
      have := congrArg Str.length e
      rw [app_len, app_len, e0] at this
      omega
/-! ### standings -/
def OkRod (s : Rod) : Prop := 0 ≤ s.1 ∧ s.1 < 100 ∧ 0 ≤ s.2 ∧ s.2 < 100
theorem rod_free {s : Rod} (o : OkRod s) {c : Nat} (h : c < 46 ∨ 57 < c ∨ c = 47) : c ∉ tl (rodT s) := by
  obtain ⟨h1, h2, h3, h4⟩ := o
  unfold rodT
  simp only [tl_append, tl_dot, List.mem_append, not_or]
  refine ⟨⟨num_free h1 (by omega), by simp; omega⟩, num_free h3 (by omega)⟩
theorem rod_len {s : Rod} (o : OkRod s) : (rodT s).length ≤ 5 ∧ 3 ≤ (rodT s).length := by
  obtain ⟨h1, h2, h3, h4⟩ := o
  have l1 := num_len h1 h2
  have l2 := num_len h3 h4
  unfold rodT
  simp only [app_len, len_dot]
  omega
theorem std_split {st : List Rod} (hne : st ≠ []) (o : ∀ s ∈ st, OkRod s) : Txt.split (shownT st) " " = st.reverse.map rodT := by
  refine split_join (s := 32) (S := []) tl_blank (by decide +kernel) (by simpa using hne) fun p hp => ?_
  obtain ⟨s, hs, rfl⟩ := List.mem_map.mp hp
  exact rod_free (o s (List.mem_reverse.mp hs)) (by omega)
theorem std_len {st : List Rod} (o : ∀ s ∈ st, OkRod s) : (shownT st).length ≤ st.length * 6 := by
  have := join_len " " (st.reverse.map rodT) 5 fun p hp => by
    obtain ⟨s, hs, rfl⟩ := List.mem_map.mp hp
    exact (rod_len (o s (List.mem_reverse.mp hs))).1
  rw [List.length_map, List.length_reverse, len_blank] at this
  exact this
end BF
/-! Lists compared by == as data. -/
namespace BF
open PySem PySem.Spec PyProof.Rows L2 TL

def rodD (s : Rod) : PyData := .tuple [.int s.1, .int s.2]
def stdD (l : List Rod) : PyData := .list (l.map rodD)
def mvD (m : Mv) : PyData := .tuple [.str m.k.word, .int m.rod, .int m.beads]
section
variable {K : PySem.W.Frag} {G H : Hp} {v : V}
theorem dp_rods : ∀ {xs : List V} {l : List Rod}, Same G H → Paired (RRod G) xs l → DpAll K H xs (l.map rodD)
  | _, _, _, .nil => .nil
  | _, _, k, .cons ⟨p, e, h⟩ t => by
    subst e
    exact .cons (.tup (SqT.of (k _ _ h)) (.cons (.int _) (.cons (.int _) .nil))) (dp_rods k t)
theorem dp_std {l : List Rod} (k : Same G H) (h : RStd G v l) : Dp K H v (stdD l) := by
  obtain ⟨p, xs, rfl, hp, r⟩ := h
  exact .lst (SqL.of (k _ _ hp)) (dp_rods k r)
theorem eqv_rods : ∀ a b : List Rod, PyData.eqvAll (a.map rodD) (b.map rodD) = decide (a = b)
  | [], [] => rfl
  | [], _ :: _ => rfl
  | _ :: _, [] => rfl
  | x :: a, y :: b => by
    have h := eqv_rods a b
    obtain ⟨x1, x2⟩ := x
    obtain ⟨y1, y2⟩ := y
    simp only [List.map_cons, rodD, PyData.eqvAll, PyData.eqv, h, Bool.and_true]
    by_cases e1 : x1 = y1 <;> by_cases e2 : x2 = y2 <;> by_cases e3 : a = b <;> simp [e1, e2, e3]
theorem eqv_std (a b : List Rod) : PyData.eqv (stdD a) (stdD b) = decide (a = b) := by
  unfold stdD
  simp only [PyData.eqv]
  exact eqv_rods a b
theorem lay_rods : ∀ l : List Rod, PyData.canLayAll0 (l.map rodD) = true
  | [] => rfl
  | x :: l => by simp only [List.map_cons, rodD, PyData.canLayAll0, PyData.canLay0, lay_rods l, Bool.and_true]
theorem dep_rods : ∀ l : List Rod, PyData.depthAll (l.map rodD) ≤ 2
  | [] => by simp [PyData.depthAll]
  | x :: l => by
    have := dep_rods l
    simp only [List.map_cons, rodD, PyData.depthAll, PyData.depth]
    omega
theorem shp_std (l : List Rod) : SeqAt.shaped (stdD l) = true := by
  have h := dep_rods l
  unfold SeqAt.shaped stdD
  rw [Bool.and_eq_true, decide_eq_true_iff]
  refine ⟨?_, ?_⟩
  · simp only [PyData.canLay0]
    exact lay_rods l
  · simp only [PyData.depth]
    omega
def optD : Option (List Rod) → PyData
  | none => .none
  | some l => stdD l
theorem dp_opt {o : Option (List Rod)} (k : Same G H) (h : ROpt RStd G v o) : Dp K H v (optD o) := by
  cases o with
  | none =>
    cases (show v = .non from h)
    exact .non
  | some l => exact dp_std k h
theorem shp_opt (o : Option (List Rod)) : SeqAt.shaped (optD o) = true := by
  cases o with
  | none => decide
  | some l => exact shp_std l
theorem eqv_opt (o : Option (List Rod)) (b : List Rod) : PyData.eqv (optD o) (stdD b) = decide (o = some b) := by
  cases o with
  | none => simp [optD, stdD, PyData.eqv]
  | some l =>
    show PyData.eqv (stdD l) (stdD b) = _
    rw [eqv_std]
    simp
variable {Q : VK} {v2 : V}
/-- a standing, or None, compared with a standing -/
theorem g_eqO {o : Option (List Rod)} {b : List Rod} (k : Same G H) (h1 : ROpt RStd G v o) (h2 : RStd G v2 b) (q : Q (.bl (decide (o = some b))) H) : rEq2 K v v2 H Q :=
  .inr ⟨_, _, dp_opt k h1, dp_std k h2, shp_opt _, shp_std _, by rw [eqv_opt]; exact q⟩
theorem g_eqStd {a b : List Rod} (k : Same G H) (h1 : RStd G v a) (h2 : RStd G v2 b) (q : Q (.bl (decide (a = b))) H) : rEq2 K v v2 H Q :=
  .inr ⟨_, _, dp_std k h1, dp_std k h2, shp_std _, shp_std _, by rw [eqv_std]; exact q⟩
/-- compared with [] -/
theorem eqv_nil (ds : List PyData) : PyData.eqv (.list ds) (.list []) = decide (ds = []) := by
  cases ds with
  | nil => rfl
  | cons a l => simp [PyData.eqv, PyData.eqvAll]
theorem g_eqE {ds : List PyData} {p : Addr} (h1 : Dp K H v (.list ds)) (s : SeqAt.shaped (.list ds) = true) (h2 : SqL K H p []) (q : Q (.bl (decide (ds = []))) H) : rEq2 K v (.ref p) H Q :=
  .inr ⟨_, _, h1, .lst h2 .nil, s, by decide, by rw [eqv_nil]; exact q⟩
theorem g_neE {ds : List PyData} {p : Addr} (h1 : Dp K H v (.list ds)) (s : SeqAt.shaped (.list ds) = true) (h2 : SqL K H p []) (q : Q (.bl (!decide (ds = []))) H) : rNe2 K v (.ref p) H Q :=
  .inr ⟨_, _, h1, .lst h2 .nil, s, by decide, by rw [eqv_nil]; exact q⟩
/-- whole numbers -/
theorem dp_ints : ∀ ns : List Int, DpAll K H (ns.map V.int) (ns.map PyData.int)
  | [] => .nil
  | _ :: ns => .cons (.int _) (dp_ints ns)
theorem shp_ints (ns : List Int) : SeqAt.shaped (.list (ns.map PyData.int)) = true := by
  have h1 : ∀ l : List Int, PyData.canLayAll0 (l.map PyData.int) = true := fun l => by
    induction l with
    | nil => rfl
    | cons a l ih => simp only [List.map_cons, PyData.canLayAll0, PyData.canLay0, ih, Bool.and_true]
  have h2 : ∀ l : List Int, PyData.depthAll (l.map PyData.int) ≤ 1 := fun l => by
    induction l with
    | nil => simp [PyData.depthAll]
    | cons a l ih =>
      simp only [List.map_cons, PyData.depthAll, PyData.depth]
      omega
  unfold SeqAt.shaped
  rw [Bool.and_eq_true, decide_eq_true_iff]
  refine ⟨?_, ?_⟩
  · simp only [PyData.canLay0]
    exact h1 ns
  · have := h2 ns
    simp only [PyData.depth]
    omega
/-- moves as tuples -/
theorem dp_mvs : ∀ {xs : List V} {l : List Mv}, Same G H → Paired (RMvT G) xs l → DpAll K H xs (l.map mvD)
  | _, _, _, .nil => .nil
  | _, _, k, .cons ⟨p, e, h⟩ t => by
    subst e
    exact .cons (.tup (SqT.of (k _ _ h)) (.cons (.str _) (.cons (.int _) (.cons (.int _) .nil)))) (dp_mvs k t)
theorem shp_mvs (l : List Mv) : SeqAt.shaped (.list (l.map mvD)) = true := by
  have hk : ∀ k : K4, PyData.canLay0 (.str k.word) = true := fun k => by cases k <;> decide +kernel
  have h1 : ∀ l : List Mv, PyData.canLayAll0 (l.map mvD) = true := fun l => by
    induction l with
    | nil => rfl
    | cons a l ih =>
      have e := hk a.k
      simp only [PyData.canLay0] at e
      simp only [List.map_cons, mvD, PyData.canLayAll0, PyData.canLay0, ih, e, Bool.and_true]
  have h2 : ∀ l : List Mv, PyData.depthAll (l.map mvD) ≤ 2 := fun l => by
    induction l with
    | nil => simp [PyData.depthAll]
    | cons a l ih =>
      simp only [List.map_cons, mvD, PyData.depthAll, PyData.depth]
      omega
  unfold SeqAt.shaped
  rw [Bool.and_eq_true, decide_eq_true_iff]
  refine ⟨?_, ?_⟩
  · simp only [PyData.canLay0]
    exact h1 l
  · have := h2 l
    simp only [PyData.depth]
    omega
/-- standings -/
theorem dp_stds : ∀ {xs : List V} {l : List (List Rod)}, Same G H → Paired (RStd G) xs l → DpAll K H xs (l.map stdD)
  | _, _, _, .nil => .nil
  | _, _, k, .cons h t => .cons (dp_std k h) (dp_stds k t)
theorem shp_stds (l : List (List Rod)) : SeqAt.shaped (.list (l.map stdD)) = true := by
  have h1 : ∀ l : List (List Rod), PyData.canLayAll0 (l.map stdD) = true := fun l => by
    induction l with
    | nil => rfl
    | cons a l ih =>
      simp only [List.map_cons, stdD, PyData.canLayAll0, PyData.canLay0, ih, lay_rods, Bool.and_true]
  have h2 : ∀ l : List (List Rod), PyData.depthAll (l.map stdD) ≤ 3 := fun l => by
    induction l with
    | nil => simp [PyData.depthAll]
    | cons a l ih =>
      have := dep_rods a
      simp only [List.map_cons, stdD, PyData.depthAll, PyData.depth]
      omega
  unfold SeqAt.shaped
  rw [Bool.and_eq_true, decide_eq_true_iff]
  refine ⟨?_, ?_⟩
  · simp only [PyData.canLay0]
    exact h1 l
  · have := h2 l
    simp only [PyData.depth]
    omega
end
end BF
/-! replace wants a token to be out: what puts one out; blanks for strokes. -/
namespace BF
open PySem PySem.Spec PyProof.Rows L2 TL
/-- behind it a token is out -/
def PB (X : Cx) (e : Expr) (t : TE) : Prop := ∀ (pins : List (Addr × Obj)) (s : Shared) (σ : L2.St) (H : Hp) (Q : VK), Inv X pins σ H s → t σ H Q → wpAny (model X.prog X.w) X.A (eval e X.env) (fun v s' => 1 ≤ s'.toks ∧ EP X pins σ Q v s') X.xe s
def PSB (X : Cx) (st : Stmt) (t : TS) : Prop := ∀ (pins : List (Addr × Obj)) (s : Shared) (σ : L2.St) (H : Hp) (D : Ends), Inv X pins σ H s → t D σ H → wpAny (model X.prog X.w) X.A (exec st X.env) (fun f s' => 1 ≤ s'.toks ∧ SP X pins D f s') X.xe s
section
variable {X : Cx} {a b e o : Expr} {ta tb te to : TE} {pos apos cp : Pos} {c : Str} {j : Nat}
theorem pb_str : PB X (.Constant (.str c) j cp) (tC (.str c)) := fun pins s σ H Q I h => Calls.Constant_str ⟨by show 1 ≤ s.toks + 1; omega, .str c, H, I.tok _, ⟨_, rfl⟩, h⟩
/-- more is out afterwards -/
theorem toks_on {α : Type} {M : Model} {A : Around} {E : Value → Shared → Prop} {s : Shared} {t : Sem α} {Q : α → Shared → Prop} (h1 : 1 ≤ s.toks) (h : wpAny M A t Q E s) : wpAny M A t (fun v s' => 1 ≤ s'.toks ∧ Q v s') E s :=
  wpAny_mono (wpAny_toks_of h1 h) (fun _ _ z => z) fun _ _ z => z.2
theorem pb_op {op : Operator} {r : R2} (ho : OpR X (binaryOp op) r) (ha : PB X a ta) (hb : PE X b tb) : PB X (.BinOp a op b pos) (tOp r ta tb) := fun pins s σ H Q I h =>
  wpAny_BinOp (thn (ha pins s σ H _ I h) fun v s1 hh => by
    obtain ⟨h1, x, H1, I1, r1, q1⟩ := hh
    refine wpAny_mono (toks_on h1 (hb.run pins s1 σ H1 _ I1 q1)) (fun u s2 hh => ?_) fun _ _ z => z
    obtain ⟨h2, y, H2, I2, r2, q2⟩ := hh
    exact toks_on h2 (ho pins s2 σ H2 x y v u Q I2 r1 r2 q2))
theorem pe_opB {op : Operator} {r : R2} (ho : OpR X (binaryOp op) r) (ha : PB X a ta) (hb : PET X b tb) : PE X (.BinOp a op b pos) (tOp r ta tb) := ⟨fun pins s σ H Q I h =>
  wpAny_BinOp (thn (ha pins s σ H _ I h) fun v s1 hh => by
    obtain ⟨h1, x, H1, I1, r1, q1⟩ := hh
    exact thn (hb pins s1 σ H1 _ h1 I1 q1) fun u s2 ⟨y, H2, I2, r2, q2⟩ => ho pins s2 σ H2 x y v u Q I2 r1 r2 q2)⟩
theorem pb_part (ho : PE X o to) (hs : starEach [.Constant (.str c) j cp] X.env = [(false, eval (.Constant (.str c) j cp) X.env)] := by rfl) (hbase : attributeBase o "partition" X.env (eval o X.env) = eval o X.env := by rfl) (hline : (apos.endLine == pos.line) = true := by rfl) :
    PB X (.Call (.Attribute o "partition" apos) [.Constant (.str c) j cp] [] pos) (tM1 rPart to (tC (.str c))) := by
  intro pins s σ H Q I h
  refine PySem.Call_method1 hbase hs hline (thn (ho.run pins s σ H _ I h) fun v s1 hh => ?_)
  obtain ⟨x, H1, I1, r1, ⟨a, rfl⟩, q1⟩ := hh
  obtain ⟨t, rfl⟩ := id r1
  refine ⟨"str", _, F.plainAttrs_str, F.slot_str_partition, F.type_str_partition, typeIs_str _ _ _, (fun _ e => nomatch e), Calls.callWith_builtin rfl (Calls.evalArgs_plain (Calls.spliced_cons (Calls.Constant_str (Calls.spliced_nil ?_))))⟩
  exact toks_on (by show 1 ≤ s1.toks + 1; omega) (mt_partition pins { s1 with toks := s1.toks + 1 } σ H1 _ [V.str c] _ [Value.str c s1.toks] Q (I1.tok _) r1 (.cons ⟨_, rfl⟩ .nil) q1)
theorem psb_asg {tg : Expr} {g : TG} (he : PB X e te) (hg : PG X tg g) (hs : swapsWithSole [tg] e pos.line X.env = pure false := by rfl) (hw : swappedStores [tg] e X.env = pure none := by rfl)
    (h1 : (assignEach [tg] X.env).map (·.2) = [assign tg X.env] := by rfl) : PSB X (.Assign [tg] e pos) (tAsg te g) := by
  intro pins s σ H D I h
  refine wpAny_Assign_stores (thn (he pins s σ H _ I h) fun v s1 hh => ?_) hs hw
  obtain ⟨h2, x, H1, I1, r1, q1⟩ := hh
  rw [h1]
  exact wpAny_mono (toks_on h2 (hg.run pins s1 σ H1 x v _ I1 r1 q1)) (fun _ _ z => z) fun _ _ z => z
theorem pss_consB {st : Stmt} {rest : List Stmt} {t u : TS} (h1 : PSB X st t) (h2 : PSsT X rest u) : PSs X (st :: rest) (tSeq t u) := by
  refine ⟨fun pins s σ H D I h => wpAny_execs_cons (thn (h1 pins s σ H { D with nx := u D } I h) fun f s1 hh => ?_)⟩
  obtain ⟨k, q⟩ := hh
  cases f with
  | next =>
    obtain ⟨σ', H', I', q⟩ := q
    exact h2 pins s1 σ' H' D k I' q
  | ret v => exact q
  | brk => exact q
  | cont => exact q
theorem pst_set {i : Nat} {x : Str} {pos' : Pos} (hN : X.N.Nodup) (hi : X.N[i]? = some x) (hx : Loc X.env.scope x) (he : PET X e te) (hs : swapsWith e (some (.Name x pos')) pos.line X.env = pure false := by rfl)
    (hf : X.fn x = true ∨ X.env.scope.names.lookup x = some .local := by first | exact .inl rfl | exact .inr rfl | assumption) : PST X (.Assign [.Name x pos'] e pos) (tAsg te (gName i)) := by
  intro pins s σ H D h0 I h
  refine wpAny_Assign_Name (thn (he pins s σ H _ h0 I h) fun v s1 hh => ?_) hs
  obtain ⟨y, H1, I1, r1, q1⟩ := hh
  exact store_ok I1 hN hi hx r1 (fun s2 I2 => ⟨_, H1, I2, q1⟩) hf
theorem pet_cal {CX : CXT} {k n : Nat} {ps : List Str} {sp : Sp} {E : XK} {x : Str} {p : Pos} {es : List Expr} {t : TA} (cl : Cal X.prog X.w X.K X.mg X.base CX x ps n sp) (hr : Room k X.A) (hn : n ≤ k) (hx : Passes CX X E) (ha : PAT X (e :: es) t) (hg : Gl X x := by rfl)
    (hdb : (x == ("__debug__" : Str)) = false := by decide) (he : starEach (e :: es) X.env = (false, eval e X.env) :: starEach es X.env := by rfl) (hpl : (backTo pos (starEach es X.env)).any (·.1) = false := by rfl) :
    PET X (.Call (.Name x p) (e :: es) [] pos) (tCall sp [] E t) := by
  obtain ⟨f, fd, F, hm, hk, hb⟩ := cl
  intro pins s σ H Q h0 I h
  refine wpAny_Call_Name_kw (ld_glob I hg hm (PySem.W.callWith_K (h₀ := X.base) I.ok.mod.kin hk (thn (ha pos pins s σ H _ h0 I h) fun us s1 hh => ?_) he hpl) hdb)
  obtain ⟨vs, H1, I1, r, q⟩ := hh
  exact ⟨I1.kIn, run_fn (F.mono hn) hr hb .nil hx I1 r q⟩
end
/-! ### strokes for blanks, blanks for strokes -/
theorem repl_one {s t : Nat} : ∀ l : List Nat, StrLaws.replL [s] [t] l = l.map fun c => if c = s then t else c
  | [] => StrLaws.replL_nil
  | c :: r => by
    by_cases h : c = s
    · rw [StrLaws.replL_hit (by simp) (by simp [h])]
      show [t] ++ StrLaws.replL [s] [t] r = _
      rw [repl_one r]
      simp [h]
    · rw [StrLaws.replL_miss (by simpa using h), repl_one r]
      simp [h]
theorem map_free {s t : Nat} {l : List Nat} (h : s ∉ l) : (l.map fun c => if c = s then t else c) = l := by
  induction l with
  | nil => rfl
  | cons a l ih =>
    simp only [List.mem_cons, not_or] at h
    rw [List.map_cons, ih h.2, if_neg (Ne.symm h.1)]
theorem map_join {s t : Nat} : ∀ {ps : List (List Nat)}, (∀ p ∈ ps, s ∉ p) → ((joinL [s] ps).map fun c => if c = s then t else c) = joinL [t] ps
  | [], _ => rfl
  | [p], h => map_free (h p (by simp))
  | p :: q :: r, h => by
    show ((p ++ ([s] ++ joinL [s] (q :: r))).map fun c => if c = s then t else c) = p ++ ([t] ++ joinL [t] (q :: r))
    rw [List.map_append, List.map_append, map_free (h p (by simp)), map_join fun z hz => h z (List.mem_cons_of_mem _ hz)]
    simp
theorem repl_join {y z : Str} {s t : Nat} (ey : tl y = [s]) (ez : tl z = [t]) {ps : List Str} (h : ∀ p ∈ ps, s ∉ tl p) : Txt.replace (Txt.join y ps) y z = Txt.join z ps := by
  refine ext_tl ?_
  have hl : 1 ≤ y.length := by rw [len_tl, ey]; simp
  have e := StrLaws.replace_list (x := Txt.join y ps) (y := y) (z := z) hl
  have e1 : tl (Txt.replace (Txt.join y ps) y z) = StrLaws.replL (tl y) (tl z) (tl (Txt.join y ps)) := e
  rw [e1, ey, ez, repl_one, join_eq, join_eq, tl_join, tl_join, ey, ez]
  exact map_join fun p hp => by
    obtain ⟨q, hq, rfl⟩ := List.mem_map.mp hp
    exact h q hq
/-- a standing as it is written for slips -/
def slashT (st : List Rod) : Str := Txt.join "/" (st.reverse.map rodT)
theorem slash_back {st : List Rod} (o : ∀ s ∈ st, OkRod s) : Txt.replace (slashT st) "/" " " = shownT st := by
  refine repl_join (s := 47) (t := 32) tl_slash tl_blank fun p hp => ?_
  obtain ⟨s, hs, rfl⟩ := List.mem_map.mp hp
  exact rod_free (o s (List.mem_reverse.mp hs)) (by omega)
theorem slash_to {st : List Rod} (o : ∀ s ∈ st, OkRod s) : Txt.replace (shownT st) " " "/" = slashT st := by
  refine repl_join (s := 32) (t := 47) tl_blank tl_slash fun p hp => ?_
  obtain ⟨s, hs, rfl⟩ := List.mem_map.mp hp
  exact rod_free (o s (List.mem_reverse.mp hs)) (by omega)
theorem slash_len {st : List Rod} (o : ∀ s ∈ st, OkRod s) : (slashT st).length ≤ st.length * 6 := by
  have := join_len "/" (st.reverse.map rodT) 5 fun p hp => by
    obtain ⟨s, hs, rfl⟩ := List.mem_map.mp hp
    exact (rod_len (o s (List.mem_reverse.mp hs))).1
  rw [List.length_map, List.length_reverse, len_slash] at this
  exact this
theorem mem_joinL {S : List Nat} {c : Nat} : ∀ {ps : List (List Nat)}, c ∈ joinL S ps → c ∈ S ∨ ∃ p ∈ ps, c ∈ p
  | [], h => by cases h
  | [p], h => .inr ⟨p, by simp, h⟩
  | p :: q :: r, h => by
    have h' : c ∈ p ++ (S ++ joinL S (q :: r)) := h
    rcases List.mem_append.mp h' with h1 | h1
    · exact .inr ⟨p, by simp, h1⟩
    rcases List.mem_append.mp h1 with h2 | h2
    · exact .inl h2
    · rcases mem_joinL h2 with h3 | ⟨z, hz, h3⟩
      · exact .inl h3
      · exact .inr ⟨z, List.mem_cons_of_mem _ hz, h3⟩
theorem slash_free {st : List Rod} (o : ∀ s ∈ st, OkRod s) : 32 ∉ tl (slashT st) := by
  intro h
  unfold slashT at h
  rw [join_eq, tl_join, tl_slash] at h
  rcases mem_joinL h with h | ⟨p, hp, h⟩
  · simp at h
  · obtain ⟨q, hq, rfl⟩ := List.mem_map.mp hp
    obtain ⟨s, hs, rfl⟩ := List.mem_map.mp hq
    exact rod_free (o s (List.mem_reverse.mp hs)) (by omega) h
theorem join_pos {y : Str} {a : Str} {r : List Str} (h : 1 ≤ a.length) : 1 ≤ (Txt.join y (a :: r)).length := by
  cases r with
  | nil => rw [join_one]; exact h
  | cons b r =>
    rw [join_cons, app_len, app_len]
    omega
theorem slash_ne {st : List Rod} (hne : st ≠ []) (o : ∀ s ∈ st, OkRod s) : slashT st ≠ "" := by
  intro e
  have e0 : ("" : Str).length = 0 := by decide +kernel
  unfold slashT at e
  cases hr : st.reverse with
  | nil => exact hne (List.reverse_eq_nil_iff.mp hr)
  | cons a r =>
    rw [hr, List.map_cons] at e
    have hm : a ∈ st := List.mem_reverse.mp (by rw [hr]; simp)
    have h1 := join_pos (y := "/") (r := r.map rodT) (show 1 ≤ (rodT a).length by have := (rod_len (o a hm)).2; omega)
    rw [e, e0] at h1
    omega
/-! ### names -/
structure OkName (z : Str) : Prop where
  l0 : 1 ≤ z.length
  l1 : z.length ≤ 8
  ab : ∀ c ∈ tl z, c ∈ tl ("abcdefghijklmnopqrstuvwxyz" : Str)
theorem name_free {z : Str} (o : OkName z) : 32 ∉ tl z := fun h => by
  have h1 : ∀ c ∈ tl ("abcdefghijklmnopqrstuvwxyz" : Str), c ≠ 32 := by decide +kernel
  exact h1 32 (o.ab 32 h) rfl
theorem name_ne {z : Str} (o : OkName z) : z ≠ "" := fun e => by
  have e0 : ("" : Str).length = 0 := by decide +kernel
  have := o.l0
  rw [e, e0] at this
  omega
/-- a row: its word, a blank, the rest -/
theorem say_part {wd rest : Str} (h : 32 ∉ tl wd) : Txt.partition (wd ++ (" " ++ rest)) " " = (wd, (" " : Str), rest) := part_at tl_blank h
end BF
/-! zip of a list and a list from its end; of a tuple and a list. -/
namespace BF
open PySem PySem.Spec PyProof.Rows L2 TL
section
variable {prog : Program} {w : World} {A : Around} {E : Value → Shared → Prop} {s : Shared}
theorem nextOf_rev {it l : Addr} {i : Nat} {items : Array Value} {x : Value} {Q : Value → Shared → Prop} (hit : s.heap.IsRevIter it l (i : Int)) (hl : s.heap.IsList l items) (hx : items[i]? = some x)
    (hQ : ∀ h', h'.IsRevIter it l ((i : Int) - 1) → Heap.SameBut it s.heap h' → Q x { s with heap := h' }) : wpAny (model prog w) A (Builtin.SmallTypes.nextOf (.ref it)) Q E s := by
  obtain ⟨o, ho, hc, hd⟩ := id hit
  obtain ⟨ol, hol, _, nl, hdl⟩ := hl
  unfold Builtin.SmallTypes.nextOf
  refine wpAny_bind (wpAny_callSpecial?_slot (name := Str.ofString "__next__") hit.typeIs F.slot_lri_next (wpAny_call_entry F.slot_lri_next hit.typeIs F.entry_lri_next ?_ (F.args_lri_next_1 _)))
  unfold Builtin.«list_reverseiterator.__next__»
  refine wpAny_bind (wpAny_of_eq (a := (Value.ref it, [])) rfl ?_)
  try dsimp only
  refine wpAny_bind (wpAny_field ho hd (x := rawInt (i : Int)) rfl ?_)
  show wpAny _ _ (if (i : Int) < 0 then _ else _) _ _ s
  rw [if_neg (by omega)]
  show wpAny _ _ (field (.ref it) 0 >>= _) _ _ s
  refine wpAny_bind (wpAny_field ho hd (x := .ref l) rfl ?_)
  show wpAny _ _ (seqItems? (.ref l) >>= _) _ _ s
  refine wpAny_bind (wpAny_seqItems hol hdl ?_)
  simp only [Int.toNat_natCast, hx]
  have fin : (s.heap.update it (Obj.mapFields (·.setIfInBounds 1 (rawInt ((i : Int) - 1))))).IsRevIter it l ((i : Int) - 1) :=
    ⟨_, Heap.get?_update_self _ ho (Obj.isFreed_of_fields (Obj.data_mapFields hd _)), (Obj.cls_mapFields ..).trans hc, by rw [Obj.data_mapFields hd]; simp⟩
  refine wpAny_bind (wpAny_setField ho hd (by simp) ?_)
  first
  | exact wpAny_pure ⟨x, rfl, wpAny_pure (hQ _ fin (Heap.SameBut.update ..))⟩
  | exact wpAny_bind (wpAny_pure (wpAny_pure ⟨x, rfl, wpAny_pure (hQ _ fin (Heap.SameBut.update ..))⟩))
theorem nextOf_revEnd {it l : Addr} {Q : Value → Shared → Prop} (hh : A.handled = none) (hit : s.heap.IsRevIter it l (-1))
    (hE : ∀ h' e, Heap.ExtBut it s.heap h' → (∃ o, h'.get? e = some o ∧ o.cls = .type "StopIteration") → E (.ref e) { s with heap := h' }) : wpAny (model prog w) A (Builtin.SmallTypes.nextOf (.ref it)) Q E s := by
  obtain ⟨o, ho, hc, hd⟩ := id hit
  unfold Builtin.SmallTypes.nextOf
  refine wpAny_bind (wpAny_callSpecial?_slot (name := Str.ofString "__next__") hit.typeIs F.slot_lri_next (wpAny_call_entry F.slot_lri_next hit.typeIs F.entry_lri_next ?_ (F.args_lri_next_1 _)))
  unfold Builtin.«list_reverseiterator.__next__»
  refine wpAny_bind (wpAny_of_eq (a := (Value.ref it, [])) rfl ?_)
  try dsimp only
  refine wpAny_bind (wpAny_field ho hd (x := rawInt (-1)) rfl ?_)
  show wpAny _ _ (if (-1 : Int) < 0 then _ else _) _ _ s
  rw [if_pos (by decide)]
  refine wpAny_bind (wpAny_rule ?_)
  first
  | show wpAny _ _ (newExc (.type "StopIteration") [] >>= _) _ _ _
  | (refine wpAny_bind ?_; show wpAny _ _ (newExc (.type "StopIteration") [] >>= _) _ _ _)
  refine wpAny_bind ?_
  simp only [newExc, newTuple]
  refine wpAny_bind (wpAny_newObj_type ?_ (by size_fits))
  refine wpAny_bind (m := firstArgMember _ _) (wpAny_of_eq (a := Value.none) (by first | rfl | (simp only [firstArgMember]; rfl)) ?_)
  refine wpAny_newObj_type ?_ (by size_fits)
  simp only [raiseNew]
  refine wpAny_bind (wpAny_handled ?_)
  first | rw [show A.in1.handled = none from hh] | rw [hh]
  refine wpAny_bind (wpAny_pure (wpAny_throw ?_))
  exact hE _ _ (((Heap.ExtBut.refl _ _).push _).push _) ⟨_, Heap.get?_push_size _ rfl, rfl⟩
end
theorem drawsRev {prog : Program} {w : World} {A : Around} (hh : A.handled = none) (it l : Addr) (hne : l ≠ it) (items : Array Value) :
    Draws prog w A it [it, l] items.size (fun i v => items[items.size - 1 - i]? = some v) (fun i h => i ≤ items.size ∧ h.IsRevIter it l ((items.size : Int) - 1 - (i : Int)) ∧ h.IsList l items) where
  live := fun _ _ st => let ⟨o, ho, _⟩ := st.2.1; ⟨o, ho⟩
  frame := fun _ _ _ st hk => ⟨st.1, st.2.1.at fun o e => hk it (by simp) o e, st.2.2.at fun o e => hk l (by simp) o e⟩
  item := fun i s Q E hi st hQ => by
    have e : (items.size : Int) - 1 - (i : Int) = ((items.size - 1 - i : Nat) : Int) := by omega
    have hit := st.2.1
    rw [e] at hit
    have hx : items[items.size - 1 - i]? = some (items[items.size - 1 - i]'(by omega)) := Array.getElem?_eq_getElem (by omega)
    refine nextOf_rev hit st.2.2 hx fun h' hit' hs' => ?_
    have e2 : ((items.size - 1 - i : Nat) : Int) - 1 = (items.size : Int) - 1 - ((i + 1 : Nat) : Int) := by omega
    rw [e2] at hit'
    exact hQ _ h' s.toks hx ⟨hi, hit', st.2.2.extBut hs'.extBut hne⟩ hs'
  done := fun s Q E st hE => by
    have e : (items.size : Int) - 1 - (items.size : Int) = -1 := by omega
    have hit := st.2.1
    rw [e] at hit
    exact nextOf_revEnd hh hit hE
theorem Draws.weaken {prog : Program} {w : World} {A : Around} {it : Addr} {fp : List Addr} {n m : Nat} {P P' : Nat → Value → Prop} {St : Nat → Heap → Prop} (D : Draws prog w A it fp n P St) (e : n = m) (h : ∀ i v, i < n → P i v → P' i v) : Draws prog w A it fp m P' St := by
  subst e
  exact ⟨D.live, D.frame, fun i s Q E hi st hQ => D.item i s Q E hi st fun x h' tk p => hQ x h' tk (h i x hi p), D.done⟩

/-- a thing that is drawn from, item by item: S tells the items in their order -/
structure Src (P : Program) (w : World) (K : PySem.W.Frag) (it l : Addr) (S : Hp → List V → Prop) (tn : Nat → Heap → Prop) : Prop where
  obj : ∀ i h, tn i h → ∃ o, h.get? it = some o ∧ ∀ v, o.data ≠ .cell v
  keep : ∀ i h h', tn i h → (∀ o, h.get? it = some o → h'.get? it = some o) → tn i h'
  inj : ∀ (X : Cx) (pins : List (Addr × Obj)) (σ : L2.St) (H : Hp) (s : Shared) (xs ys : List V), X.K = K → Inv X pins σ H s → S H xs → S H ys → xs = ys
  run : ∀ (X : Cx) (pins : List (Addr × Obj)) (σ : L2.St) (H : Hp) (s : Shared) (xs : List V) (i : Nat), X.prog = P → X.w = w → X.K = K → Inv X pins σ H s → X.A.handled = none → S H xs → tn i s.heap → i ≤ xs.length →
    ∃ St, Draws P w X.A.in1 it [it, l] xs.length (fun j v => ∃ x, xs[j]? = some x ∧ RelV x v) St ∧ St i s.heap ∧ ∀ j h', j ≤ xs.length → St j h' → tn j h'
theorem vals_at {xs : List V} {us : List Value} (r : Vals xs us) {j : Nat} {v : Value} (h : us[j]? = some v) : ∃ x, xs[j]? = some x ∧ RelV x v := by
  have hl := r.length
  have hlt : j < us.length := (List.getElem?_eq_some_iff.mp h).1
  obtain ⟨u, hu, ru⟩ := r.get (List.getElem?_eq_getElem (show j < xs.length by omega))
  rw [h] at hu
  cases hu
  exact ⟨_, List.getElem?_eq_getElem (show j < xs.length by omega), ru⟩
section
variable {P : Program} {w : World} {K : PySem.W.Frag} {it l : Addr}
theorem src_list (hne : l ≠ it) : Src P w K it l (fun H xs => SqL K H l xs) (fun i h => h.IsListIter it l i) where
  obj := fun i h st => let ⟨o, e, _, d⟩ := st; ⟨o, e, fun v z => by rw [d] at z; cases z⟩
  keep := fun i h h' st k => st.at fun o q => k o q
  inj := fun X pins σ H s xs ys hK I h1 h2 => by subst hK; exact I.list_inj h1 h2
  run := by
    intro X pins σ H s xs i hP hw hK I hh hS st hi
    subst hP hw hK
    obtain ⟨its, rv, p, _⟩ := I.list hS
    refine ⟨_, Draws.weaken (Draws.list (A := X.A.in1) hh it l hne its.toArray) (by simp [rv.length]) (fun j v hj hv => vals_at rv (by simpa using hv)), ⟨st, p.isList⟩, fun j h' _ x => x.1⟩
theorem src_tup (hne : l ≠ it) : Src P w K it l (fun H xs => SqT K H l xs) (fun i h => h.IsTupleIter it l i) where
  obj := fun i h st => let ⟨o, e, _, d⟩ := st; ⟨o, e, fun v z => by rw [d] at z; cases z⟩
  keep := fun i h h' st k => st.at fun o q => k o q
  inj := fun X pins σ H s xs ys hK I h1 h2 => by subst hK; exact I.tuple_inj h1 h2
  run := by
    intro X pins σ H s xs i hP hw hK I hh hS st hi
    subst hP hw hK
    obtain ⟨its, rv, p, _⟩ := I.tuple hS
    refine ⟨_, Draws.weaken (Draws.tuple (A := X.A.in1) hh it l hne its.toArray) (by simp [rv.length]) (fun j v hj hv => vals_at rv (by simpa using hv)), ⟨st, p⟩, fun j h' _ x => x.1⟩
theorem src_rev {n : Nat} (hne : l ≠ it) : Src P w K it l (fun H ys => ∃ xs, SqL K H l xs ∧ xs.length = n ∧ ys = xs.reverse) (fun i h => i ≤ n ∧ h.IsRevIter it l ((n : Int) - 1 - (i : Int))) where
  obj := fun i h st => let ⟨_, o, e, _, d⟩ := st; ⟨o, e, fun v z => by rw [d] at z; cases z⟩
  keep := fun i h h' st k => ⟨st.1, st.2.at fun o q => k o q⟩
  inj := fun X pins σ H s xs ys hK I h1 h2 => by
    subst hK
    obtain ⟨a, ha, _, rfl⟩ := h1
    obtain ⟨b, hb, _, rfl⟩ := h2
    rw [I.list_inj ha hb]
  run := by
    intro X pins σ H s xs i hP hw hK I hh hS st hi
    subst hP hw hK
    obtain ⟨zs, hzs, hzn, rfl⟩ := hS
    obtain ⟨its, rv, p, _⟩ := I.list hzs
    have hl := rv.length
    have hsz : its.toArray.size = n := by simp; omega
    refine ⟨_, Draws.weaken (drawsRev (A := X.A.in1) hh it l hne its.toArray) (by simp [rv.length]) (fun j v hj hv => ?_), ⟨by omega, ?_, p.isList⟩, fun j h' hj x => ⟨by have := x.1; omega, ?_⟩⟩
    · obtain ⟨x, ex, rx⟩ := vals_at rv (j := its.toArray.size - 1 - j) (by simpa using hv)
      refine ⟨x, ?_, rx⟩
      have hj2 : j < zs.length := by
        rw [hsz] at hj
        omega
      rw [List.getElem?_reverse hj2, ← ex]
      congr 1
      omega
    · rw [hsz]
      exact st.2
    · have q := x.2.1
      rw [hsz] at q
      exact q
end
/-- pairs drawn from two of them -/
def ItzG (S1 S2 : Hp → List V → Prop) : It :=
  ⟨fun i H => ∃ (xs ys : List V) (x y : V), S1 H xs ∧ S2 H ys ∧ xs[i]? = some x ∧ ys[i]? = some y,
    fun i H v H' => ∃ T x y, v = .ref T ∧ H T = none ∧ H' = upd H T (.tup [x, y]) ∧ (∀ xs, S1 H xs → xs[i]? = some x) ∧ ∀ ys, S2 H ys → ys[i]? = some y,
    fun i H => ∃ xs ys : List V, S1 H xs ∧ S2 H ys ∧ i ≤ xs.length ∧ i ≤ ys.length ∧ (i = xs.length ∨ i = ys.length)⟩
theorem turn_zipG {P : Program} {w : World} {K : PySem.W.Frag} {elts : List Expr} {kk : Nat} {tpos : Pos} {z TI TO i1 i2 l1 l2 : Addr} {S1 S2 : Hp → List V → Prop} {t1 t2 : Nat → Heap → Prop} (D : ZipSep2 z TI TO i1 i2 [i1, l1] [i2, l2]) (C1 : Src P w K i1 l1 S1 t1) (C2 : Src P w K i2 l2 S2 t2) :
    Turn P w K (.Tuple elts kk tpos) (ItzG S1 S2) [z, TI, TO, i1, i2] z (fun i h => IsZip h z TI TO .none ∧ IsTupOf2 h TI (.ref i1) (.ref i2) ∧ (∃ x y, IsTupOf2 h TO x y) ∧ t1 i h ∧ t2 i h) where
  mem := by simp
  obj := fun i h st c hc => by
    obtain ⟨hz, hTI, ⟨x, y, hTO⟩, h1, h2⟩ := st
    have e' : c = z ∨ c = TI ∨ c = TO ∨ c = i1 ∨ c = i2 := by simpa using hc
    rcases e' with rfl | rfl | rfl | rfl | rfl
    · exact ⟨_, hz, fun v q => nomatch q⟩
    · exact ⟨_, hTI, fun v q => nomatch q⟩
    · exact ⟨_, hTO, fun v q => nomatch q⟩
    · exact C1.obj i h h1
    · exact C2.obj i h h2
  keep := fun i h h' st k => by
    obtain ⟨hz, hTI, ⟨x, y, hTO⟩, h1, h2⟩ := st
    exact ⟨k z (by simp) _ hz, k TI (by simp) _ hTI, ⟨x, y, k TO (by simp) _ hTO⟩, C1.keep i h h' h1 fun o q => k i1 (by simp) o q, C2.keep i h h' h2 fun o q => k i2 (by simp) o q⟩
  item := by
    intro X hP hw hK hc i pins s σ H E I hf st hg
    subst hP hw hK
    obtain ⟨hz, hTI, ⟨x0, y0, hTO⟩, h1, h2⟩ := st
    obtain ⟨xs, ys, x, y, q1, q2, hx, hy⟩ := hg
    have lx : i < xs.length := (List.getElem?_eq_some_iff.mp hx).1
    have ly : i < ys.length := (List.getElem?_eq_some_iff.mp hy).1
    obtain ⟨St1, D1, s1, b1⟩ := C1.run X pins σ H s xs i rfl rfl rfl I (I.ok.hd hc) q1 h1 (by omega)
    obtain ⟨St2, D2, s2, b2⟩ := C2.run X pins σ H s ys i rfl rfl rfl I (I.ok.hd hc) q2 h2 (by omega)
    have hzl : z < s.heap.objs.size := Heap.lt_size hz
    refine wpAny_pyNext_zipD2_item D D1 D2 hz hTI hTO s1 s2 lx ly fun u u2 h' tk p1 p2 z' TO' s1' s2' hT hsz hk => ?_
    obtain ⟨x', ex, ru⟩ := p1
    obtain ⟨y', ey, ru2⟩ := p2
    rw [hx] at ex
    rw [hy] at ey
    cases ex
    cases ey
    refine ⟨_, rfl, wpAny_letOwnedTupleGo_zip (s := { s with heap := h', toks := tk }) z' fun h'' z'' sb => ?_⟩
    have hT2 : h''.get? s.heap.objs.size = some { cls := .type "tuple", data := .seq #[u, u2] } := (sb.2 _ (Nat.ne_of_gt hzl)).trans hT
    have new : ObjOk X.prog X.w (upd H s.heap.objs.size (.tup [x, y])) h'' s.heap.objs.size (.tup [x, y]) :=
      ⟨by show 2 ≤ sizeLine; decide, [u, u2], .cons ru (.cons ru2 .nil), ⟨_, hT2, rfl, _, rfl⟩⟩
    have I1 : Inv X pins σ (upd H s.heap.objs.size (.tup [x, y])) { s with heap := h'', toks := tk } :=
      I.turnedNew (t' := tk) (ch := [z, TI, TO, i1, i2]) (fun c o hb q => (sb.2 c (fun q' => hb (by simp [q']))).trans (hk c o (fun q' => hb (by simp [q'])) (fun q' => hb (by simp [q'])) (fun q' => hb (by simp [q'])) (fun q' => hb (by simp [q'])) q)) hf (Nat.le_refl _) new
    refine ⟨.ref s.heap.objs.size, _, I1, rfl, ⟨_, x, y, rfl, I.hok.fresh (Nat.le_refl _), rfl, fun l hl => by rw [C1.inj X pins σ H s _ _ rfl I hl q1]; exact hx, fun l hl => by rw [C2.inj X pins σ H s _ _ rfl I hl q2]; exact hy⟩, ⟨z'', ?_, ⟨u, u2, ?_⟩, ?_, ?_⟩, fun c hcm => ?_⟩
    · exact (sb.2 _ D.TIz).trans (hk _ _ D.TIz D.TITO D.TIi1 D.TIi2 hTI)
    · exact (sb.2 _ D.TOz).trans TO'
    · exact C1.keep _ _ _ (b1 _ _ (by omega) s1') fun o q => (sb.2 _ (Ne.symm D.zi1)).trans q
    · exact C2.keep _ _ _ (b2 _ _ (by omega) s2') fun o q => (sb.2 _ (Ne.symm D.zi2)).trans q
    · have hlt : c < s.heap.objs.size := by
        have e' : c = z ∨ c = TI ∨ c = TO ∨ c = i1 ∨ c = i2 := by simpa using hcm
        rcases e' with rfl | rfl | rfl | rfl | rfl
        · exact hzl
        · exact Heap.lt_size hTI
        · exact Heap.lt_size hTO
        · obtain ⟨_, e1, _⟩ := C1.obj _ _ h1; exact Heap.lt_size e1
        · obtain ⟨_, e2, _⟩ := C2.obj _ _ h2; exact Heap.lt_size e2
      rw [upd_ne (Nat.ne_of_lt hlt)]
      exact (hf c hcm).1
  done := by
    intro X hP hw hK hc i pins s σ H E I hf st hg
    subst hP hw hK
    obtain ⟨hz, hTI, ⟨x0, y0, hTO⟩, h1, h2⟩ := st
    obtain ⟨xs, ys, q1, q2, lx, ly, hend⟩ := hg
    obtain ⟨St1, D1, s1, b1⟩ := C1.run X pins σ H s xs i rfl rfl rfl I (I.ok.hd hc) q1 h1 lx
    obtain ⟨St2, D2, s2, b2⟩ := C2.run X pins σ H s ys i rfl rfl rfl I (I.ok.hd hc) q2 h2 ly
    exact wpAny_pyNext_zipD2_end D D1 D2 hz hTI hTO s1 s2 lx ly hend fun h' tk hk => ⟨rfl, I.turnedL (t' := tk) (ch := [z, TI, TO, i1, i2]) (fun c o hb q =>
      hk c o (fun q' => hb (by simp [q'])) (fun q' => hb (by simp [q'])) (fun q' => hb (by simp [q'])) (fun q' => hb (by simp [q'])) q) hf⟩
  self := fun A i s Q E st h => wpAny_pyIter_zip st.1 h
theorem walk_zipG {S1 S2 : Hp → List V → Prop} {xs ys : List V} (hl : xs.length = ys.length) : Walk (ItzG S1 S2) xs.length (fun H => S1 H xs ∧ S2 H ys) (YPair (fun i => xs[i]?) (fun i => ys[i]?)) := by
  refine ⟨fun i H hi q => ⟨xs, ys, xs[i], ys[i], q.1, q.2, by simp [hi], by simp [show i < ys.length by omega]⟩, fun _ q => ⟨xs, ys, q.1, q.2, Nat.le_refl _, by omega, .inl rfl⟩, fun i H v H' _ q y => ?_⟩
  obtain ⟨T, x, z, h1, h2, h3, h4, h5⟩ := y
  exact ⟨T, x, z, h1, h2, h3, h4 xs q.1, h5 ys q.2⟩
end BF
namespace BF
open PySem PySem.Spec PyProof.Rows L2 TL
theorem nne {a b : Nat} (h : a < b ∨ b < a) : a ≠ b := by omega
theorem notin2 {a b c : Nat} (h1 : c < a ∨ a < c) (h2 : c < b ∨ b < c) : c ∉ [a, b] := by
  simp
  omega
theorem sepT {N a b : Nat} (ha : a < N) (hb : b < N) : ZipSep2 (N + 4) (N + 2) (N + 3) N (N + 1) [N, a] [N + 1, b] :=
  ⟨nne (by omega), nne (by omega), nne (by omega), nne (by omega), by simp, notin2 (by omega) (by omega), notin2 (by omega) (by omega), nne (by omega), by simp, notin2 (by omega) (by omega), notin2 (by omega) (by omega), notin2 (by omega) (by omega), notin2 (by omega) (by omega)⟩
theorem sepR {N a b : Nat} (ha : a < N) (hb : b < N) : ZipSep2 (N + 1 + 3) (N + 1 + 1) (N + 1 + 2) (N + 1) N [N + 1, a] [N, b] :=
  ⟨nne (by omega), nne (by omega), nne (by omega), nne (by omega), by simp, notin2 (by omega) (by omega), notin2 (by omega) (by omega), nne (by omega), by simp, notin2 (by omega) (by omega), notin2 (by omega) (by omega), notin2 (by omega) (by omega), notin2 (by omega) (by omega)⟩
theorem ge5 {N a b c d e x : Nat} (h : x ∈ [a, b, c, d, e]) (ha : N ≤ a) (hb : N ≤ b) (hc : N ≤ c) (hd : N ≤ d) (he : N ≤ e) : N ≤ x := by
  simp at h
  omega
/-! ### zip(tuple, list) -/
def iZipTL (K : PySem.W.Frag) (ta : TA) : TI := fun σ H R => ta σ H fun vs H1 => ∃ a b xs ys, vs = [.ref a, .ref b] ∧ SqT K H1 a xs ∧ SqL K H1 b ys ∧ R (ItzG (fun H xs => SqT K H a xs) (fun H ys => SqL K H b ys)) H1
theorem pi_zipTL {X : Cx} {e e2 : Expr} {ta : TA} {p pos tpos : Pos} {elts : List Expr} {kk : Nat} (hg : Gl X "zip") (hm : X.mg "zip" = none) (ha : PA X [e, e2] ta)
    (hs : starEach [e, e2] X.env = (false, eval e X.env) :: starEach [e2] X.env := by rfl) (hpl : (backTo pos (starEach [e2] X.env)).any (·.1) = false := by rfl) :
    PI X (.Tuple elts kk tpos) (.Call (.Name "zip" p) [e, e2] [] pos) (iZipTL X.K ta) := by
  refine ⟨fun pins s σ H R I h => ?_⟩
  refine Call_ (ld_blt I hg hm PyProof.Rows.boot_zip (PyProof.Rows.callWith_type1 (thn (ha.run pos pins s σ H _ I h) fun us s1 hh => ?_) hs hpl))
  obtain ⟨vs, H1, I1, r1, a, b, xs, ys, rfl, hqx, hqy, q⟩ := hh
  cases r1 with
  | cons r rr =>
    cases rr with
    | cons r' rr =>
      cases rr
      cases r
      cases r'
      obtain ⟨its, rv, p1, _⟩ := I1.tuple hqx
      obtain ⟨its2, rv2, p2, _⟩ := I1.list hqy
      obtain ⟨o1, ho1, _⟩ := id p1
      have la : a < s1.heap.objs.size := Heap.lt_size ho1
      have lb : b < s1.heap.objs.size := p2.lt
      refine zip_begins2 (begins_tuple a its.toArray) (begins_list b its2.toArray) p1 p2.isList fun h' hz hTI hTO g1 g2 hsz hk => wpAny_pyIter_zip hz ?_
      have I2 : Inv X pins σ H1 { s1 with heap := h' } := I1.kept (t' := s1.toks) hk
      have D := sepT la lb
      refine ⟨s1.heap.objs.size + 4, [s1.heap.objs.size + 4, s1.heap.objs.size + 2, s1.heap.objs.size + 3, s1.heap.objs.size, s1.heap.objs.size + 1], _, _, H1, rfl, I2, turn_zipG D (src_tup (l := a) (Nat.ne_of_lt la)) (src_list (l := b) (Nat.ne_of_lt (Nat.lt_succ_of_lt lb))), ⟨hz, hTI, ⟨_, _, hTO⟩, ⟨_, g1, rfl, rfl⟩, ⟨_, g2, rfl, rfl⟩⟩, fun c hcm => ?_, q⟩
      have hle : s1.heap.objs.size ≤ c := ge5 hcm (Nat.le_add_right _ _) (Nat.le_add_right _ _) (Nat.le_add_right _ _) (Nat.le_refl _) (Nat.le_add_right _ _)
      exact I1.fpOk hle (I1.hok.fresh hle)
/-! ### zip(list, reversed(list)) -/
section
variable {prog : Program} {w : World} {A : Around} {E : Value → Shared → Prop} {s : Shared}
abbrev zrT (h : Heap) (o1 : Obj) (r : Addr) : Heap := (h.push o1).push { cls := .type "tuple", data := .seq #[.ref h.objs.size, .ref r] }
abbrev zrO (h : Heap) (o1 : Obj) (r : Addr) : Heap := (zrT h o1 r).push { cls := .type "tuple", data := .seq #[.none, .none] }
abbrev zrZ (h : Heap) (o1 : Obj) (r : Addr) : Heap := (zrO h o1 r).push { cls := .type "zip", data := .fields #[.none, .bool false, .bool false, .ref (h.push o1).objs.size, .ref (zrT h o1 r).objs.size] }
theorem zip_newR {v1 : Value} {o1 : Obj} {H1 : Heap → Prop} (B1 : Begins v1 o1 H1) (r l : Addr) (k : Int) :
    Meets (Builtin.«zip.__new__» ⟨[.type "zip", v1, .ref r], []⟩) (fun _ R s => (H1 s.heap ∧ s.heap.IsRevIter r l k) ∧
      R (.ok (.ret (.ref (zrO s.heap o1 r).objs.size))) { s with heap := zrZ s.heap o1 r }) :=
  .of_wp fun prog w A R s h => by
    obtain ⟨hp, g, d, tk, os⟩ := s
    obtain ⟨⟨h1, h2⟩, h⟩ := h
    have hsub := sub_zip
    have q1 : ∀ {A' : Around} {E : Value → Shared → Prop} {Q : Value → Shared → Prop}, Q (.ref hp.objs.size) ⟨(hp.push o1), g, d, tk, os⟩ → wpAny (model prog w) A' (pyIter v1) Q E ⟨hp, g, d, tk, os⟩ :=
      fun q => B1.iter prog w _ _ ⟨hp, g, d, tk, os⟩ _ (B1.keeps _ _ h1 fun b o' e => e) q
    have q2 : ∀ {A' : Around} {E : Value → Shared → Prop} {Q : Value → Shared → Prop}, Q (.ref r) ⟨hp.push o1, g, d, tk, os⟩ → wpAny (model prog w) A' (pyIter (.ref r)) Q E ⟨hp.push o1, g, d, tk, os⟩ :=
      fun q => wpAny_pyIter_revIter (s := ⟨hp.push o1, g, d, tk, os⟩) (h2.at fun o e => Heap.get?_push_of_some _ e) q
    wp_walk using q1, q2
    exact ⟨_, rfl, h⟩
theorem zip_beginsR {v1 : Value} {o1 : Obj} {H1 : Heap → Prop} {r l : Addr} {k : Int} {Q : Value → Shared → Prop} (B1 : Begins v1 o1 H1) (h1 : H1 s.heap) (h2 : s.heap.IsRevIter r l k)
    (h : ∀ h', IsZip h' (s.heap.objs.size + 3) (s.heap.objs.size + 1) (s.heap.objs.size + 2) .none → IsTupOf2 h' (s.heap.objs.size + 1) (.ref s.heap.objs.size) (.ref r) →
      IsTupOf2 h' (s.heap.objs.size + 2) .none .none → h'.get? s.heap.objs.size = some o1 → (∀ c o, s.heap.get? c = some o → h'.get? c = some o) → Q (.ref (s.heap.objs.size + 3)) { s with heap := h' }) :
    wpAny (model prog w) A (call (.type "zip") [v1, .ref r]) Q E s := by
  refine callType_new F.called_zip (by decide) (F.typeCall_zip_2 _ _) (F.newCall_zip_2 _ _) (fun obj => F.args_object_init_3 obj _ _) F.entry_zip_new (zip_newR B1 r l k) ⟨⟨h1, h2⟩, ?_⟩
  have z1 : (s.heap.push o1).objs.size = s.heap.objs.size + 1 := by rw [Heap.size_push]
  have zT : (zrT s.heap o1 r).objs.size = s.heap.objs.size + 2 := by rw [Heap.size_push, z1]
  have zO : (zrO s.heap o1 r).objs.size = s.heap.objs.size + 3 := by rw [Heap.size_push, zT]
  have gZ : (zrZ s.heap o1 r).get? (zrO s.heap o1 r).objs.size = some { cls := .type "zip", data := .fields #[.none, .bool false, .bool false, .ref (s.heap.push o1).objs.size, .ref (zrT s.heap o1 r).objs.size] } := Heap.get?_push_size _ rfl
  have gO : (zrZ s.heap o1 r).get? (zrT s.heap o1 r).objs.size = some { cls := .type "tuple", data := .seq #[.none, .none] } := Heap.get?_push_of_some _ (Heap.get?_push_size _ rfl)
  have gT : (zrZ s.heap o1 r).get? (s.heap.push o1).objs.size = some { cls := .type "tuple", data := .seq #[.ref s.heap.objs.size, .ref r] } := Heap.get?_push_of_some _ (Heap.get?_push_of_some _ (Heap.get?_push_size _ rfl))
  have g1 : (zrZ s.heap o1 r).get? s.heap.objs.size = some o1 := Heap.get?_push_of_some _ (Heap.get?_push_of_some _ (Heap.get?_push_of_some _ (Heap.get?_push_size _ B1.free)))
  rw [zO, zT, z1] at gZ
  rw [zT] at gO
  rw [z1] at gT
  show _ ∧ _
  rw [zO]
  exact ⟨⟨_, gZ, rfl⟩, h _ gZ gT gO g1 fun c o e => Heap.get?_push_of_some _ (Heap.get?_push_of_some _ (Heap.get?_push_of_some _ (Heap.get?_push_of_some _ e)))⟩
end
def iZipR (K : PySem.W.Frag) (ta tb : TE) : TI := fun σ H R => ta σ H fun x H1 => tb σ H1 fun y H2 => ∃ a b xs ys, x = .ref a ∧ y = .ref b ∧ SqL K H2 a xs ∧ SqL K H2 b ys ∧ R (ItzG (fun H zs => SqL K H a zs) (fun H zs => ∃ ws, SqL K H b ws ∧ ws.length = ys.length ∧ zs = ws.reverse)) H2
theorem pi_zipRev {X : Cx} {e e2 : Expr} {ta tb : TE} {p p2 pos pos2 tpos : Pos} {elts : List Expr} {kk : Nat} (hg : Gl X "zip") (hm : X.mg "zip" = none) (hg2 : Gl X "reversed") (hm2 : X.mg "reversed" = none) (ha : PE X e ta) (hb : PE X e2 tb)
    (n0 : starEach [e, .Call (.Name "reversed" p2) [e2] [] pos2] X.env = (false, eval e X.env) :: starEach [.Call (.Name "reversed" p2) [e2] [] pos2] X.env := by rfl)
    (n1 : starEach [.Call (.Name "reversed" p2) [e2] [] pos2] X.env = (false, eval (.Call (.Name "reversed" p2) [e2] [] pos2) X.env) :: starEach [] X.env := by rfl)
    (n2 : starEach [e2] X.env = (false, eval e2 X.env) :: starEach [] X.env := by rfl)
    (hpl : (backTo pos (starEach [.Call (.Name "reversed" p2) [e2] [] pos2] X.env)).any (·.1) = false := by rfl) :
    PI X (.Tuple elts kk tpos) (.Call (.Name "zip" p) [e, .Call (.Name "reversed" p2) [e2] [] pos2] [] pos) (iZipR X.K ta tb) := by
  refine ⟨fun pins s σ H R I h => ?_⟩
  refine Call_ (ld_blt I hg hm PyProof.Rows.boot_zip (PyProof.Rows.callWith_type1 ?_ n0 hpl))
  refine PyProof.Rows.args_cons (thn (ha.run pins s σ H _ I h) fun u1 s1 hh => ?_) n0
  obtain ⟨x, H1, I1, rx, q1⟩ := hh
  refine PyProof.Rows.args_cons ?_ n1
  refine Call_ (ld_blt I1 hg2 hm2 PyProof.Rows.boot_reversed (PyProof.Rows.callWith_type1 (PyProof.Rows.args_cons (thn (hb.run pins s1 σ H1 _ I1 q1) fun u2 s2 hh => PyProof.Rows.args_nil ?_) n2) n2 rfl))
  obtain ⟨y, H2, I2, ry, a, b, xs, ys, rfl, rfl, hqx, hqy, q⟩ := hh
  cases rx
  cases ry
  obtain ⟨its, rv, p1, _⟩ := I2.list hqx
  obtain ⟨its2, rv2, p2', _⟩ := I2.list hqy
  have hl := rv2.length
  have la : a < s2.heap.objs.size := p1.lt
  have lb : b < s2.heap.objs.size := p2'.lt
  refine call_reversed_list p2'.isList (PyProof.Rows.args_nil ?_)
  have kk0 : ∀ c o, s2.heap.get? c = some o → (s2.heap.push (revObj b ((its2.toArray.size : Int) - 1))).get? c = some o := fun c o e => Heap.get?_push_of_some _ e
  have hrev : (s2.heap.push (revObj b ((its2.toArray.size : Int) - 1))).IsRevIter s2.heap.objs.size b ((its2.toArray.size : Int) - 1) := ⟨_, Heap.get?_push_size _ rfl, rfl, rfl⟩
  have hsz : (s2.heap.push (revObj b ((its2.toArray.size : Int) - 1))).objs.size = s2.heap.objs.size + 1 := by rw [Heap.size_push]
  refine zip_beginsR (s := { s2 with heap := s2.heap.push (revObj b ((its2.toArray.size : Int) - 1)) }) (begins_list a its.toArray) (p1.isList.at fun o e => kk0 _ o e) hrev fun h' hz hTI hTO g1 hk => wpAny_pyIter_zip hz ?_
  have hk2 : ∀ c o, s2.heap.get? c = some o → h'.get? c = some o := fun c o e => hk c o (kk0 c o e)
  have I3 : Inv X pins σ H2 { s2 with heap := h' } := I2.kept (t' := s2.toks) hk2
  have gr : h'.IsRevIter s2.heap.objs.size b ((its2.toArray.size : Int) - 1) := hrev.at fun o e => hk _ o e
  dsimp only at hz hTI hTO g1 ⊢
  rw [hsz] at hz hTI hTO g1 ⊢
  have D := sepR la lb
  refine ⟨s2.heap.objs.size + 1 + 3, [s2.heap.objs.size + 1 + 3, s2.heap.objs.size + 1 + 1, s2.heap.objs.size + 1 + 2, s2.heap.objs.size + 1, s2.heap.objs.size], _, _, H2, rfl, I3, turn_zipG D (src_list (l := a) (Nat.ne_of_lt (Nat.lt_succ_of_lt la))) (src_rev (l := b) (n := ys.length) (Nat.ne_of_lt lb)), ⟨hz, hTI, ⟨_, _, hTO⟩, ⟨_, g1, rfl, rfl⟩, ⟨by omega, ?_⟩⟩, fun c hcm => ?_, q⟩
  · have e1 : (ys.length : Int) - 1 - ((0 : Nat) : Int) = (its2.toArray.size : Int) - 1 := by simp only [List.size_toArray]; omega
    rw [e1]
    exact gr
  · have hle : s2.heap.objs.size ≤ c := ge5 hcm (Nat.le_add_right _ (1 + 3)) (Nat.le_add_right _ (1 + 1)) (Nat.le_add_right _ (1 + 2)) (Nat.le_add_right _ _) (Nat.le_refl _)
    exact I2.fpOk hle (I2.hok.fresh hle)
end BF
namespace BF
open PySem PySem.Spec PyProof.Rows L2 TL
local macro_rules | `(tactic| walk_at "rd") => `(tactic| repeat (first
  | with_reducible refine w_var rfl ?_ | with_reducible refine w_c ?_ | with_reducible refine w_seq ?_ | with_reducible refine w_op ?_
  | with_reducible refine w_asg ?_ | with_reducible refine w_name ?_ | with_reducible refine w_ret ?_ | with_reducible refine w_drop ?_ | with_reducible refine w_next ?_
  | with_reducible refine w_if ?_ | with_reducible refine w_test ?_ | with_reducible refine w_B ?_ | with_reducible refine w_bl ?_ | with_reducible refine w_not ?_
  | with_reducible refine w_and ?_ | with_reducible refine w_or ?_ | with_reducible refine w_nil ?_ | with_reducible refine w_cons ?_ | with_reducible refine w_cb ?_
  | with_reducible refine w_chain ?_ | with_reducible refine w_call ?_ | with_reducible refine w_un ?_ | with_reducible refine w_neg ?_
  | with_reducible refine w_andV ?_ | with_reducible refine w_orV ?_ | with_reducible refine w_notV ?_ | with_reducible refine w_iteT ?_ | with_reducible refine w_iteF ?_ | with_reducible refine w_ntT ?_ | with_reducible refine w_ntF ?_
  | with_reducible refine g_add ?_ | with_reducible refine g_sub ?_ | with_reducible refine g_cmp ?_ | with_reducible refine g_eqI ?_ | with_reducible refine g_neI ?_ | with_reducible refine g_eqS ?_ | with_reducible refine g_neS ?_
  | with_reducible refine w_min ?_ | with_reducible refine w_max ?_ | with_reducible refine w_isN ?_ | with_reducible refine w_notN ?_ | with_reducible refine w_notSg ?_ | with_reducible refine w_gcons ?_ | with_reducible refine w_gnil ?_ | with_reducible refine w_sl ?_ | with_reducible refine w_noP ?_ | with_reducible refine w_part ?_ | with_reducible refine w_int1 ?_ | with_reducible refine w_tup ?_ | with_reducible refine w_lst ?_ | with_reducible refine g_intB ?_ | with_reducible refine w_fld ?_ | with_reducible refine w_meth ?_ | with_reducible refine w_make ?_
  | with_reducible refine w_lc ?_ | with_reducible refine w_for ?_ | with_reducible refine w_iL ?_ | with_reducible refine w_iT ?_ | with_reducible refine w_iS ?_ | with_reducible refine w_iRev ?_ | with_reducible refine w_iEn ?_ | with_reducible refine w_iZip ?_ | with_reducible refine w_iR1 ?_
  | with_reducible refine w_bm ?_ | with_reducible refine w_bm0 ?_ | with_reducible refine w_M1 ?_ | with_reducible refine w_isStr ?_
  | dsimp only))
local macro_rules | `(tactic| walk_at "same") => `(tactic| first | exact Same.refl _ | assumption | exact Stp.g (by assumption) | (refine Same.trans (Stp.g (by assumption)) ?_; walk_at "same"))
local macro_rules | `(tactic| walk_at "k") => `(tactic| first | assumption | exact Stp.k (by assumption) | exact Acc.k (by assumption))
local macro_rules | `(tactic| walk_at "stp") => `(tactic| first | assumption | exact Stp.refl (by walk_at "k") | (refine Stp.trans (by assumption) ?_; walk_at "stp"))
local macro_rules | `(tactic| walk_at "up") => `(tactic| first | assumption | exact up (by assumption) (by walk_at "same"))
local macro_rules | `(tactic| walk_at "gh") => `(tactic| first | assumption | exact Stp.k (by assumption) | (refine Same.trans (Stp.g (by assumption)) ?_; walk_at "gh"))
local macro_rules | `(tactic| walk_at "at") => `(tactic| first | assumption | exact at_ (by assumption) (by walk_at "gh"))
local macro_rules | `(tactic| walk_at "L") => `(tactic| exact SqL.of (by walk_at "at"))
local macro_rules | `(tactic| walk_at "T") => `(tactic| exact SqT.of (by walk_at "at"))
local macro_rules | `(tactic| walk_at "o1") => `(tactic| first | with_reducible refine w_yes (by first | assumption | omega) ?_ | with_reducible refine w_no (by first | assumption | omega) ?_ | with_reducible refine w_yesN (by first | assumption | omega) ?_ | with_reducible refine w_noN (by first | assumption | omega) ?_)
local macro_rules | `(tactic| walk_at "o") => `(tactic| (walk_at "rd"; repeat (walk_at "o1"; walk_at "rd")))

/-- what a layout must be -/
structure OkLay (y : Lay) : Prop where
  u0 : 0 ≤ y.u
  u1 : y.u ≤ 6
  w0 : 1 ≤ y.w
  w1 : y.w ≤ 20
  l0 : 0 ≤ y.l
  l1 : y.l ≤ 24
  b0 : 2 ≤ y.b
  b1 : y.b ≤ 25
  uw : y.u = 0 → y.w = 1
  lw : 0 < y.u → y.w - 1 ≤ y.l
  full : y.b - 1 ≤ y.u * y.w + y.l
section
variable {P : Program} {w : World} {K : PySem.W.Frag} {mg : Str → Option Value} {base : Heap}
def spWhole : Sp := fun vs H Q _ => ∃ i : Int, vs = [.int i] ∧ Q (.bl true) H
theorem ok_is_whole (T : Bas K mg) (D : Std K mg "is_whole" "is_whole" "is_whole" s_is_whole ["thing"]) : Cal P w K mg base CX0 "is_whole" ["thing"] 1 spWhole := by
  refine D.cal sc_is_whole (fun vs H Q E h => ?_) (fun f cdv A outer s H vs Q E hr h => ?_)
  · obtain ⟨i, rfl, _⟩ := h; rfl
  · obtain ⟨i, rfl, q⟩ := h
    refine ⟨_, (pss_one (ps_ret (pe_and (pe_callB call_isi (by rfl) T.z_isinstance boot_isinstance (pa_cons (pv 0) (pa_cons (pe_tyn T.z_int boot_int) pa_nil))) (pe_one (pe_not (pe_callB call_isi (by rfl) T.z_isinstance boot_isinstance (pa_cons (pv 0) (pa_cons (pe_tyn T.z_bool boot_bool) pa_nil)))))))), ?_⟩
    walk_at "rd"
    refine w_isi (.base (.int i)) (c := true) (kit_ty (by decide +kernel)) ?_
    walk_at "rd"
    refine w_isi (.base (.int i)) (c := false) (kit_ty (by decide +kernel)) ?_
    walk_at "rd"
    exact q
def spFull : Sp := fun vs H Q _ => ∃ (G : Hp) (y : Lay) (v : V), vs = [v] ∧ Same G H ∧ RLay G v y ∧ 0 ≤ y.u ∧ y.u ≤ 1000 ∧ Q (.int (y.u * y.w + y.l)) H
theorem ok_full_worth (T : Bas K mg) (D : Std K mg "full_worth" "full_worth" "full_worth" s_full_worth ["layout"]) : Cal P w K mg base CX0 "full_worth" ["layout"] 1 spFull := by
  refine D.cal sc_full_worth (fun vs H Q E h => ?_) (fun f cdv A outer s H vs Q E hr h => ?_)
  · obtain ⟨G, y, v, rfl, _⟩ := h; rfl
  · obtain ⟨G, y, v, rfl, k, ⟨p, rfl, hp⟩, h0, h1, q⟩ := h
    refine ⟨_, (pss_cons (ps_asg (pv 0) (pg_tup rfl (pgs_cons (pg_name (i := 1) sc_full_worth.nd rfl (by first | exact Or.inl rfl | exact Or.inr rfl)) (pgs_cons (pg_name (i := 2) sc_full_worth.nd rfl (by first | exact Or.inl rfl | exact Or.inr rfl)) (pgs_cons (pg_name (i := 3) sc_full_worth.nd rfl (by first | exact Or.inl rfl | exact Or.inr rfl)) (pgs_cons (pg_name (i := 4) sc_full_worth.nd rfl (by first | exact Or.inl rfl | exact Or.inr rfl)) pgs_nil))))))
  (pss_one (ps_ret (pe_op opAdd (pe_op opMul (pv 1) (pv 2)) (pv 3))))), ?_⟩
    walk_at "rd"
    refine w_gtup (by walk_at "T") rfl ?_
    unfold layV
    walk_at "rd"
    refine g_mul (.inl (by omega)) ?_
    walk_at "rd"
    exact q
def spIsLay : Sp := fun vs H Q _ => ∃ (G : Hp) (y : Lay) (v : V), vs = [v] ∧ Same G H ∧ RLay G v y ∧ OkLay y ∧ Q (.bl true) H
theorem ok_is_layout (T : Bas K mg) (f_is_whole : Cal P w K mg base CX0 "is_whole" ["thing"] 1 spWhole) (f_full_worth : Cal P w K mg base CX0 "full_worth" ["layout"] 1 spFull)
    (D : Std K mg "is_layout" "is_layout" "is_layout" s_is_layout ["thing"]) : Cal P w K mg base CX0 "is_layout" ["thing"] 2 spIsLay := by
  refine D.cal sc_is_layout (fun vs H Q E h => ?_) (fun f cdv A outer s H vs Q E hr h => ?_)
  · obtain ⟨G, y, v, rfl, _⟩ := h; rfl
  · obtain ⟨G, y, v, rfl, k, ⟨p, rfl, hp⟩, o, q⟩ := h
    have hp' : H p = some (.tup (layV y)) := k _ _ hp
    refine ⟨_, (pss_cons (ps_if (PW.pt (pw_or (pt_not (pt_val (pe_callB call_isi (by rfl) T.z_isinstance boot_isinstance (pa_cons (pv 0) (pa_cons (pe_tyn T.z_tuple boot_tuple) pa_nil))))) (pw_or1 (pt_cmpR (opNe hr) (pe_callB callLen (by rfl) T.z_len PySem.boot_len (pa_cons (pv 0) pa_nil)) pe_int (nomark _))))) (pss_one (ps_ret pe_bl)) pss_nil)
  (pss_cons (ps_for PassesOwn.never rfl (pi_tup (pv 0)) (pg_name (i := 1) sc_is_layout.nd rfl (by first | exact Or.inl rfl | exact Or.inr rfl))
  (pss_one (ps_if (pt_not (pt_val (pe_cal f_is_whole hr (by decide) pass0 (pa_cons (pv 1) pa_nil)))) (pss_one (ps_ret pe_bl)) pss_nil)))
  (pss_cons (ps_asg (pv 0) (pg_tup rfl (pgs_cons (pg_name (i := 2) sc_is_layout.nd rfl (by first | exact Or.inl rfl | exact Or.inr rfl)) (pgs_cons (pg_name (i := 3) sc_is_layout.nd rfl (by first | exact Or.inl rfl | exact Or.inr rfl)) (pgs_cons (pg_name (i := 4) sc_is_layout.nd rfl (by first | exact Or.inl rfl | exact Or.inr rfl)) (pgs_cons (pg_name (i := 5) sc_is_layout.nd rfl (by first | exact Or.inl rfl | exact Or.inr rfl)) pgs_nil))))))
  (pss_cons (ps_if (PW.pt (pw_or (pt_not (pt_chain op_le op_le pe_int (pv 2) (pe_gc T.c_MOST_UPPER))) (pw_or1 (pt_not (pt_chain op_le op_le pe_int (pv 3) (pe_gc T.c_MOST_WORTH)))))) (pss_one (ps_ret pe_bl)) pss_nil)
  (pss_cons (ps_if (PW.pt (pw_or (pt_not (pt_chain op_le op_le pe_int (pv 4) (pe_gc T.c_MOST_LOWER))) (pw_or1 (pt_not (pt_chain op_le op_le pe_int (pv 5) (pe_gc T.c_MOST_BASE)))))) (pss_one (ps_ret pe_bl)) pss_nil)
  (pss_cons (ps_if (PW.pt (pw_or (PW.pt (pw_and (pt_cmpR (opEq hr) (pv 2) pe_int (nomark _)) (pw_and1 (pt_cmpR (opNe hr) (pv 3) pe_int (nomark _))))) (pw_or1 (PW.pt (pw_and (pt_cmpR op_gt (pv 2) pe_int (nomark _)) (pw_and1 (pt_cmpR op_lt (pv 4) (pe_op op_sub (pv 3) pe_int) (nomark _)))))))) (pss_one (ps_ret pe_bl)) pss_nil)
  (pss_one (ps_ret (pe_cmpR op_ge (pe_cal f_full_worth hr (by decide) pass0 (pa_cons (pv 0) pa_nil)) (pe_op op_sub (pv 5) pe_int) (nomark _)))))))))), ?_⟩
    walk_at "rd"
    refine w_isi (.base (.tup hp')) (c := true) (kit_ty (by decide +kernel)) ?_
    walk_at "rd"
    refine w_lenT (by walk_at "T") ?_
    walk_at "rd"
    refine w_iteN (fun c => absurd rfl c) fun _ => ?_
    walk_at "rd"
    refine ⟨p, rfl, ⟨_, by walk_at "T"⟩, for_go (walk_tup (xs := layV y)) (fun i σ H' => H' = H ∧ ∃ o, σ = [some (.ref p), o, none, none, none, none]) ⟨rfl, _, rfl⟩ ?_ ?_ ?_⟩
    · rintro i σ H' _ ⟨rfl, _⟩
      exact SqT.of hp'
    · rintro i x σ H1 H' hi ⟨rfl, o2, rfl⟩ ⟨rfl, hx⟩
      obtain ⟨n, rfl⟩ : ∃ n, x = V.int n := by
        have hm := List.mem_of_getElem? hx
        unfold layV at hm
        simp only [List.mem_cons, List.not_mem_nil, or_false] at hm
        rcases hm with e | e | e | e <;> exact ⟨_, e⟩
      walk_at "rd"
      refine ⟨_, rfl, ?_⟩
      walk_at "rd"
      exact ⟨rfl, _, rfl⟩
    · rintro σ H' ⟨rfl, o2, rfl⟩
      obtain ⟨h1, h2, h3, h4, h5, h6, h7, h8, h9, h10, h11⟩ := o
      walk_at "rd"
      refine w_gtup (by walk_at "T") rfl ?_
      unfold layV
      walk_at "rd"
      walk_at "o"
      refine w_ite (fun c => ?_) (fun c => ?_)
      · walk_at "rd"
        refine w_noN (by have := h9 c; omega) ?_
        walk_at "rd"
        refine w_no (by omega) ?_
        walk_at "rd"
        refine ⟨G, y, _, rfl, by walk_at "k", ⟨p, rfl, hp⟩, h1, by omega, ?_⟩
        walk_at "rd"
        rw [decide_eq_true (by omega)]
        exact q
      · walk_at "rd"
        refine w_yes (by omega) ?_
        walk_at "rd"
        refine w_no (by have := h10 (by omega); omega) ?_
        walk_at "rd"
        refine ⟨G, y, _, rfl, by walk_at "k", ⟨p, rfl, hp⟩, h1, by omega, ?_⟩
        walk_at "rd"
        rw [decide_eq_true (by omega)]
        exact q
def spSmallL : Sp := fun vs H Q _ => ∃ n : Int, vs = [.str (numT n)] ∧ 0 ≤ n ∧ n < 100 ∧ Q (.int n) H
theorem ok_small_number_layouts (T : Bas K mg) (D : Std K mg "small_number_layouts" "small_number" "small_number" s_small_number_layouts ["word"]) : Cal P w K mg base CX0 "small_number_layouts" ["word"] 1 spSmallL := by
  refine D.cal sc_small_number_layouts (fun vs H Q E h => ?_) (fun f cdv A outer s H vs Q E hr h => ?_)
  · obtain ⟨n, rfl, _⟩ := h; rfl
  · obtain ⟨n, rfl, h0, h1, q⟩ := h
    obtain ⟨l0, l1⟩ := num_len h0 h1
    have ls : (numT n).length ≤ sizeLine := by rw [sizeLine_eq]; omega
    refine ⟨_, (pss_cons (ps_if (PW.pt (pw_or (pt_not (pt_chain op_le op_le pe_int (pe_callB callLen (by rfl) T.z_len PySem.boot_len (pa_cons (pv 0) pa_nil)) (pe_gc T.c_MOST_FIGURES_layouts))) (pw_or1 (PW.pt (pw_and (pt_cmpR op_gt (pe_callB callLen (by rfl) T.z_len PySem.boot_len (pa_cons (pv 0) pa_nil)) pe_int (nomark _)) (pw_and1 (pt_cmpR (opEq hr) (pe_ix ix_seq (pv 0) pe_int (fun _ _ => rfl)) pe_str (nomark _)))))))) (pss_one (ps_ret pe_non)) pss_nil)
  (pss_cons (ps_for PassesOwn.never rfl (pi_str (pv 0)) (pg_name (i := 1) sc_small_number_layouts.nd rfl (by first | exact Or.inl rfl | exact Or.inr rfl))
  (pss_one (ps_if (pt_cmpR opNotSg (pv 1) (pe_gc T.c_FIGURES_layouts) (by rfl)) (pss_one (ps_ret pe_non)) pss_nil)))
  (pss_one (ps_ret (pe_callTy callInt (by rfl) T.z_int boot_int (pa_cons (pv 0) pa_nil)))))), ?_⟩
    walk_at "o"
    refine w_lenS ls ?_
    walk_at "o"
    refine w_lenS ls ?_
    walk_at "rd"
    refine w_ite (fun c => ?_) (fun c => ?_)
    · walk_at "rd"
      obtain ⟨c0, e0⟩ : ∃ c0, (numT n).cps.toList[0]? = some c0 := ⟨_, List.getElem?_eq_getElem (by rw [len_tl] at l0; exact l0)⟩
      refine g_ixS ls (atI_nat (j := 0) e0) ?_
      walk_at "rd"
      have hne : ¬ ((⟨#[c0]⟩ : Str) = "0") := fun e => num_head h0 h1 (by omega) e0 (by
        have e2 : tl (⟨#[c0]⟩ : Str) = tl ("0" : Str) := by rw [e]
        have e3 : tl ("0" : Str) = [48] := by decide +kernel
        rw [e3] at e2
        simpa [tl] using e2)
      refine w_no hne ?_
      walk_at "rd"
      refine ⟨_, rfl, for_go walk_str (fun i σ H' => H' = H ∧ ∃ o, σ = [some (.str (numT n)), o]) ⟨rfl, _, rfl⟩ (fun _ _ _ _ _ => True.intro) ?_ ?_⟩
      · rintro i x σ H1 H' hi ⟨rfl, o2, rfl⟩ ⟨rfl, cc, hc, rfl⟩
        have hm : cc ∈ tl ("0123456789" : Str) := num_figs h0 h1 (Array.mem_toList_iff.mpr (Array.mem_of_getElem? hc))
        walk_at "rd"
        refine w_noN hm ?_
        walk_at "rd"
        exact ⟨rfl, _, rfl⟩
      · rintro σ H' ⟨rfl, o2, rfl⟩
        walk_at "rd"
        refine g_intS (num_int h0 h1) (by omega) ?_
        exact q
    · walk_at "rd"
      refine ⟨_, rfl, for_go walk_str (fun i σ H' => H' = H ∧ ∃ o, σ = [some (.str (numT n)), o]) ⟨rfl, _, rfl⟩ (fun _ _ _ _ _ => True.intro) ?_ ?_⟩
      · rintro i x σ H1 H' hi ⟨rfl, o2, rfl⟩ ⟨rfl, cc, hc, rfl⟩
        have hm : cc ∈ tl ("0123456789" : Str) := num_figs h0 h1 (Array.mem_toList_iff.mpr (Array.mem_of_getElem? hc))
        walk_at "rd"
        refine w_noN hm ?_
        walk_at "rd"
        exact ⟨rfl, _, rfl⟩
      · rintro σ H' ⟨rfl, o2, rfl⟩
        walk_at "rd"
        refine g_intS (num_int h0 h1) (by omega) ?_
        exact q
theorem lay_len {y : Lay} (o : OkLay y) : y.text.length ≤ 100 := by
  have h1 := num_len o.u0 (by have := o.u1; omega)
  have h2 := num_len (n := y.w) (by have := o.w0; omega) (by have := o.w1; omega)
  have h3 := num_len o.l0 (by have := o.l1; omega)
  have h4 := num_len (n := y.b) (by have := o.b0; omega) (by have := o.b1; omega)
  have e1 : ("x" : Str).length = 1 := by decide +kernel
  have e2 : ("+" : Str).length = 1 := by decide +kernel
  have e3 : (":" : Str).length = 1 := by decide +kernel
  unfold Lay.text
  simp only [app_len, e1, e2, e3]
  omega
theorem lay_len2 {y : Lay} (h : y.text.length ≤ 100) : (numT y.w ++ ("+" ++ (numT y.l ++ (":" ++ numT y.b)))).length ≤ 10000000 ∧ (numT y.l ++ (":" ++ numT y.b)).length ≤ 10000000 := by
  have e : y.text.length = (numT y.u ++ ("x" : Str)).length + (numT y.w ++ ("+" ++ (numT y.l ++ (":" ++ numT y.b)))).length := by
    rw [← app_len]
    unfold Lay.text
    simp only [app_assoc]
  have e2 : (numT y.w ++ ("+" ++ (numT y.l ++ (":" ++ numT y.b)))).length = (numT y.w ++ ("+" : Str)).length + (numT y.l ++ (":" ++ numT y.b)).length := by
    rw [← app_len]
    simp only [app_assoc]
  omega
def spRdLay : Sp := fun vs H Q _ => ∃ (G : Hp) (y : Lay), vs = [.str y.text] ∧ Same G H ∧ OkLay y ∧ ∀ v G' H', Stp G H G' H' → RLay G' v y → Q v H'
theorem ok_read_layout (T : Bas K mg) (f_small_number_layouts : Cal P w K mg base CX0 "small_number_layouts" ["word"] 1 spSmallL) (f_is_layout : Cal P w K mg base CX0 "is_layout" ["thing"] 2 spIsLay)
    (D : Std K mg "read_layout" "read_layout" "read_layout" s_read_layout ["text"]) : Cal P w K mg base CX0 "read_layout" ["text"] 3 spRdLay := by
  refine D.cal sc_read_layout (fun vs H Q E h => ?_) (fun f cdv A outer s H vs Q E hr h => ?_)
  · obtain ⟨G, y, rfl, _⟩ := h; rfl
  · obtain ⟨G, y, rfl, k, o, q⟩ := h
    have ll := lay_len o
    have hw0 : 0 ≤ y.w := by have := o.w0; omega
    have hb0 : 0 ≤ y.b := by have := o.b0; omega
    refine ⟨_, (pss_cons (ps_if (pt_not (pt_val (pe_callB call_isi (by rfl) T.z_isinstance boot_isinstance (pa_cons (pv 0) (pa_cons (pe_tyn T.z_str boot_str) pa_nil))))) (pss_one ps_never) pss_nil)
  (pss_cons (ps_asg (pePart (pv 0) pe_str) (pg_tup rfl (pgs_cons (pg_name (i := 1) sc_read_layout.nd rfl (by first | exact Or.inl rfl | exact Or.inr rfl)) (pgs_cons (pg_name (i := 2) sc_read_layout.nd rfl (by first | exact Or.inl rfl | exact Or.inr rfl)) (pgs_cons (pg_name (i := 3) sc_read_layout.nd rfl (by first | exact Or.inl rfl | exact Or.inr rfl)) pgs_nil)))))
  (pss_cons (ps_asg (pePart (pv 3) pe_str) (pg_tup rfl (pgs_cons (pg_name (i := 4) sc_read_layout.nd rfl (by first | exact Or.inl rfl | exact Or.inr rfl)) (pgs_cons (pg_name (i := 5) sc_read_layout.nd rfl (by first | exact Or.inl rfl | exact Or.inr rfl)) (pgs_cons (pg_name (i := 3) sc_read_layout.nd rfl (by first | exact Or.inl rfl | exact Or.inr rfl)) pgs_nil)))))
  (pss_cons (ps_asg (pePart (pv 3) pe_str) (pg_tup rfl (pgs_cons (pg_name (i := 6) sc_read_layout.nd rfl (by first | exact Or.inl rfl | exact Or.inr rfl)) (pgs_cons (pg_name (i := 7) sc_read_layout.nd rfl (by first | exact Or.inl rfl | exact Or.inr rfl)) (pgs_cons (pg_name (i := 8) sc_read_layout.nd rfl (by first | exact Or.inl rfl | exact Or.inr rfl)) pgs_nil)))))
  (pss_cons (ps_set (i := 9) sc_read_layout.nd rfl (by first | exact Or.inl rfl | exact Or.inr rfl) (pe_callTy callTuple (by rfl) T.z_tuple boot_tuple (pa_cons (pe_lc (own := [("word", 10)]) (g := gName 10) (tt := tYes) rfl sc_read_layout.nd (pi_list (pe_lst (pa_cons (pv 1) (pa_cons (pv 4) (pa_cons (pv 6) (pa_cons (pv 8) pa_nil)))))) (blkOk_by (own := [("word", 10)]) (N := N_read_layout) (sc := defScope s_read_layout) (by decide +kernel)) (fun _ _ _ _ _ => (pg_name (i := 10) sc_read_layout.nd rfl (by first | exact Or.inl rfl | exact Or.inr rfl))) (fun _ _ _ _ _ => pts_nil) (fun _ _ _ _ _ => (pe_cal f_small_number_layouts hr (by decide) pass0 (pa_cons (pv 10) pa_nil)))) pa_nil)))
  (pss_cons (ps_if (pt_not (pt_val (pe_cal f_is_layout hr (by decide) pass0 (pa_cons (pv 9) pa_nil)))) (pss_one ps_never) pss_nil)
  (pss_one (ps_ret (pv 9))))))))), ?_⟩
    walk_at "o"
    refine w_isi (.base (.str _)) (c := true) (kit_ty (by decide +kernel)) ?_
    walk_at "rd"
    refine w_par (by walk_at "k") (by decide +kernel) (by omega) (part_lay y o.u0) fun p1 G1 H1 s1 hp1 => ?_
    walk_at "rd"
    refine w_gtup (by walk_at "T") rfl ?_
    walk_at "rd"
    refine w_par (by walk_at "k") (by decide +kernel) (lay_len2 ll).1 (part_lay2 y hw0) fun p2 G2 H2 s2 hp2 => ?_
    walk_at "rd"
    refine w_gtup (by walk_at "T") rfl ?_
    walk_at "rd"
    refine w_par (by walk_at "k") (by decide +kernel) (lay_len2 ll).2 (part_lay3 y o.l0) fun p3 G3 H3 s3 hp3 => ?_
    walk_at "rd"
    refine w_gtup (by walk_at "T") rfl ?_
    walk_at "rd"
    refine w_lstK (by walk_at "k") rfl fun pl G4 H4 s4 hpl _ => ?_
    have hv : ∀ i, i < 4 → ∃ n : Int, [V.str (numT y.u), .str (numT y.w), .str (numT y.l), .str (numT y.b)][i]? = some (.str (numT n)) ∧ [y.u, y.w, y.l, y.b].getD i 0 = n ∧ 0 ≤ n ∧ n < 100 := by
      obtain ⟨h1, h2, h3, h4, h5, h6, h7, h8, h9, h10, h11⟩ := o
      intro i hi
      match i, hi with
      | 0, _ => exact ⟨y.u, rfl, rfl, by omega, by omega⟩
      | 1, _ => exact ⟨y.w, rfl, rfl, by omega, by omega⟩
      | 2, _ => exact ⟨y.l, rfl, rfl, by omega, by omega⟩
      | 3, _ => exact ⟨y.b, rfl, rfl, by omega, by omega⟩
    refine ⟨pl, rfl, ⟨_, by walk_at "L"⟩, ?_⟩
    refine lc_map (R := RV V.int) (walk_list (xs := [V.str (numT y.u), .str (numT y.w), .str (numT y.l), .str (numT y.b)])) (by walk_at "k") (fun i => [y.u, y.w, y.l, y.b].getD i 0) (Nat.le_of_ble_eq_true rfl) (fun G' H' g k' => SqL.of (k' _ _ (g _ _ hpl))) (fun i x G5 H5 H6 C hi g5 k5 hY hC => ?_) (fun pr xr G7 H7 s7 hpr rr => ?_)
    · obtain ⟨rfl, hx⟩ := hY
      obtain ⟨n, e1, e2, e3, e4⟩ := hv i hi
      rw [e1] at hx
      cases hx
      walk_at "rd"
      refine ⟨wipe1, ?_⟩
      walk_at "rd"
      exact ⟨n, rfl, e3, e4, hC _ _ _ (Stp.refl k5) (congrArg V.int e2.symm)⟩
    · have exr : xr = layV y := by
        rw [paired_fl rr]
        rfl
      subst exr
      walk_at "rd"
      refine w_tupOf (by walk_at "k") (by walk_at "L") fun p8 G8 H8 s8 hp8 => ?_
      walk_at "rd"
      refine ⟨G8, y, _, rfl, by walk_at "k", ⟨p8, rfl, hp8⟩, o, ?_⟩
      walk_at "rd"
      exact q _ G8 _ (by walk_at "stp") ⟨p8, rfl, hp8⟩
def spClear : Sp := fun vs H Q _ => ∃ (G : Hp) (fr : List Lay) (v : V), vs = [v] ∧ Same G H ∧ RFrame G v fr ∧ fr.length ≤ 100 ∧ ∀ v' G' H', Stp G H G' H' → RStd G' v' (List.replicate fr.length (0, 0)) → Q v' H'
theorem ok_clear_of (T : Bas K mg) (D : Std K mg "clear_of" "clear_of" "clear_of" s_clear_of ["frame"]) : Cal P w K mg base CX0 "clear_of" ["frame"] 1 spClear := by
  refine D.cal sc_clear_of (fun vs H Q E h => ?_) (fun f cdv A outer s H vs Q E hr h => ?_)
  · obtain ⟨G, fr, v, rfl, _⟩ := h; rfl
  · obtain ⟨G, fr, v, rfl, k, ⟨pf, xf, rfl, hf, rf⟩, hl, q⟩ := h
    have lf := paired_len rf
    refine ⟨_, (pss_one (ps_ret (pe_lc (own := [("layout", 1)]) (g := gName 1) (tt := tYes) rfl sc_clear_of.nd (pi_list (pv 0)) (blkOk_by (own := [("layout", 1)]) (N := N_clear_of) (sc := defScope s_clear_of) (by decide +kernel)) (fun _ _ _ _ _ => (pg_name (i := 1) sc_clear_of.nd rfl (by first | exact Or.inl rfl | exact Or.inr rfl))) (fun _ _ _ _ _ => pts_nil) (fun _ _ _ _ _ => (pe_tup (pa_cons pe_int (pa_cons pe_int pa_nil))))))), ?_⟩
    walk_at "rd"
    refine ⟨pf, rfl, ⟨_, by walk_at "L"⟩, ?_⟩
    refine lc_map (R := RRod) (walk_list (xs := xf)) (by walk_at "k") (fun i => (0, 0)) (by omega) (fun G' H' g k' => SqL.of (k' _ _ (g _ _ hf))) (fun i x G5 H5 H6 C hi g5 k5 hY hC => ?_) (fun pr xr G7 H7 s7 hpr rr => ?_)
    · obtain ⟨rfl, hx⟩ := hY
      walk_at "rd"
      refine ⟨wipe1, ?_⟩
      walk_at "rd"
      refine w_tupK k5 rfl fun p6 G6 H6 s6 hp6 _ => ?_
      exact hC _ _ _ s6 ⟨p6, rfl, hp6⟩
    · refine q _ _ _ s7 ⟨pr, xr, rfl, hpr, ?_⟩
      have e : (List.range xf.length).map (fun _ => ((0 : Int), (0 : Int))) = List.replicate fr.length (0, 0) := by
        rw [List.map_const', List.length_range, lf]
      rw [e] at rr
      exact rr
end
end BF
namespace BF
open PySem PySem.Spec PyProof.Rows L2 TL
local macro_rules | `(tactic| walk_at "rd") => `(tactic| repeat (first
  | with_reducible refine w_var rfl ?_ | with_reducible refine w_c ?_ | with_reducible refine w_seq ?_ | with_reducible refine w_op ?_
  | with_reducible refine w_asg ?_ | with_reducible refine w_name ?_ | with_reducible refine w_ret ?_ | with_reducible refine w_drop ?_ | with_reducible refine w_next ?_
  | with_reducible refine w_if ?_ | with_reducible refine w_test ?_ | with_reducible refine w_B ?_ | with_reducible refine w_bl ?_ | with_reducible refine w_not ?_
  | with_reducible refine w_and ?_ | with_reducible refine w_or ?_ | with_reducible refine w_nil ?_ | with_reducible refine w_cons ?_ | with_reducible refine w_cb ?_
  | with_reducible refine w_chain ?_ | with_reducible refine w_call ?_ | with_reducible refine w_un ?_ | with_reducible refine w_neg ?_
  | with_reducible refine w_andV ?_ | with_reducible refine w_orV ?_ | with_reducible refine w_notV ?_ | with_reducible refine w_iteT ?_ | with_reducible refine w_iteF ?_ | with_reducible refine w_ntT ?_ | with_reducible refine w_ntF ?_
  | with_reducible refine g_add ?_ | with_reducible refine g_sub ?_ | with_reducible refine g_cmp ?_ | with_reducible refine g_eqI ?_ | with_reducible refine g_neI ?_ | with_reducible refine g_eqS ?_ | with_reducible refine g_neS ?_
  | with_reducible refine w_min ?_ | with_reducible refine w_max ?_ | with_reducible refine w_isN ?_ | with_reducible refine w_notN ?_ | with_reducible refine w_notSg ?_ | with_reducible refine w_gcons ?_ | with_reducible refine w_gnil ?_ | with_reducible refine w_sl ?_ | with_reducible refine w_noP ?_ | with_reducible refine w_part ?_ | with_reducible refine w_int1 ?_ | with_reducible refine w_tup ?_ | with_reducible refine w_lst ?_ | with_reducible refine g_intB ?_ | with_reducible refine w_fld ?_ | with_reducible refine w_meth ?_ | with_reducible refine w_make ?_
  | with_reducible refine w_lc ?_ | with_reducible refine w_for ?_ | with_reducible refine w_iL ?_ | with_reducible refine w_iT ?_ | with_reducible refine w_iS ?_ | with_reducible refine w_iRev ?_ | with_reducible refine w_iEn ?_ | with_reducible refine w_iZip ?_ | with_reducible refine w_iR1 ?_
  | with_reducible refine w_bm ?_ | with_reducible refine w_bm0 ?_ | with_reducible refine w_M1 ?_ | with_reducible refine w_isStr ?_
  | dsimp only))
local macro_rules | `(tactic| walk_at "same") => `(tactic| first | exact Same.refl _ | assumption | exact Stp.g (by assumption) | (refine Same.trans (Stp.g (by assumption)) ?_; walk_at "same"))
local macro_rules | `(tactic| walk_at "k") => `(tactic| first | assumption | exact Stp.k (by assumption) | exact Acc.k (by assumption))
local macro_rules | `(tactic| walk_at "stp") => `(tactic| first | assumption | exact Stp.refl (by walk_at "k") | (refine Stp.trans (by assumption) ?_; walk_at "stp"))
local macro_rules | `(tactic| walk_at "up") => `(tactic| first | assumption | exact up (by assumption) (by walk_at "same"))
local macro_rules | `(tactic| walk_at "gh") => `(tactic| first | assumption | exact Stp.k (by assumption) | (refine Same.trans (Stp.g (by assumption)) ?_; walk_at "gh"))
local macro_rules | `(tactic| walk_at "at") => `(tactic| first | assumption | exact at_ (by assumption) (by walk_at "gh"))
local macro_rules | `(tactic| walk_at "L") => `(tactic| exact SqL.of (by walk_at "at"))
local macro_rules | `(tactic| walk_at "T") => `(tactic| exact SqT.of (by walk_at "at"))
local macro_rules | `(tactic| walk_at "o1") => `(tactic| first | with_reducible refine w_yes (by first | assumption | omega) ?_ | with_reducible refine w_no (by first | assumption | omega) ?_ | with_reducible refine w_yesN (by first | assumption | omega) ?_ | with_reducible refine w_noN (by first | assumption | omega) ?_)
local macro_rules | `(tactic| walk_at "o") => `(tactic| (walk_at "rd"; repeat (walk_at "o1"; walk_at "rd")))

section
variable {P : Program} {w : World} {K : PySem.W.Frag} {mg : Str → Option Value} {base : Heap}
/-- the sign of a push; whether it is of lower beads -/
def K4.neg : K4 → Bool
  | .up => false
  | .down => true
  | .put => false
  | .take => true
def K4.lower : K4 → Bool
  | .up => true
  | .down => true
  | .put => false
  | .take => false
theorem in_dt (k : K4) : inV (.str k.word) [.str "down", .str "take"] = k.neg := by cases k <;> decide +kernel
theorem in_ud (k : K4) : inV (.str k.word) [.str "up", .str "down"] = k.lower := by cases k <;> decide +kernel
theorem sign_at (k : K4) : atI [V.int 1, V.int (-1)] (if k.neg = true then 1 else 0) = some (.int (if k.neg = true then -1 else 1)) := by cases k <;> rfl
def spPush : Sp := fun vs H Q _ => ∃ (G : Hp) (fr : List Lay) (st : List Rod) (m : Mv) (vf vst : V), vs = [vf, vst, .str m.k.word, .int m.rod, .int m.beads] ∧ Same G H ∧ RFrame G vf fr ∧ RStd G vst st ∧ st.length = fr.length ∧ fr.length ≤ 100 ∧ m.beads ≤ 1000 ∧
  ∀ v G' H', Stp G H G' H' → ROpt RStd G' v (push fr st m) → Q v H'
theorem ok_push (T : Bas K mg) (D : Std K mg "_law_push" "_law_push" "_law_push" s_l_push ["_law_frame_here", "_law_standing", "_law_word", "_law_rod", "_law_beads"]) :
    Cal P w K mg base CX0 "_law_push" ["_law_frame_here", "_law_standing", "_law_word", "_law_rod", "_law_beads"] 1 spPush := by
  refine D.cal sc_l_push (fun vs H Q E h => ?_) (fun f cdv A outer s H vs Q E hr h => ?_)
  · obtain ⟨G, fr, st, m, vf, vst, rfl, _⟩ := h; rfl
  · obtain ⟨G, fr, st, m, vf, vst, rfl, k, hF, hS, hl, hz, hb, q⟩ := h
    obtain ⟨pf, xf, rfl, hf, rf⟩ := hF
    obtain ⟨ps, xs, rfl, hs, rs⟩ := hS
    refine ⟨_, (pss_cons (ps_if (pt_cmpR op_ge (pv 3) (pe_callB callLen (by rfl) T.z_len PySem.boot_len (pa_cons (pv 0) pa_nil)) (nomark _)) (pss_one (ps_ret pe_non)) pss_nil)
  (pss_cons (ps_asg (pe_ix ix_seq (pv 1) (pv 3) (fun _ _ => rfl)) (pg_tup rfl (pgs_cons (pg_name (i := 5) sc_l_push.nd rfl (by first | exact Or.inl rfl | exact Or.inr rfl)) (pgs_cons (pg_name (i := 6) sc_l_push.nd rfl (by first | exact Or.inl rfl | exact Or.inr rfl)) pgs_nil))))
  (pss_cons (ps_set (i := 7) sc_l_push.nd rfl (by first | exact Or.inl rfl | exact Or.inr rfl) (pe_ix ix_seq (pe_lst (pa_cons pe_int (pa_cons (pe_un un_neg pe_int) pa_nil))) (pe_callTy callInt (by rfl) T.z_int boot_int (pa_cons (pe_cmpR op_in_seq (pv 2) (pe_tup (pa_cons pe_str (pa_cons pe_str pa_nil))) (by rfl)) pa_nil)) (fun _ _ => rfl)))
  (pss_cutS (ps_if (pt_cmpR op_in_seq (pv 2) (pe_tup (pa_cons pe_str (pa_cons pe_str pa_nil))) (by rfl)) (pss_one (ps_set (i := 6) sc_l_push.nd rfl (by first | exact Or.inl rfl | exact Or.inr rfl) (pe_op opAdd (pv 6) (pe_op opMul (pv 7) (pv 4))))) (pss_one (ps_set (i := 5) sc_l_push.nd rfl (by first | exact Or.inl rfl | exact Or.inr rfl) (pe_op opAdd (pv 5) (pe_op opMul (pv 7) (pv 4))))))
  (pss_cons (ps_if (PW.pt (pw_or (pt_not (pt_chain op_le op_le pe_int (pv 5) (pe_ix ix_seq (pe_ix ix_seq (pv 0) (pv 3) (fun _ _ => rfl)) pe_int (fun _ _ => rfl)))) (pw_or1 (pt_not (pt_chain op_le op_le pe_int (pv 6) (pe_ix ix_seq (pe_ix ix_seq (pv 0) (pv 3) (fun _ _ => rfl)) pe_int (fun _ _ => rfl))))))) (pss_one (ps_ret pe_non)) pss_nil)
  (pss_one (ps_ret (pe_op opAdd (pe_op opAdd (pe_slice sl_list (pv 1) po_none (po_some (pv 3))) (pe_lst (pa_cons (pe_tup (pa_cons (pv 5) (pa_cons (pv 6) pa_nil))) pa_nil))) (pe_slice sl_list (pv 1) (po_some (pe_op opAdd (pv 3) pe_int)) po_none))))))))), ?_⟩
    walk_at "rd"
    refine w_lenL (by walk_at "L") ?_
    walk_at "rd"
    have lf := paired_len rf
    refine w_ite (fun c => ?_) (fun c => ?_)
    · walk_at "rd"
      refine q _ _ _ (Stp.refl k) ?_
      have e : fr[m.rod]? = none := List.getElem?_eq_none_iff.mpr (by omega)
      unfold push
      rw [e]
      rfl
    · have hr1 : m.rod < fr.length := by omega
      obtain ⟨ly, ey⟩ : ∃ ly, fr[m.rod]? = some ly := ⟨_, List.getElem?_eq_getElem hr1⟩
      obtain ⟨s0, es⟩ : ∃ s0, st[m.rod]? = some s0 := ⟨_, List.getElem?_eq_getElem (by omega)⟩
      obtain ⟨_, ex, py, rfl, hy⟩ := paired_at rf ey
      obtain ⟨_, ex2, p0, rfl, h0⟩ := paired_at rs es
      walk_at "rd"
      refine w_ixL (by walk_at "L") ex2 ?_
      walk_at "rd"
      refine w_gtup (by walk_at "T") rfl ?_
      unfold rodV
      walk_at "rd"
      refine w_lstK (by walk_at "k") rfl fun l1 G1 H1 s1 hl1 _ => ?_
      walk_at "rd"
      refine w_tupK (by walk_at "k") rfl fun p1 G2 H2 s2 hp2 _ => ?_
      refine w_inT (by walk_at "T") rfl rfl (in_dt m.k) ?_
      walk_at "rd"
      refine g_ixL (by walk_at "L") (sign_at m.k) ?_
      walk_at "rd"
      refine ⟨fun σ' H' => ∃ G', Stp G H G' H' ∧ σ' = [some (.ref pf), some (.ref ps), some (.str m.k.word), some (.int m.rod), some (.int m.beads), some (.int (reach m.k s0 m.beads).1), some (.int (reach m.k s0 m.beads).2), some (.int (if m.k.neg = true then -1 else 1))], ?_, ?_⟩
      · walk_at "rd"
        refine w_tupK (by walk_at "k") rfl fun p3 G3 H3 s3 hp3 _ => ?_
        refine w_inT (by walk_at "T") rfl rfl (in_ud m.k) ?_
        have s03 : Stp G H G3 H3 := s1.trans (s2.trans s3)
        walk_at "rd"
        have es : ∀ k : K4, (k.lower = true → reach k s0 m.beads = (s0.1, s0.2 + (if k.neg = true then -1 else 1) * m.beads)) ∧ (k.lower = false → reach k s0 m.beads = (s0.1 + (if k.neg = true then -1 else 1) * m.beads, s0.2)) := by
          intro k
          cases k <;> simp [K4.lower, K4.neg, reach] <;> omega
        obtain ⟨es1, es2⟩ := es m.k
        refine w_iteB (fun c => ?_) (fun c => ?_)
        · walk_at "rd"
          refine g_mul (.inl (by split <;> decide)) ?_
          walk_at "rd"
          exact ⟨G3, s03, by rw [es1 c]; rfl⟩
        · walk_at "rd"
          refine g_mul (.inl (by split <;> decide)) ?_
          walk_at "rd"
          exact ⟨G3, s03, by rw [es2 c]; rfl⟩
      · clear s1 s2
        rintro σ' H4 ⟨G4, s4, rfl⟩
        have no : ¬ fits ly (reach m.k s0 m.beads) → Q .non H4 := fun c => q _ _ _ s4 (by
          unfold push
          rw [ey, es]
          show ROpt RStd G4 V.non (if _ then _ else _)
          rw [if_neg c]
          rfl)
        walk_at "rd"
        refine w_ite (fun c1 => ?_) (fun c1 => ?_)
        · refine w_op ?_
          walk_at "rd"
          refine w_ixL (by walk_at "L") ex ?_
          walk_at "rd"
          refine w_ixT (i := 0) (by walk_at "T") rfl ?_
          walk_at "rd"
          refine w_iteN (fun c2 => ?_) (fun c2 => ?_)
          · walk_at "rd"
            exact no fun h => c2 h.1.2
          · walk_at "rd"
            refine w_ite (fun c3 => ?_) (fun c3 => ?_)
            · refine w_op ?_
              walk_at "rd"
              refine w_ixL (by walk_at "L") ex ?_
              walk_at "rd"
              refine w_ixT (i := 2) (by walk_at "T") rfl ?_
              walk_at "rd"
              refine w_iteN (fun c4 => ?_) (fun c4 => ?_)
              · walk_at "rd"
                exact no fun h => c4 h.2.2
              · walk_at "rd"
                have lx := paired_len rs
                refine w_slTake (by walk_at "k") (by walk_at "L") (by omega) fun p5 G5 H5 s5 hp5 _ => ?_
                walk_at "rd"
                refine w_tupK (by walk_at "k") rfl fun p6 G6 H6 s6 hp6 _ => ?_
                walk_at "rd"
                refine w_lstK (by walk_at "k") rfl fun p7 G7 H7 s7 hp7 _ => ?_
                walk_at "rd"
                refine w_cat (by walk_at "k") (by walk_at "at") (by walk_at "at") (by simp; omega) fun p8 G8 H8 s8 hp8 _ => ?_
                walk_at "rd"
                refine w_slDrop (i := m.rod + 1) (by walk_at "k") (by walk_at "L") (by omega) fun p9 G9 H9 s9 hp9 _ => ?_
                walk_at "rd"
                refine w_cat (by walk_at "k") (by walk_at "at") (by walk_at "at") (by simp; omega) fun p10 G10 H10 s10 hp10 _ => ?_
                refine q _ G10 H10 (by walk_at "stp") ?_
                unfold push
                rw [ey, es]
                show ROpt RStd G10 _ (if _ then _ else _)
                rw [if_pos ⟨⟨c1, c2⟩, c3, c4⟩]
                refine ⟨_, _, rfl, hp10, ?_⟩
                have r1 : Paired (RRod G10) xs st := paired_up (by walk_at "same") rs
                exact paired_app (paired_app (paired_take _ r1) (.cons ⟨p6, rfl, (show Same G6 G10 by walk_at "same") _ _ hp6⟩ .nil)) (paired_drop _ r1)
            · walk_at "rd"
              exact no fun h => c3 h.2.1
        · walk_at "rd"
          exact no fun h => c1 h.1.1
end
end BF
namespace BF
open PySem PySem.Spec PyProof.Rows L2 TL
local macro_rules | `(tactic| walk_at "rd") => `(tactic| repeat (first
  | with_reducible refine w_var rfl ?_ | with_reducible refine w_c ?_ | with_reducible refine w_seq ?_ | with_reducible refine w_op ?_
  | with_reducible refine w_asg ?_ | with_reducible refine w_name ?_ | with_reducible refine w_ret ?_ | with_reducible refine w_drop ?_ | with_reducible refine w_next ?_
  | with_reducible refine w_if ?_ | with_reducible refine w_test ?_ | with_reducible refine w_B ?_ | with_reducible refine w_bl ?_ | with_reducible refine w_not ?_
  | with_reducible refine w_and ?_ | with_reducible refine w_or ?_ | with_reducible refine w_nil ?_ | with_reducible refine w_cons ?_ | with_reducible refine w_cb ?_
  | with_reducible refine w_chain ?_ | with_reducible refine w_call ?_ | with_reducible refine w_un ?_ | with_reducible refine w_neg ?_
  | with_reducible refine w_andV ?_ | with_reducible refine w_orV ?_ | with_reducible refine w_notV ?_ | with_reducible refine w_iteT ?_ | with_reducible refine w_iteF ?_ | with_reducible refine w_ntT ?_ | with_reducible refine w_ntF ?_
  | with_reducible refine g_add ?_ | with_reducible refine g_sub ?_ | with_reducible refine g_cmp ?_ | with_reducible refine g_eqI ?_ | with_reducible refine g_neI ?_ | with_reducible refine g_eqS ?_ | with_reducible refine g_neS ?_
  | with_reducible refine w_min ?_ | with_reducible refine w_max ?_ | with_reducible refine w_isN ?_ | with_reducible refine w_notN ?_ | with_reducible refine w_notSg ?_ | with_reducible refine w_gcons ?_ | with_reducible refine w_gnil ?_ | with_reducible refine w_sl ?_ | with_reducible refine w_noP ?_ | with_reducible refine w_part ?_ | with_reducible refine w_int1 ?_ | with_reducible refine w_tup ?_ | with_reducible refine w_lst ?_ | with_reducible refine g_intB ?_ | with_reducible refine w_fld ?_ | with_reducible refine w_meth ?_ | with_reducible refine w_make ?_
  | with_reducible refine w_lc ?_ | with_reducible refine w_for ?_ | with_reducible refine w_iL ?_ | with_reducible refine w_iT ?_ | with_reducible refine w_iS ?_ | with_reducible refine w_iRev ?_ | with_reducible refine w_iEn ?_ | with_reducible refine w_iZip ?_ | with_reducible refine w_iR1 ?_
  | with_reducible refine w_bm ?_ | with_reducible refine w_bm0 ?_ | with_reducible refine w_M1 ?_ | with_reducible refine w_isStr ?_
  | dsimp only))
local macro_rules | `(tactic| walk_at "same") => `(tactic| first | exact Same.refl _ | assumption | exact Stp.g (by assumption) | (refine Same.trans (Stp.g (by assumption)) ?_; walk_at "same"))
local macro_rules | `(tactic| walk_at "k") => `(tactic| first | assumption | exact Stp.k (by assumption) | exact Acc.k (by assumption))
local macro_rules | `(tactic| walk_at "stp") => `(tactic| first | assumption | exact Stp.refl (by walk_at "k") | (refine Stp.trans (by assumption) ?_; walk_at "stp"))
local macro_rules | `(tactic| walk_at "up") => `(tactic| first | assumption | exact up (by assumption) (by walk_at "same"))
local macro_rules | `(tactic| walk_at "gh") => `(tactic| first | assumption | exact Stp.k (by assumption) | (refine Same.trans (Stp.g (by assumption)) ?_; walk_at "gh"))
local macro_rules | `(tactic| walk_at "at") => `(tactic| first | assumption | exact at_ (by assumption) (by walk_at "gh"))
local macro_rules | `(tactic| walk_at "L") => `(tactic| exact SqL.of (by walk_at "at"))
local macro_rules | `(tactic| walk_at "T") => `(tactic| exact SqT.of (by walk_at "at"))
local macro_rules | `(tactic| walk_at "o1") => `(tactic| first | with_reducible refine w_yes (by first | assumption | omega) ?_ | with_reducible refine w_no (by first | assumption | omega) ?_ | with_reducible refine w_yesN (by first | assumption | omega) ?_ | with_reducible refine w_noN (by first | assumption | omega) ?_)
local macro_rules | `(tactic| walk_at "o") => `(tactic| (walk_at "rd"; repeat (walk_at "o1"; walk_at "rd")))

section
variable {P : Program} {w : World} {K : PySem.W.Frag} {mg : Str → Option Value} {base : Heap} {A : Adr}
def spCon (A : Adr) (k : K4) : Sp := fun vs H Q _ => ∃ (G : Hp) (m : Mv) (v : V), vs = [v] ∧ Same G H ∧ RMv A G v m ∧ m.k = k ∧ ∀ v' G' H', Stp G H G' H' → RMv A G' v' m.contra → Q v' H'
def spRea (A : Adr) (k : K4) : Sp := fun vs H Q _ => ∃ (G : Hp) (m : Mv) (s : Rod) (v vl vr : V), vs = [v, vl, vr] ∧ Same G H ∧ RMv A G v m ∧ m.k = k ∧ RRod G vr s ∧ ∀ v' G' H', Stp G H G' H' → RRod G' v' (reach k s m.beads) → Q v' H'
theorem ok_mvinit (T : Bas K mg) (TC : Cla K mg A) {g : Str} {k : K4} (D : StdI K mg g (A.mv k) "Move.__init__" s_Move_init ["self", "rod", "beads"]) : Mkr P w K mg base CX0 g (A.mv k) ["self", "rod", "beads"] 1 (spMvI A) := by
  refine D.mkr sc_Move_init (fun vs H Q E h => ?_) (fun f cdv A0 outer s H vs Q E hr h => ?_)
  · obtain ⟨k, x, dx, r, b, rfl, _⟩ := h; rfl
  · obtain ⟨k, x, dx, r, b, rfl, hx, q⟩ := h
    refine ⟨_, (pss_cons (ps_fld (pv 0) (pv 1) rfl)
  (pss_one (ps_fld (pv 0) (pv 2) rfl))), ?_⟩
    refine ⟨_, rfl, _, rfl, x, A.mv k, dx, [], rfl, hx, TC.mcl _, TC.mRod _, by decide, _, rfl, _, rfl, x, A.mv k, dx, _, rfl, upd_same, TC.mcl _, TC.mBeads _, (by show 1 < 1000; decide), ?_⟩
    rw [upd_upd, putF2]
    exact q

theorem ok_con_up (T : Bas K mg) (TC : Cla K mg A) (m_Down : Mkr P w K mg base CX0 "Down" (A.mv .down) ["self", "rod", "beads"] 1 (spMvI A)) (D : StdM K (A.mv .up) "contrary" "Up.contrary" s_Up_contrary ["self"]) :
    Met P w K mg base CX0 (A.mv .up) "contrary" ["self"] 3 (spCon A .up) := by
  refine D.met sc_Up_contrary (fun vs H Q E h => ?_) (fun f cdv A0 outer s H vs Q E hr h => ?_)
  · obtain ⟨G, m, v, rfl, _⟩ := h; rfl
  · obtain ⟨G, ⟨mk, rod, beads⟩, v, rfl, k, ⟨a, dx, rfl, ha⟩, hk, q⟩ := h
    subst hk
    refine ⟨_, (pss_one (ps_ret (pe_mkr m_Down hr (by decide) pass0 (pa_cons (pe_fld (pv 0) rfl) (pa_cons (pe_fld (pv 0) rfl) pa_nil))))), ?_⟩
    walk_at "rd"
    refine w_rod (m := ⟨.up, rod, beads⟩) TC (by walk_at "at") ?_
    walk_at "rd"
    refine w_beads (m := ⟨.up, rod, beads⟩) TC (by walk_at "at") ?_
    walk_at "rd"
    exact w_makeMv k fun v G' H' s r => q v G' H' s r
theorem ok_rea_up (T : Bas K mg) (TC : Cla K mg A) (D : StdM K (A.mv .up) "reached" "Up.reached" s_Up_reached ["self", "layout", "rod_standing"]) :
    Met P w K mg base CX0 (A.mv .up) "reached" ["self", "layout", "rod_standing"] 1 (spRea A .up) := by
  refine D.met sc_Up_reached (fun vs H Q E h => ?_) (fun f cdv A0 outer s H vs Q E hr h => ?_)
  · obtain ⟨G, m, s, v, vl, vr, rfl, _⟩ := h; rfl
  · obtain ⟨G, ⟨mk, rod, beads⟩, s, v, vl, vr, rfl, k, ⟨a, dx, rfl, ha⟩, hk, ⟨p, rfl, hp⟩, q⟩ := h
    subst hk
    refine ⟨_, (pss_one (ps_ret (pe_tup (pa_cons (pe_ix ix_seq (pv 2) pe_int (fun _ _ => rfl)) (pa_cons (pe_op opAdd (pe_ix ix_seq (pv 2) pe_int (fun _ _ => rfl)) (pe_fld (pv 0) rfl)) pa_nil))))), ?_⟩
    walk_at "rd"
    refine w_ixT (i := 0) (by walk_at "T") rfl ?_
    walk_at "rd"
    refine w_ixT (i := 1) (by walk_at "T") rfl ?_
    walk_at "rd"
    refine w_beads (m := ⟨.up, rod, beads⟩) TC (by walk_at "at") ?_
    walk_at "rd"
    refine w_tupK k rfl fun p1 G1 H1 s1 hp1 _ => ?_
    exact q _ G1 _ s1 ⟨p1, rfl, hp1⟩

theorem ok_con_down (T : Bas K mg) (TC : Cla K mg A) (m_Up : Mkr P w K mg base CX0 "Up" (A.mv .up) ["self", "rod", "beads"] 1 (spMvI A)) (D : StdM K (A.mv .down) "contrary" "Down.contrary" s_Down_contrary ["self"]) :
    Met P w K mg base CX0 (A.mv .down) "contrary" ["self"] 3 (spCon A .down) := by
  refine D.met sc_Down_contrary (fun vs H Q E h => ?_) (fun f cdv A0 outer s H vs Q E hr h => ?_)
  · obtain ⟨G, m, v, rfl, _⟩ := h; rfl
  · obtain ⟨G, ⟨mk, rod, beads⟩, v, rfl, k, ⟨a, dx, rfl, ha⟩, hk, q⟩ := h
    subst hk
    refine ⟨_, (pss_one (ps_ret (pe_mkr m_Up hr (by decide) pass0 (pa_cons (pe_fld (pv 0) rfl) (pa_cons (pe_fld (pv 0) rfl) pa_nil))))), ?_⟩
    walk_at "rd"
    refine w_rod (m := ⟨.down, rod, beads⟩) TC (by walk_at "at") ?_
    walk_at "rd"
    refine w_beads (m := ⟨.down, rod, beads⟩) TC (by walk_at "at") ?_
    walk_at "rd"
    exact w_makeMv k fun v G' H' s r => q v G' H' s r
theorem ok_rea_down (T : Bas K mg) (TC : Cla K mg A) (D : StdM K (A.mv .down) "reached" "Down.reached" s_Down_reached ["self", "layout", "rod_standing"]) :
    Met P w K mg base CX0 (A.mv .down) "reached" ["self", "layout", "rod_standing"] 1 (spRea A .down) := by
  refine D.met sc_Down_reached (fun vs H Q E h => ?_) (fun f cdv A0 outer s H vs Q E hr h => ?_)
  · obtain ⟨G, m, s, v, vl, vr, rfl, _⟩ := h; rfl
  · obtain ⟨G, ⟨mk, rod, beads⟩, s, v, vl, vr, rfl, k, ⟨a, dx, rfl, ha⟩, hk, ⟨p, rfl, hp⟩, q⟩ := h
    subst hk
    refine ⟨_, (pss_one (ps_ret (pe_tup (pa_cons (pe_ix ix_seq (pv 2) pe_int (fun _ _ => rfl)) (pa_cons (pe_op op_sub (pe_ix ix_seq (pv 2) pe_int (fun _ _ => rfl)) (pe_fld (pv 0) rfl)) pa_nil))))), ?_⟩
    walk_at "rd"
    refine w_ixT (i := 0) (by walk_at "T") rfl ?_
    walk_at "rd"
    refine w_ixT (i := 1) (by walk_at "T") rfl ?_
    walk_at "rd"
    refine w_beads (m := ⟨.down, rod, beads⟩) TC (by walk_at "at") ?_
    walk_at "rd"
    refine w_tupK k rfl fun p1 G1 H1 s1 hp1 _ => ?_
    exact q _ G1 _ s1 ⟨p1, rfl, hp1⟩

theorem ok_con_put (T : Bas K mg) (TC : Cla K mg A) (m_Take : Mkr P w K mg base CX0 "Take" (A.mv .take) ["self", "rod", "beads"] 1 (spMvI A)) (D : StdM K (A.mv .put) "contrary" "Put.contrary" s_Put_contrary ["self"]) :
    Met P w K mg base CX0 (A.mv .put) "contrary" ["self"] 3 (spCon A .put) := by
  refine D.met sc_Put_contrary (fun vs H Q E h => ?_) (fun f cdv A0 outer s H vs Q E hr h => ?_)
  · obtain ⟨G, m, v, rfl, _⟩ := h; rfl
  · obtain ⟨G, ⟨mk, rod, beads⟩, v, rfl, k, ⟨a, dx, rfl, ha⟩, hk, q⟩ := h
    subst hk
    refine ⟨_, (pss_one (ps_ret (pe_mkr m_Take hr (by decide) pass0 (pa_cons (pe_fld (pv 0) rfl) (pa_cons (pe_fld (pv 0) rfl) pa_nil))))), ?_⟩
    walk_at "rd"
    refine w_rod (m := ⟨.put, rod, beads⟩) TC (by walk_at "at") ?_
    walk_at "rd"
    refine w_beads (m := ⟨.put, rod, beads⟩) TC (by walk_at "at") ?_
    walk_at "rd"
    exact w_makeMv k fun v G' H' s r => q v G' H' s r
theorem ok_rea_put (T : Bas K mg) (TC : Cla K mg A) (D : StdM K (A.mv .put) "reached" "Put.reached" s_Put_reached ["self", "layout", "rod_standing"]) :
    Met P w K mg base CX0 (A.mv .put) "reached" ["self", "layout", "rod_standing"] 1 (spRea A .put) := by
  refine D.met sc_Put_reached (fun vs H Q E h => ?_) (fun f cdv A0 outer s H vs Q E hr h => ?_)
  · obtain ⟨G, m, s, v, vl, vr, rfl, _⟩ := h; rfl
  · obtain ⟨G, ⟨mk, rod, beads⟩, s, v, vl, vr, rfl, k, ⟨a, dx, rfl, ha⟩, hk, ⟨p, rfl, hp⟩, q⟩ := h
    subst hk
    refine ⟨_, (pss_one (ps_ret (pe_tup (pa_cons (pe_op opAdd (pe_ix ix_seq (pv 2) pe_int (fun _ _ => rfl)) (pe_fld (pv 0) rfl)) (pa_cons (pe_ix ix_seq (pv 2) pe_int (fun _ _ => rfl)) pa_nil))))), ?_⟩
    walk_at "rd"
    refine w_ixT (i := 0) (by walk_at "T") rfl ?_
    walk_at "rd"
    refine w_beads (m := ⟨.put, rod, beads⟩) TC (by walk_at "at") ?_
    walk_at "rd"
    refine w_ixT (i := 1) (by walk_at "T") rfl ?_
    walk_at "rd"
    refine w_tupK k rfl fun p1 G1 H1 s1 hp1 _ => ?_
    exact q _ G1 _ s1 ⟨p1, rfl, hp1⟩

theorem ok_con_take (T : Bas K mg) (TC : Cla K mg A) (m_Put : Mkr P w K mg base CX0 "Put" (A.mv .put) ["self", "rod", "beads"] 1 (spMvI A)) (D : StdM K (A.mv .take) "contrary" "Take.contrary" s_Take_contrary ["self"]) :
    Met P w K mg base CX0 (A.mv .take) "contrary" ["self"] 3 (spCon A .take) := by
  refine D.met sc_Take_contrary (fun vs H Q E h => ?_) (fun f cdv A0 outer s H vs Q E hr h => ?_)
  · obtain ⟨G, m, v, rfl, _⟩ := h; rfl
  · obtain ⟨G, ⟨mk, rod, beads⟩, v, rfl, k, ⟨a, dx, rfl, ha⟩, hk, q⟩ := h
    subst hk
    refine ⟨_, (pss_one (ps_ret (pe_mkr m_Put hr (by decide) pass0 (pa_cons (pe_fld (pv 0) rfl) (pa_cons (pe_fld (pv 0) rfl) pa_nil))))), ?_⟩
    walk_at "rd"
    refine w_rod (m := ⟨.take, rod, beads⟩) TC (by walk_at "at") ?_
    walk_at "rd"
    refine w_beads (m := ⟨.take, rod, beads⟩) TC (by walk_at "at") ?_
    walk_at "rd"
    exact w_makeMv k fun v G' H' s r => q v G' H' s r
theorem ok_rea_take (T : Bas K mg) (TC : Cla K mg A) (D : StdM K (A.mv .take) "reached" "Take.reached" s_Take_reached ["self", "layout", "rod_standing"]) :
    Met P w K mg base CX0 (A.mv .take) "reached" ["self", "layout", "rod_standing"] 1 (spRea A .take) := by
  refine D.met sc_Take_reached (fun vs H Q E h => ?_) (fun f cdv A0 outer s H vs Q E hr h => ?_)
  · obtain ⟨G, m, s, v, vl, vr, rfl, _⟩ := h; rfl
  · obtain ⟨G, ⟨mk, rod, beads⟩, s, v, vl, vr, rfl, k, ⟨a, dx, rfl, ha⟩, hk, ⟨p, rfl, hp⟩, q⟩ := h
    subst hk
    refine ⟨_, (pss_one (ps_ret (pe_tup (pa_cons (pe_op op_sub (pe_ix ix_seq (pv 2) pe_int (fun _ _ => rfl)) (pe_fld (pv 0) rfl)) (pa_cons (pe_ix ix_seq (pv 2) pe_int (fun _ _ => rfl)) pa_nil))))), ?_⟩
    walk_at "rd"
    refine w_ixT (i := 0) (by walk_at "T") rfl ?_
    walk_at "rd"
    refine w_beads (m := ⟨.take, rod, beads⟩) TC (by walk_at "at") ?_
    walk_at "rd"
    refine w_ixT (i := 1) (by walk_at "T") rfl ?_
    walk_at "rd"
    refine w_tupK k rfl fun p1 G1 H1 s1 hp1 _ => ?_
    exact q _ G1 _ s1 ⟨p1, rfl, hp1⟩
end
end BF
namespace BF
open PySem PySem.Spec PyProof.Rows L2 TL HotX
local macro_rules | `(tactic| walk_at "rd") => `(tactic| repeat (first
  | with_reducible refine w_var rfl ?_ | with_reducible refine w_c ?_ | with_reducible refine w_seq ?_ | with_reducible refine w_op ?_
  | with_reducible refine w_asg ?_ | with_reducible refine w_name ?_ | with_reducible refine w_ret ?_ | with_reducible refine w_drop ?_ | with_reducible refine w_next ?_
  | with_reducible refine w_if ?_ | with_reducible refine w_test ?_ | with_reducible refine w_B ?_ | with_reducible refine w_bl ?_ | with_reducible refine w_not ?_
  | with_reducible refine w_and ?_ | with_reducible refine w_or ?_ | with_reducible refine w_nil ?_ | with_reducible refine w_cons ?_ | with_reducible refine w_cb ?_
  | with_reducible refine w_chain ?_ | with_reducible refine w_call ?_ | with_reducible refine w_un ?_ | with_reducible refine w_neg ?_
  | with_reducible refine w_andV ?_ | with_reducible refine w_orV ?_ | with_reducible refine w_notV ?_ | with_reducible refine w_iteT ?_ | with_reducible refine w_iteF ?_ | with_reducible refine w_ntT ?_ | with_reducible refine w_ntF ?_
  | with_reducible refine g_add ?_ | with_reducible refine g_sub ?_ | with_reducible refine g_cmp ?_ | with_reducible refine g_eqI ?_ | with_reducible refine g_neI ?_ | with_reducible refine g_eqS ?_ | with_reducible refine g_neS ?_
  | with_reducible refine w_min ?_ | with_reducible refine w_max ?_ | with_reducible refine w_isN ?_ | with_reducible refine w_notN ?_ | with_reducible refine w_notSg ?_ | with_reducible refine w_gcons ?_ | with_reducible refine w_gnil ?_ | with_reducible refine w_sl ?_ | with_reducible refine w_noP ?_ | with_reducible refine w_part ?_ | with_reducible refine w_int1 ?_ | with_reducible refine w_tup ?_ | with_reducible refine w_lst ?_ | with_reducible refine g_intB ?_ | with_reducible refine w_fld ?_ | with_reducible refine w_meth ?_ | with_reducible refine w_make ?_
  | with_reducible refine w_lc ?_ | with_reducible refine w_for ?_ | with_reducible refine w_iL ?_ | with_reducible refine w_iT ?_ | with_reducible refine w_iS ?_ | with_reducible refine w_iRev ?_ | with_reducible refine w_iEn ?_ | with_reducible refine w_iZip ?_ | with_reducible refine w_iR1 ?_
  | with_reducible refine w_bm ?_ | with_reducible refine w_bm0 ?_ | with_reducible refine w_M1 ?_ | with_reducible refine w_isStr ?_
  | dsimp only))
local macro_rules | `(tactic| walk_at "same") => `(tactic| first | exact Same.refl _ | assumption | exact Stp.g (by assumption) | (refine Same.trans (Stp.g (by assumption)) ?_; walk_at "same"))
local macro_rules | `(tactic| walk_at "k") => `(tactic| first | assumption | exact Stp.k (by assumption) | exact Acc.k (by assumption))
local macro_rules | `(tactic| walk_at "stp") => `(tactic| first | assumption | exact Stp.refl (by walk_at "k") | (refine Stp.trans (by assumption) ?_; walk_at "stp"))
local macro_rules | `(tactic| walk_at "up") => `(tactic| first | assumption | exact up (by assumption) (by walk_at "same"))
local macro_rules | `(tactic| walk_at "gh") => `(tactic| first | assumption | exact Stp.k (by assumption) | (refine Same.trans (Stp.g (by assumption)) ?_; walk_at "gh"))
local macro_rules | `(tactic| walk_at "at") => `(tactic| first | assumption | exact at_ (by assumption) (by walk_at "gh"))
local macro_rules | `(tactic| walk_at "L") => `(tactic| exact SqL.of (by walk_at "at"))
local macro_rules | `(tactic| walk_at "T") => `(tactic| exact SqT.of (by walk_at "at"))
local macro_rules | `(tactic| walk_at "o1") => `(tactic| first | with_reducible refine w_yes (by first | assumption | omega) ?_ | with_reducible refine w_no (by first | assumption | omega) ?_ | with_reducible refine w_yesN (by first | assumption | omega) ?_ | with_reducible refine w_noN (by first | assumption | omega) ?_)
local macro_rules | `(tactic| walk_at "o") => `(tactic| (walk_at "rd"; repeat (walk_at "o1"; walk_at "rd")))

section
variable {P : Program} {w : World} {K : PySem.W.Frag} {mg : Str → Option Value} {base : Heap} {CX : CXT} {g x q m : Str} {C : Addr} {st : Stmt} {N ps : List Str} {k : Nat} {sp : Sp}
theorem Std.calX (D : Std K mg g x q st ps) (S : FnScope N ps (defScope st)) (len : ∀ vs H Q E, sp vs H Q E → vs.length = ps.length)
    (hbody : ∀ (f : Addr) (cdv : Value) (A : Around) (outer : List Env) (s : Shared) (H : Hp) (vs : List V) (Q : VK) (E : XK), Room k (A.deeper (envOfC q (defScope st) s.heap.objs.size f cdv)) → sp vs H Q E →
      ∃ t, PSs (cxOf CX P w K mg base N q (defScope st) f cdv A outer s H E) (defBody st) t ∧ t { nx := fun _ H' => Q .non H', rt := Q } (start N vs) H) : Cal P w K mg base CX g ps (k + 1) sp := by
  obtain ⟨f, fd, F, e, b⟩ := D
  exact ⟨f, fd, F.ok S len fun cdv A outer s H vs Q E hr h => hbody f cdv A outer s H vs Q E hr h, e, F.kp, b⟩
theorem StdM.metX (D : StdM K C m q st ps) (S : FnScope N ps (defScope st)) (len : ∀ vs H Q E, sp vs H Q E → vs.length = ps.length)
    (hbody : ∀ (f : Addr) (cdv : Value) (A : Around) (outer : List Env) (s : Shared) (H : Hp) (vs : List V) (Q : VK) (E : XK), Room k (A.deeper (envOfC q (defScope st) s.heap.objs.size f cdv)) → sp vs H Q E →
      ∃ t, PSs (cxOf CX P w K mg base N q (defScope st) f cdv A outer s H E) (defBody st) t ∧ t { nx := fun _ H' => Q .non H', rt := Q } (start N vs) H) : Met P w K mg base CX C m ps (k + 1) sp := by
  obtain ⟨f, fd, F, c, e, b⟩ := D
  exact ⟨f, fd, F.ok S len fun cdv A outer s H vs Q E hr h => hbody f cdv A outer s H vs Q E hr h, c, e, b⟩
end
/-! ### Stuck -/
/-- what is asked of the class Stuck; its __init__ is the def at fI -/
structure Stk (K : PySem.W.Frag) (mg : Str → Option Value) (A : Adr) (fI : Addr) (fd : FuncData) : Prop where
  oex : OexC K A.stuck
  nRod : PySem.W.findIn K (.ref A.stuck) "rod" = some none
  nAt : PySem.W.findIn K (.ref A.stuck) "at" = some none
  g : mg "Stuck" = some (.ref A.stuck)
  ini : PySem.W.findIn K (.ref A.stuck) "__init__" = some (some (.ref fI))
  tyI : PySem.W.typeIn K (.ref fI) = some (.type "function")
  fn : FnP K "__init__" "Stuck.__init__" s_Stuck_init fI fd
  bi : Binds K fd ["self", "rod", "at"] []
  xf : XfC K A.stuck
  exm : PySem.W.exmOne K (.ref A.stuck) (.ref A.stuck) = some true
  fe : ∃ C0 mc, mg "FrameError" = some (.ref C0) ∧ ClX.CRead K C0 mc ∧ PySem.W.findCls K (.ref C0) mc "__init__" = some (.val (.builtin "ValueError.__init__"))
def spStuckI (A : Adr) : Sp := fun vs H Q _ => ∃ (a : Addr) (r t : V), vs = [.ref a, r, t] ∧ H a = some (exo a A.stuck none) ∧ ∀ dx, H dx = none → dx ≠ a → Q .non (upd (upd (upd H dx (exd dx [("rod", r)])) a (exo a A.stuck (some dx))) dx (exd dx [("at", t), ("rod", r)]))
section
variable {P : Program} {w : World} {K : PySem.W.Frag} {mg : Str → Option Value} {base : Heap} {A : Adr} {fI : Addr} {fd : FuncData}
theorem w_vei {σ : L2.St} {H : Hp} {Q : VK} {ta : TA} (h : ta σ H fun vs H1 => ∃ (a C : Addr) (ws : List V), vs = .ref a :: ws ∧ ws.length ≤ 1000 ∧ OexC K C ∧ H1 a = some (exo a C none) ∧ Q .non H1) : tVeI K ta σ H Q := h
theorem w_ost {σ : L2.St} {H : Hp} {D : Ends} {to te : TE} {f : Str} (h : te σ H fun y H1 => to σ H1 fun x H2 => ∃ a C : Addr, x = .ref a ∧ OexC K C ∧ PySem.W.findIn K (.ref C) f = some none ∧
  ((H2 a = some (exo a C none) ∧ ∀ dx, H2 dx = none → dx ≠ a → D.nx σ (upd (upd H2 dx (exd dx [(f, y)])) a (exo a C (some dx)))) ∨
    ∃ (dx : Addr) (fs : List (Str × V)), H2 a = some (exo a C (some dx)) ∧ H2 dx = some (exd dx fs) ∧ fs.length ≤ 900 ∧ D.nx σ (upd H2 dx (exd dx ((f, y) :: fs))))) : tOst K f to te D σ H := h
theorem stuck_walk (U : Stk K mg A fI fd) {C0 : Addr} {a : Addr} {r t : V} {H : Hp} {D : Ends} (ha : H a = some (exo a A.stuck none)) (q : ∀ dx, H dx = none → dx ≠ a → ∀ σ, D.nx σ (upd (upd (upd H dx (exd dx [("rod", r)])) a (exo a A.stuck (some dx))) dx (exd dx [("at", t), ("rod", r)]))) :
    tSeq (tDrop (tVeI K (tCons (tVar 0) (tCons (tC (.str "beads that can't be pushed so")) tNil)))) (tSeq (tOst K "rod" (tVar 0) (tVar 1)) (tSeq (tOst K "at" (tVar 0) (tVar 2)) tNext)) D [some (.ref a), some r, some t] H := by
  walk_at "rd"
  refine w_vei ?_
  walk_at "rd"
  refine ⟨a, A.stuck, _, rfl, Nat.le_of_ble_eq_true rfl, U.oex, ha, ?_⟩
  walk_at "rd"
  refine w_ost ?_
  walk_at "rd"
  refine ⟨a, A.stuck, rfl, U.oex, U.nRod, .inl ⟨ha, fun dx hdx ne => ?_⟩⟩
  walk_at "rd"
  refine w_ost ?_
  walk_at "rd"
  refine ⟨a, A.stuck, rfl, U.oex, U.nAt, .inr ⟨dx, [("rod", r)], upd_same, ?_, Nat.le_of_ble_eq_true rfl, ?_⟩⟩
  · rw [upd_ne ne, upd_same]
  · exact q dx hdx ne _
theorem fn_stuck (U : Stk K mg A fI fd) : FnOk P w K mg base CX0 1 fI fd ["self", "rod", "at"] (spStuckI A) := by
  obtain ⟨C0, mc, e1, e2, e3⟩ := U.fe
  refine U.fn.ok sc_Stuck_init (fun vs H Q E h => ?_) (fun cdv A0 outer s H vs Q E hr h => ?_)
  · obtain ⟨a, r, t, rfl, _⟩ := h; rfl
  · obtain ⟨a, r, t, rfl, ha, q⟩ := h
    refine ⟨_, (pss_cons (ps_expr (pe_feinit (by rfl) e1 e2 e3 (pa_cons (pv 0) (pa_cons pe_str pa_nil)))) (pss_cons (ps_ost (pv 0) (pv 1)) (pss_one (ps_ost (pv 0) (pv 2))))), ?_⟩
    exact stuck_walk U (C0 := C0) ha fun dx h1 h2 σ => q dx h1 h2
theorem fn_stuckH (U : Stk K mg A fI fd) : L2H.FnH P w K mg base CX0 1 fI fd ["self", "rod", "at"] (spStuckI A) := by
  obtain ⟨C0, mc, e1, e2, e3⟩ := U.fe
  obtain ⟨oc, od, dV, kV, doc, pm, an, cdv, ct, osl, rfl, lk, hcd, _, _⟩ := U.fn.ex
  refine L2H.fn_ofH lk hcd sc_Stuck_init (fun vs H Q E h => ?_) (fun A0 outer s H vs Q E p hot hr h => ?_)
  · obtain ⟨a, r, t, rfl, _⟩ := h; rfl
  · obtain ⟨a, r, t, rfl, ha, q⟩ := h
    refine ⟨_, (pss_cons (ps_expr (pe_feinit (by rfl) e1 e2 e3 (pa_cons (pv 0) (pa_cons pe_str pa_nil)))) (pss_cons (ps_ost (pv 0) (pv 1)) (pss_one (ps_ost (pv 0) (pv 2))))), ?_⟩
    exact stuck_walk U (C0 := C0) ha fun dx h1 h2 σ => q dx h1 h2
/-- Stuck(r, t) made -/
def MkoT (C : Addr) (sp : Sp) (Q : XK) : List V → Hp → Prop := fun vs H1 => vs.length ≤ 1000 ∧ ∀ a, H1 a = none → sp (.ref a :: (vs ++ [])) (upd H1 a (exo a C none))
  (fun v H2 => v = .non ∧ ∃ (d : Addr) (fs : List (Str × V)), H2 a = some (exo a C (some d)) ∧ H2 d = some (exd d fs) ∧ H1 d = none ∧ Q (.ref C) (some d) (upd (del H2 a) d (.xd fs))) (fun _ _ _ => False)
theorem w_mko {σ : L2.St} {H : Hp} {Q : XK} {ta : TA} {C : Addr} {sp : Sp} (h : ta σ H (MkoT C sp Q)) : tMkO C sp [] ta σ H Q := h
theorem w_stuck {H1 : Hp} {Q : XK} {r t : V} (q : ∀ d H', Same H1 H' → H1 d = none → H' d = some (.xd [("at", t), ("rod", r)]) → Q (.ref A.stuck) (some d) H') : MkoT A.stuck (spStuckI A) Q [r, t] H1 := by
  refine ⟨by show 2 ≤ 1000; omega, fun a ha => ⟨a, r, t, rfl, upd_same, fun dx hdx ne => ?_⟩⟩
  have hd : H1 dx = none := by rw [upd_ne ne] at hdx; exact hdx
  refine ⟨rfl, dx, _, ?_, upd_same, hd, q dx _ (fun b u e => ?_) hd upd_same⟩
  · rw [upd_ne (Ne.symm ne), upd_same]
  · have n1 : b ≠ dx := ne_of_none e hd
    have n2 : b ≠ a := ne_of_none e ha
    rw [upd_ne n1, del_ne n2, upd_ne n1, upd_ne n2, upd_ne n1, upd_ne n2]
    exact e
theorem rod_at {r t : V} : ([("at", t), ("rod", r)] : List (Str × V)).lookup ("rod" : Str) = some r := by
  have e : (("rod" : Str) == "at") = false := by decide +kernel
  simp [List.lookup, e]
/-! ### Move.done -/
def spDone (A : Adr) (k : K4) : Sp := fun vs H Q E => ∃ (G : Hp) (fr : List Lay) (st : List Rod) (m : Mv) (v vf vst : V), vs = [v, vf, vst] ∧ Same G H ∧ RMv A G v m ∧ m.k = k ∧ RFrame G vf fr ∧ RStd G vst st ∧ st.length = fr.length ∧ fr.length ≤ 100 ∧
  (∀ s', push fr st m = some s' → ∀ v' G' H', Stp G H G' H' → RStd G' v' s' → Q v' H') ∧ (push fr st m = none → ∀ d fs H', Same H H' → H d = none → H' d = some (.xd fs) → fs.lookup ("rod" : Str) = some (.int m.rod) → E (.ref A.stuck) (some d) H')
theorem ok_done {k : K4} (T : Bas K mg) (TC : Cla K mg A) (U : Stk K mg A fI fd) (t_reached : Met P w K mg base CX0 (A.mv k) "reached" ["self", "layout", "rod_standing"] 1 (spRea A k))
    (D : StdM K (A.mv k) "done" "Move.done" s_Move_done ["self", "frame", "standing"]) : Met P w K mg base (L2N.CX P w) (A.mv k) "done" ["self", "frame", "standing"] 3 (spDone A k) := by
  refine D.metX sc_Move_done (fun vs H Q E h => ?_) (fun f cdv A0 outer s H vs Q E hr h => ?_)
  · obtain ⟨G, fr, st, m, v, vf, vst, rfl, _⟩ := h; rfl
  · obtain ⟨G, fr, st, m, v, vf, vst, rfl, kk, ⟨a, dx, rfl, ha⟩, hk, ⟨pf, xf, rfl, hf, rf⟩, ⟨ps, xs, rfl, hs, rs⟩, hl, hz, qy, qn⟩ := h
    subst hk
    refine ⟨_, (pss_cons (ps_if (pt_cmpR op_ge (pe_fld (pv 0) rfl) (pe_callB callLen (by rfl) T.z_len PySem.boot_len (pa_cons (pv 1) pa_nil)) (nomark _)) (pss_one (L2N.ps_raise rfl (L2N.takes_of rfl rfl rfl rfl) (pmkN U.oex U.ini U.tyI (fn_stuck U) (hr.mono (by decide)) U.bi pass0 U.g (pa_cons (pe_fld (pv 0) rfl) (pa_cons pe_non pa_nil))))) pss_nil)
  (pss_cons (ps_set (i := 3) sc_Move_done.nd rfl (by first | exact Or.inl rfl | exact Or.inr rfl) (pe_ix ix_seq (pv 1) (pe_fld (pv 0) rfl) (fun _ _ => rfl)))
  (pss_cons (ps_asg (pe_met t_reached hr (by decide) pass0 (pv 0) (pa_cons (pv 3) (pa_cons (pe_ix ix_seq (pv 2) (pe_fld (pv 0) rfl) (fun _ _ => rfl)) pa_nil))) (pg_tup rfl (pgs_cons (pg_name (i := 4) sc_Move_done.nd rfl (by first | exact Or.inl rfl | exact Or.inr rfl)) (pgs_cons (pg_name (i := 5) sc_Move_done.nd rfl (by first | exact Or.inl rfl | exact Or.inr rfl)) pgs_nil))))
  (pss_cons (ps_if (PW.pt (pw_or (pt_not (pt_chain op_le op_le pe_int (pv 4) (pe_ix ix_seq (pv 3) pe_int (fun _ _ => rfl)))) (pw_or1 (pt_not (pt_chain op_le op_le pe_int (pv 5) (pe_ix ix_seq (pv 3) pe_int (fun _ _ => rfl))))))) (pss_one (L2N.ps_raise rfl (L2N.takes_of rfl rfl rfl rfl) (pmkN U.oex U.ini U.tyI (fn_stuck U) (hr.mono (by decide)) U.bi pass0 U.g (pa_cons (pe_fld (pv 0) rfl) (pa_cons pe_non pa_nil))))) pss_nil)
  (pss_one (ps_ret (pe_op opAdd (pe_op opAdd (pe_slice sl_list (pv 2) po_none (po_some (pe_fld (pv 0) rfl))) (pe_lst (pa_cons (pe_tup (pa_cons (pv 4) (pa_cons (pv 5) pa_nil))) pa_nil))) (pe_slice sl_list (pv 2) (po_some (pe_op opAdd (pe_fld (pv 0) rfl) pe_int)) po_none)))))))), ?_⟩
    have lf := paired_len rf
    have lx := paired_len rs
    walk_at "rd"
    refine w_rod TC (by walk_at "at") ?_
    walk_at "rd"
    refine w_lenL (by walk_at "L") ?_
    walk_at "rd"
    have stuck : push fr st m = none → ∀ {H' : Hp}, Same H H' → MkoT A.stuck (spStuckI A) (fun cls d H'' => E cls d H'') [.int m.rod, .non] H' := fun hn H' s => w_stuck fun d H'' s2 h1 h2 => qn hn d _ H'' (s.trans s2) (s.free h1) h2 rod_at
    refine w_ite (fun c => ?_) (fun c => ?_)
    · walk_at "rd"
      refine w_mko ?_
      walk_at "rd"
      refine w_rod TC (by walk_at "at") ?_
      walk_at "rd"
      have e : fr[m.rod]? = none := List.getElem?_eq_none_iff.mpr (by omega)
      exact stuck (by unfold push; rw [e]) (Same.refl _)
    · have hr1 : m.rod < fr.length := by omega
      obtain ⟨ly, ey⟩ : ∃ ly, fr[m.rod]? = some ly := ⟨_, List.getElem?_eq_getElem hr1⟩
      obtain ⟨s0, es⟩ : ∃ s0, st[m.rod]? = some s0 := ⟨_, List.getElem?_eq_getElem (by omega)⟩
      obtain ⟨_, ex, py, rfl, hy⟩ := paired_at rf ey
      obtain ⟨_, ex2, p0, rfl, h0⟩ := paired_at rs es
      walk_at "rd"
      refine w_rod TC (by walk_at "at") ?_
      walk_at "rd"
      refine w_ixL (by walk_at "L") ex ?_
      walk_at "rd"
      refine ⟨a, dx, mvF m, rfl, at_ ha kk, mv_no m (by decide +kernel) (by decide +kernel), ?_⟩
      walk_at "rd"
      refine w_rod TC (by walk_at "at") ?_
      walk_at "rd"
      refine w_ixL (by walk_at "L") ex2 ?_
      walk_at "rd"
      refine ⟨G, m, s0, _, _, _, rfl, kk, ⟨a, dx, rfl, ha⟩, rfl, ⟨p0, rfl, h0⟩, ?_⟩
      rintro v1 G1 H1 s1 ⟨p1, rfl, hp1⟩
      walk_at "rd"
      refine w_gtup (by walk_at "T") rfl ?_
      unfold rodV
      walk_at "rd"
      have no : ¬ fits ly (reach m.k s0 m.beads) → push fr st m = none := fun c => by
        unfold push
        rw [ey, es]
        show (if _ then _ else _) = none
        rw [if_neg c]
      refine w_ite (fun c1 => ?_) (fun c1 => ?_)
      · refine w_op ?_
        walk_at "rd"
        refine w_ixT (i := 0) (by walk_at "T") rfl ?_
        walk_at "rd"
        refine w_iteN (fun c2 => ?_) (fun c2 => ?_)
        · walk_at "rd"
          refine w_mko ?_
          walk_at "rd"
          refine w_rod TC (by walk_at "at") ?_
          walk_at "rd"
          exact stuck (no fun h => c2 h.1.2) s1.h
        · walk_at "rd"
          refine w_ite (fun c3 => ?_) (fun c3 => ?_)
          · refine w_op ?_
            walk_at "rd"
            refine w_ixT (i := 2) (by walk_at "T") rfl ?_
            walk_at "rd"
            refine w_iteN (fun c4 => ?_) (fun c4 => ?_)
            · walk_at "rd"
              refine w_mko ?_
              walk_at "rd"
              refine w_rod TC (by walk_at "at") ?_
              walk_at "rd"
              exact stuck (no fun h => c4 h.2.2) s1.h
            · walk_at "rd"
              refine w_rod TC (by walk_at "at") ?_
              walk_at "rd"
              refine w_slTake (by walk_at "k") (by walk_at "L") (by omega) fun p5 G5 H5 s5 hp5 _ => ?_
              walk_at "rd"
              refine w_tupK (by walk_at "k") rfl fun p6 G6 H6 s6 hp6 _ => ?_
              walk_at "rd"
              refine w_lstK (by walk_at "k") rfl fun p7 G7 H7 s7 hp7 _ => ?_
              walk_at "rd"
              refine w_cat (by walk_at "k") (by walk_at "at") (by walk_at "at") (by simp; omega) fun p8 G8 H8 s8 hp8 _ => ?_
              walk_at "rd"
              refine w_rod TC (by walk_at "at") ?_
              walk_at "rd"
              refine w_slDrop (i := m.rod + 1) (by walk_at "k") (by walk_at "L") (by omega) fun p9 G9 H9 s9 hp9 _ => ?_
              walk_at "rd"
              refine w_cat (by walk_at "k") (by walk_at "at") (by walk_at "at") (by simp; omega) fun p10 G10 H10 s10 hp10 _ => ?_
              refine qy (st.take m.rod ++ [reach m.k s0 m.beads] ++ st.drop (m.rod + 1)) ?_ _ G10 H10 (by walk_at "stp") ?_
              · unfold push
                rw [ey, es]
                show (if _ then _ else _) = _
                rw [if_pos ⟨⟨c1, c2⟩, c3, c4⟩]
              · refine ⟨_, _, rfl, hp10, ?_⟩
                have r1 : Paired (RRod G10) xs st := paired_up (by walk_at "same") rs
                exact paired_app (paired_app (paired_take _ r1) (.cons ⟨p6, rfl, (show Same G6 G10 by walk_at "same") _ _ hp6⟩ .nil)) (paired_drop _ r1)
          · walk_at "rd"
            refine w_mko ?_
            walk_at "rd"
            refine w_rod TC (by walk_at "at") ?_
            walk_at "rd"
            exact stuck (no fun h => c3 h.2.1) s1.h
      · walk_at "rd"
        refine w_mko ?_
        walk_at "rd"
        refine w_rod TC (by walk_at "at") ?_
        walk_at "rd"
        exact stuck (no fun h => c1 h.1.1) s1.h
end
end BF
namespace BF
open PySem PySem.Spec PyProof.Rows L2 TL HotX
local macro_rules | `(tactic| walk_at "rd") => `(tactic| repeat (first
  | with_reducible refine w_var rfl ?_ | with_reducible refine w_c ?_ | with_reducible refine w_seq ?_ | with_reducible refine w_op ?_
  | with_reducible refine w_asg ?_ | with_reducible refine w_name ?_ | with_reducible refine w_ret ?_ | with_reducible refine w_drop ?_ | with_reducible refine w_next ?_
  | with_reducible refine w_if ?_ | with_reducible refine w_test ?_ | with_reducible refine w_B ?_ | with_reducible refine w_bl ?_ | with_reducible refine w_not ?_
  | with_reducible refine w_and ?_ | with_reducible refine w_or ?_ | with_reducible refine w_nil ?_ | with_reducible refine w_cons ?_ | with_reducible refine w_cb ?_
  | with_reducible refine w_chain ?_ | with_reducible refine w_call ?_ | with_reducible refine w_un ?_ | with_reducible refine w_neg ?_
  | with_reducible refine w_andV ?_ | with_reducible refine w_orV ?_ | with_reducible refine w_notV ?_ | with_reducible refine w_iteT ?_ | with_reducible refine w_iteF ?_ | with_reducible refine w_ntT ?_ | with_reducible refine w_ntF ?_
  | with_reducible refine g_add ?_ | with_reducible refine g_sub ?_ | with_reducible refine g_cmp ?_ | with_reducible refine g_eqI ?_ | with_reducible refine g_neI ?_ | with_reducible refine g_eqS ?_ | with_reducible refine g_neS ?_
  | with_reducible refine w_min ?_ | with_reducible refine w_max ?_ | with_reducible refine w_isN ?_ | with_reducible refine w_notN ?_ | with_reducible refine w_notSg ?_ | with_reducible refine w_gcons ?_ | with_reducible refine w_gnil ?_ | with_reducible refine w_sl ?_ | with_reducible refine w_noP ?_ | with_reducible refine w_part ?_ | with_reducible refine w_int1 ?_ | with_reducible refine w_tup ?_ | with_reducible refine w_lst ?_ | with_reducible refine g_intB ?_ | with_reducible refine w_fld ?_ | with_reducible refine w_meth ?_ | with_reducible refine w_make ?_
  | with_reducible refine w_lc ?_ | with_reducible refine w_for ?_ | with_reducible refine w_iL ?_ | with_reducible refine w_iT ?_ | with_reducible refine w_iS ?_ | with_reducible refine w_iRev ?_ | with_reducible refine w_iEn ?_ | with_reducible refine w_iZip ?_ | with_reducible refine w_iR1 ?_
  | with_reducible refine w_bm ?_ | with_reducible refine w_bm0 ?_ | with_reducible refine w_M1 ?_ | with_reducible refine w_isStr ?_
  | dsimp only))
local macro_rules | `(tactic| walk_at "same") => `(tactic| first | exact Same.refl _ | assumption | exact Stp.g (by assumption) | (refine Same.trans (Stp.g (by assumption)) ?_; walk_at "same"))
local macro_rules | `(tactic| walk_at "k") => `(tactic| first | assumption | exact Stp.k (by assumption) | exact Acc.k (by assumption))
local macro_rules | `(tactic| walk_at "stp") => `(tactic| first | assumption | exact Stp.refl (by walk_at "k") | (refine Stp.trans (by assumption) ?_; walk_at "stp"))
local macro_rules | `(tactic| walk_at "up") => `(tactic| first | assumption | exact up (by assumption) (by walk_at "same"))
local macro_rules | `(tactic| walk_at "gh") => `(tactic| first | assumption | exact Stp.k (by assumption) | (refine Same.trans (Stp.g (by assumption)) ?_; walk_at "gh"))
local macro_rules | `(tactic| walk_at "at") => `(tactic| first | assumption | exact at_ (by assumption) (by walk_at "gh"))
local macro_rules | `(tactic| walk_at "L") => `(tactic| exact SqL.of (by walk_at "at"))
local macro_rules | `(tactic| walk_at "T") => `(tactic| exact SqT.of (by walk_at "at"))
local macro_rules | `(tactic| walk_at "o1") => `(tactic| first | with_reducible refine w_yes (by first | assumption | omega) ?_ | with_reducible refine w_no (by first | assumption | omega) ?_ | with_reducible refine w_yesN (by first | assumption | omega) ?_ | with_reducible refine w_noN (by first | assumption | omega) ?_)
local macro_rules | `(tactic| walk_at "o") => `(tactic| (walk_at "rd"; repeat (walk_at "o1"; walk_at "rd")))

/-- a pair given by enumerate, zip: known from now on -/
theorem y_pair {xs ys : Nat → Option V} {i : Nat} {G H H' : Hp} {v : V} (k : Same G H) (y : YPair xs ys i H v H') : ∃ T a b G', v = .ref T ∧ Stp G H G' H' ∧ G' T = some (.tup [a, b]) ∧ xs i = some a ∧ ys i = some b := by
  obtain ⟨T, a, b, rfl, h1, rfl, h2, h3⟩ := y
  exact ⟨T, a, b, _, rfl, Stp.new k h1, upd_same, h2, h3⟩
theorem push_len {fr : List Lay} {st s' : List Rod} {m : Mv} (h : push fr st m = some s') : s'.length = st.length := by
  unfold push at h
  split at h
  · rename_i ly s e1 e2
    have hlt : m.rod < st.length := (List.getElem?_eq_some_iff.mp e2).1
    split at h
    · cases h
      simp
      omega
    · cases h
  · cases h
theorem allM_len {fr : List Lay} : ∀ {ms : List Mv} {st s' : List Rod}, allM fr st ms = some s' → s'.length = st.length
  | [], st, s', h => by cases h; rfl
  | m :: ms, st, s', h => by
    unfold allM at h
    split at h
    · rename_i s e
      rw [allM_len h, push_len e]
    · cases h
section
variable {P : Program} {w : World} {K : PySem.W.Frag} {mg : Str → Option Value} {base : Heap} {A : Adr} {fI : Addr} {fd : FuncData}
def spDoneAll (A : Adr) : Sp := fun vs H Q E => ∃ (G : Hp) (fr : List Lay) (st : List Rod) (ms : List Mv) (vf vst vr : V), vs = [vf, vst, vr] ∧ Same G H ∧ RFrame G vf fr ∧ RStd G vst st ∧ RRow A G vr ms ∧ st.length = fr.length ∧ fr.length ≤ 100 ∧
  (∀ s', allM fr st ms = some s' → ∀ v' G' H', Stp G H G' H' → RStd G' v' s' → Q v' H') ∧ (allM fr st ms = none → ∀ d H', Same H H' → E (.ref A.stuck) (some d) H')
theorem w_metS {X : Cx} {C : Addr} {m : Str} {sp : Sp} {E : L2.St → XK} {ta : TE} {t : TA} {σ : L2.St} {H : Hp} {Q : VK} (h : ta σ H fun x H1 => ∃ a dx fs, x = .ref a ∧ H1 a = some (.ins C dx fs) ∧ fs.lookup m = none ∧ t σ H1 fun vs H2 => sp (x :: vs) H2 Q (E σ)) : tMetS C m sp E ta t σ H Q := h
theorem w_xf {a C : Addr} {cls : Value} {d : Option Addr} {f : Str} {te : TE} {σ : L2.St} {H : Hp} {Q : VK} (h : te σ H fun x H1 => x = .ref a ∧ cls = .ref C ∧ ∃ (dd : Addr) (fs : List (Str × V)) (v : V), d = some dd ∧ H1 dd = some (.xd fs) ∧ fs.lookup f = some v ∧ Q v H1) : tXf a cls d C f te σ H Q := h
theorem ok_done_all (T : Bas K mg) (TC : Cla K mg A) (U : Stk K mg A fI fd) (t_done : ∀ k, Met P w K mg base (L2N.CX P w) (A.mv k) "done" ["self", "frame", "standing"] 3 (spDone A k))
    (D : Std K mg "done_all" "done_all" "done_all" s_done_all ["frame", "standing", "row"]) : Cal P w K mg base (L2.CX P w) "done_all" ["frame", "standing", "row"] 4 (spDoneAll A) := by
  refine D.calX sc_done_all (fun vs H Q E h => ?_) (fun f cdv A0 outer s H vs Q E hr h => ?_)
  · obtain ⟨G, fr, st, ms, vf, vst, vr, rfl, _⟩ := h; rfl
  · obtain ⟨G, fr, st, ms, vf, vst, vr, rfl, k, ⟨pf, xf, rfl, hf, rf⟩, ⟨ps, xs, rfl, hs, rs⟩, ⟨pr, xr, rfl, hrr, rr⟩, hl, hz, qy, qn⟩ := h
    refine ⟨_, (pss_cons (ps_set (i := 3) sc_done_all.nd rfl (by first | exact Or.inl rfl | exact Or.inr rfl) (pe_callTy callList (by rfl) T.z_list boot_list (pa_cons (pv 1) pa_nil)))
  (pss_cons (ps_for (passes_of rfl) rfl (pi_enum (by rfl) T.z_enumerate (pa_cons (pv 2) pa_nil)) (pg_tup rfl (pgs_cons (pg_name (i := 4) sc_done_all.nd rfl (by first | exact Or.inl rfl | exact Or.inr rfl)) (pgs_cons (pg_name (i := 5) sc_done_all.nd rfl (by first | exact Or.inl rfl | exact Or.inr rfl)) pgs_nil)))
  (pss_one (ps_try_asX (i := 6) rfl rfl sc_done_all.nd rfl rfl ⟨rfl, by decide, .inl U.g⟩ (fun hd => L2H.passesAt_of rfl hd) (takes_of rfl rfl rfl rfl)
   (fun W pn xe tkb _ => (pss_one (ps_set (i := 3) sc_done_all.nd rfl (by first | exact Or.inl rfl | exact Or.inr rfl) (pe_ex fun kk => pe_metS (E := WE W) (t_done kk) hr (by decide) (L2N.passAt tkb) (pv 5) (pa_cons (pv 0) (pa_cons (pv 3) pa_nil))))))
   (fun a oe cls d pn xe hz hf tks hot => pss_one (L2H.ps_raiseHN hot tks (L2H.pmk5_oexH U.oex U.ini U.tyI (fn_stuckH U) (L2H.roomH_mark (hr.mono (by decide)) _) hot U.bi pass0 rfl U.g (pa_cons (pe_xg List.mem_cons_self U.xf U.nRod hz.zc hf (pv 6)) (pa_cons (pv 4) pa_nil))))))))
  (pss_one (ps_ret (pv 3))))), ?_⟩
    walk_at "rd"
    refine w_listOf (by walk_at "k") (by walk_at "L") fun p0 G0 H0 s0 hp0 => ?_
    walk_at "rd"
    refine ⟨pr, xr, rfl, by walk_at "L", for_go (walk_enum (xs := xr)) (fun i σ H' => ∃ (G' : Hp) (cur : List Rod) (p3 : Addr) (x3 : List V) (o4 o5 o6 : Option V), Stp G H G' H' ∧ allM fr st ms = allM fr cur (ms.drop i) ∧ cur.length = fr.length ∧ G' p3 = some (.lst x3) ∧ Paired (RRod G') x3 cur ∧
      σ = [some (.ref pf), some (.ref ps), some (.ref pr), some (.ref p3), o4, o5, o6]) ?_ ?_ ?_ ?_⟩
    · exact ⟨G0, st, p0, xs, none, none, none, s0, rfl, hl, hp0, paired_up s0.g rs, rfl⟩
    · rintro i σ H' _ ⟨G', cur, p3, x3, o4, o5, o6, s', _⟩
      exact SqL.of (s'.k _ _ (s'.g _ _ hrr))
    · rintro i x σ H1 H' hi ⟨G', cur, p3, x3, o4, o5, o6, s', ea, el, h3, r3, rfl⟩ hY
      obtain ⟨T2, va, vb, G2, rfl, s2, hT, e1, e2⟩ := y_pair s'.k hY
      cases e1
      obtain ⟨mm, em, a, dx, rfl, ha⟩ := paired_get (paired_up (s'.trans s2).g rr) e2
      have hdrop : ms.drop i = mm :: ms.drop (i + 1) := by
        have hlt : i < ms.length := (List.getElem?_eq_some_iff.mp em).1
        rw [List.drop_eq_getElem_cons hlt]
        congr 1
        exact (List.getElem?_eq_some_iff.mp em).2
      rw [hdrop] at ea
      walk_at "rd"
      refine w_gtup (by walk_at "T") rfl ?_
      walk_at "rd"
      refine ⟨mm.k, ?_⟩
      refine w_metS (X := cxOf CX0 P w K mg base N_done_all "done_all" (defScope s_done_all) f cdv A0 outer s H E) ?_
      walk_at "rd"
      refine ⟨a, dx, mvF mm, rfl, by walk_at "at", mv_no mm (by decide +kernel) (by decide +kernel), ?_⟩
      walk_at "rd"
      refine ⟨G2, fr, cur, mm, _, _, _, rfl, s2.k, ⟨a, dx, rfl, ha⟩, rfl, ⟨pf, xf, rfl, (s'.trans s2).g _ _ hf, paired_up (s'.trans s2).g rf⟩, ⟨p3, x3, rfl, s2.g _ _ h3, paired_up s2.g r3⟩, el, hz, ?_, ?_⟩
      · rintro s3 ep v' G3 H3 st3 ⟨p5, x5, rfl, h5, r5⟩
        walk_at "rd"
        refine ⟨G3, s3, p5, x5, _, _, _, s'.trans (s2.trans st3), ?_, ?_, h5, r5, rfl⟩
        · rw [ea]
          show (match push fr cur mm with | some s => _ | none => none) = _
          rw [ep]
        · rw [push_len ep, el]
      · intro ep d fs H3 s3 hd0 hd hrod
        have en : allM fr st ms = none := by
          rw [ea]
          show (match push fr cur mm with | some s => allM fr s _ | none => none) = _
          rw [ep]
        refine ⟨true, U.exm, fun _ a2 ha2 => ?_, fun e => by cases e⟩
        walk_at "rd"
        refine w_mko ?_
        walk_at "rd"
        refine w_xf ?_
        walk_at "rd"
        refine ⟨rfl, rfl, d, fs, _, rfl, hd, hrod, ?_⟩
        walk_at "rd"
        refine w_stuck fun d2 H4 s4 h4 h5 => ?_
        exact qn en d2 H4 (((s'.trans s2).h.trans s3).trans s4)
    · rintro σ H' ⟨G', cur, p3, x3, o4, o5, o6, s', ea, el, h3, r3, rfl⟩
      walk_at "rd"
      have hd : ms.drop xr.length = [] := by
        rw [List.drop_eq_nil_iff, paired_len rr]
        exact Nat.le_refl _
      rw [hd] at ea
      exact qy cur ea _ G' H' s' ⟨p3, x3, rfl, h3, r3⟩
end
end BF
namespace BF
open PySem PySem.Spec PyProof.Rows L2 TL HotX
local macro_rules | `(tactic| walk_at "rd") => `(tactic| repeat (first
  | with_reducible refine w_var rfl ?_ | with_reducible refine w_c ?_ | with_reducible refine w_seq ?_ | with_reducible refine w_op ?_
  | with_reducible refine w_asg ?_ | with_reducible refine w_name ?_ | with_reducible refine w_ret ?_ | with_reducible refine w_drop ?_ | with_reducible refine w_next ?_
  | with_reducible refine w_if ?_ | with_reducible refine w_test ?_ | with_reducible refine w_B ?_ | with_reducible refine w_bl ?_ | with_reducible refine w_not ?_
  | with_reducible refine w_and ?_ | with_reducible refine w_or ?_ | with_reducible refine w_nil ?_ | with_reducible refine w_cons ?_ | with_reducible refine w_cb ?_
  | with_reducible refine w_chain ?_ | with_reducible refine w_call ?_ | with_reducible refine w_un ?_ | with_reducible refine w_neg ?_
  | with_reducible refine w_andV ?_ | with_reducible refine w_orV ?_ | with_reducible refine w_notV ?_ | with_reducible refine w_iteT ?_ | with_reducible refine w_iteF ?_ | with_reducible refine w_ntT ?_ | with_reducible refine w_ntF ?_
  | with_reducible refine g_add ?_ | with_reducible refine g_sub ?_ | with_reducible refine g_cmp ?_ | with_reducible refine g_eqI ?_ | with_reducible refine g_neI ?_ | with_reducible refine g_eqS ?_ | with_reducible refine g_neS ?_
  | with_reducible refine w_min ?_ | with_reducible refine w_max ?_ | with_reducible refine w_isN ?_ | with_reducible refine w_notN ?_ | with_reducible refine w_notSg ?_ | with_reducible refine w_gcons ?_ | with_reducible refine w_gnil ?_ | with_reducible refine w_sl ?_ | with_reducible refine w_noP ?_ | with_reducible refine w_part ?_ | with_reducible refine w_int1 ?_ | with_reducible refine w_tup ?_ | with_reducible refine w_lst ?_ | with_reducible refine g_intB ?_ | with_reducible refine w_fld ?_ | with_reducible refine w_meth ?_ | with_reducible refine w_make ?_
  | with_reducible refine w_lc ?_ | with_reducible refine w_for ?_ | with_reducible refine w_iL ?_ | with_reducible refine w_iT ?_ | with_reducible refine w_iS ?_ | with_reducible refine w_iRev ?_ | with_reducible refine w_iEn ?_ | with_reducible refine w_iZip ?_ | with_reducible refine w_iR1 ?_
  | with_reducible refine w_bm ?_ | with_reducible refine w_bm0 ?_ | with_reducible refine w_M1 ?_ | with_reducible refine w_isStr ?_
  | dsimp only))
local macro_rules | `(tactic| walk_at "same") => `(tactic| first | exact Same.refl _ | assumption | exact Stp.g (by assumption) | (refine Same.trans (Stp.g (by assumption)) ?_; walk_at "same"))
local macro_rules | `(tactic| walk_at "k") => `(tactic| first | assumption | exact Stp.k (by assumption) | exact Acc.k (by assumption))
local macro_rules | `(tactic| walk_at "stp") => `(tactic| first | assumption | exact Stp.refl (by walk_at "k") | (refine Stp.trans (by assumption) ?_; walk_at "stp"))
local macro_rules | `(tactic| walk_at "up") => `(tactic| first | assumption | exact up (by assumption) (by walk_at "same"))
local macro_rules | `(tactic| walk_at "gh") => `(tactic| first | assumption | exact Stp.k (by assumption) | (refine Same.trans (Stp.g (by assumption)) ?_; walk_at "gh"))
local macro_rules | `(tactic| walk_at "at") => `(tactic| first | assumption | exact at_ (by assumption) (by walk_at "gh"))
local macro_rules | `(tactic| walk_at "L") => `(tactic| exact SqL.of (by walk_at "at"))
local macro_rules | `(tactic| walk_at "T") => `(tactic| exact SqT.of (by walk_at "at"))
local macro_rules | `(tactic| walk_at "o1") => `(tactic| first | with_reducible refine w_yes (by first | assumption | omega) ?_ | with_reducible refine w_no (by first | assumption | omega) ?_ | with_reducible refine w_yesN (by first | assumption | omega) ?_ | with_reducible refine w_noN (by first | assumption | omega) ?_)
local macro_rules | `(tactic| walk_at "o") => `(tactic| (walk_at "rd"; repeat (walk_at "o1"; walk_at "rd")))

theorem takes_no {X : Cx} : Takes X (fun _ _ _ _ => False) := fun _ _ ⟨_, _, _, _, _, _, _, _, _, _, _, _, _, _, _, _, w⟩ => w.elim
theorem stp_h {G H H' : Hp} (k : Same G H) (s : Same H H') : Stp G H G H' := ⟨Same.refl _, s, k.trans s, fun _ h1 h2 => absurd h1 h2⟩
/-- append to a list that is being filled -/
theorem w_app {G0 H0 G H : Hp} {D : Addr} {xs : List V} {y : V} {Q : VK} (a : Acc G0 H0 D xs G H) (hl : xs.length ≤ 10000) (q : Acc G0 H0 D (xs ++ [y]) G (upd H D (.lst (xs ++ [y]))) → Q .non (upd H D (.lst (xs ++ [y])))) : rAppend (.ref D) [y] H Q :=
  ⟨D, xs, y, rfl, rfl, a.at_, by rw [sizeLine_eq]; omega, q a.push⟩
/-- a new list, to be filled -/
theorem w_acc {G H : Hp} {Q : VK} (k : Same G H) (c : ∀ D H', Acc G H D [] G H' → Q (.ref D) H') : NewL Q [] H := ⟨Nat.zero_le _, fun D hD => c D _ (Acc.start k hD)⟩
/-- filled: a list of ours -/
theorem Acc.lst {α : Type} {R : Hp → V → α → Prop} [Mono R] {G0 H0 G H : Hp} {D : Addr} {xs : List V} {l : List α} (a : Acc G0 H0 D xs G H) (r : Paired (R G) xs l) : RLst R (upd G D (.lst xs)) (.ref D) l := ⟨D, xs, rfl, upd_same, paired_up (same_new a.gd) r⟩
theorem w_bm {K : PySem.W.Frag} {T : String} {r : V → List V → Hp → VK → Prop} {te : TE} {t : TA} {σ : L2.St} {H : Hp} {Q : VK} (h : te σ H fun x H1 => tyV K T x H1 ∧ t σ H1 fun vs H2 => r x vs H2 Q) : tBM K T r te t σ H Q := h
theorem w_bm0 {K : PySem.W.Frag} {T : String} {r : V → List V → Hp → VK → Prop} {te : TE} {σ : L2.St} {H : Hp} {Q : VK} (h : te σ H fun x H1 => tyV K T x H1 ∧ r x [] H1 Q) : tBM0 K T r te σ H Q := h
theorem w_tyL {K : PySem.W.Frag} {H : Hp} {p : Addr} {xs : List V} {R : Prop} (h : H p = some (.lst xs)) (q : R) : tyV K "list" (.ref p) H ∧ R := ⟨.inl ⟨rfl, xs, SqL.of h⟩, q⟩
theorem w_cut {t u : TS} {D : Ends} {σ : L2.St} {H : Hp} (M : L2.St → Hp → Prop) (h1 : t { D with nx := M } σ H) (h2 : ∀ σ' H', M σ' H' → u D σ' H') : tCutS t u D σ H := ⟨M, h1, h2⟩
section
variable {P : Program} {w : World} {K : PySem.W.Frag} {mg : Str → Option Value} {base : Heap} {A : Adr} {fI : Addr} {fd : FuncData}
def spLike (A : Adr) : Sp := fun vs H Q _ => ∃ (G : Hp) (m : Mv) (r b : Nat) (v : V), vs = [v, .int r, .int b] ∧ Same G H ∧ RMv A G v m ∧ ∀ v' G' H', Stp G H G' H' → RMv A G' v' ⟨m.k, r, b⟩ → Q v' H'
theorem ok_like (T : Bas K mg) (TC : Cla K mg A) (m_Up : Mkr P w K mg base CX0 "Up" (A.mv .up) ["self", "rod", "beads"] 1 (spMvI A)) (m_Down : Mkr P w K mg base CX0 "Down" (A.mv .down) ["self", "rod", "beads"] 1 (spMvI A))
    (m_Put : Mkr P w K mg base CX0 "Put" (A.mv .put) ["self", "rod", "beads"] 1 (spMvI A)) (m_Take : Mkr P w K mg base CX0 "Take" (A.mv .take) ["self", "rod", "beads"] 1 (spMvI A))
    (D : Std K mg "like" "like" "like" s_like ["move", "rod", "beads"]) : Cal P w K mg base CX0 "like" ["move", "rod", "beads"] 3 (spLike A) := by
  have g_Up := TC.gUp
  have g_Down := TC.gDown
  have g_Put := TC.gPut
  refine D.cal sc_like (fun vs H Q E h => ?_) (fun f cdv A0 outer s H vs Q E hr h => ?_)
  · obtain ⟨G, m, r, b, v, rfl, _⟩ := h; rfl
  · obtain ⟨G, ⟨mk, mr, mb⟩, r, b, v, rfl, k, ⟨a, dx, rfl, ha⟩, q⟩ := h
    have hH := at_ ha k
    refine ⟨_, (pss_cons (ps_if (pt_val (pe_callB call_isi (by rfl) T.z_isinstance boot_isinstance (pa_cons (pv 0) (pa_cons (pe_gc g_Up) pa_nil)))) (pss_one (ps_ret (pe_mkr m_Up hr (by decide) pass0 (pa_cons (pv 1) (pa_cons (pv 2) pa_nil))))) pss_nil)
  (pss_cons (ps_if (pt_val (pe_callB call_isi (by rfl) T.z_isinstance boot_isinstance (pa_cons (pv 0) (pa_cons (pe_gc g_Down) pa_nil)))) (pss_one (ps_ret (pe_mkr m_Down hr (by decide) pass0 (pa_cons (pv 1) (pa_cons (pv 2) pa_nil))))) pss_nil)
  (pss_cons (ps_if (pt_val (pe_callB call_isi (by rfl) T.z_isinstance boot_isinstance (pa_cons (pv 0) (pa_cons (pe_gc g_Put) pa_nil)))) (pss_one (ps_ret (pe_mkr m_Put hr (by decide) pass0 (pa_cons (pv 1) (pa_cons (pv 2) pa_nil))))) pss_nil)
  (pss_one (ps_ret (pe_mkr m_Take hr (by decide) pass0 (pa_cons (pv 1) (pa_cons (pv 2) pa_nil)))))))), ?_⟩
    walk_at "rd"
    refine w_isMv (m := ⟨mk, mr, mb⟩) TC hH ?_
    walk_at "rd"
    refine w_ite (fun c => ?_) (fun c => ?_)
    · cases (show mk = .up from c)
      walk_at "rd"
      exact w_makeMv k fun v G' H' s r => q v G' H' s r
    · walk_at "rd"
      refine w_isMv (m := ⟨mk, mr, mb⟩) TC hH ?_
      walk_at "rd"
      refine w_ite (fun c => ?_) (fun c => ?_)
      · cases (show mk = .down from c)
        walk_at "rd"
        exact w_makeMv k fun v G' H' s r => q v G' H' s r
      · walk_at "rd"
        refine w_isMv (m := ⟨mk, mr, mb⟩) TC hH ?_
        walk_at "rd"
        refine w_ite (fun c => ?_) (fun c => ?_)
        · cases (show mk = .put from c)
          walk_at "rd"
          exact w_makeMv k fun v G' H' s r => q v G' H' s r
        · have e : mk = .take := by
            cases mk
            · exact absurd rfl ‹¬ (K4.up = .up)›
            · exact absurd rfl ‹¬ (K4.down = .down)›
            · exact absurd rfl ‹¬ (K4.put = .put)›
            · rfl
          cases e
          walk_at "rd"
          exact w_makeMv k fun v G' H' s r => q v G' H' s r
end
end BF
namespace BF
open PySem PySem.Spec PyProof.Rows L2 TL HotX
local macro_rules | `(tactic| walk_at "rd") => `(tactic| repeat (first
  | with_reducible refine w_var rfl ?_ | with_reducible refine w_c ?_ | with_reducible refine w_seq ?_ | with_reducible refine w_op ?_
  | with_reducible refine w_asg ?_ | with_reducible refine w_name ?_ | with_reducible refine w_ret ?_ | with_reducible refine w_drop ?_ | with_reducible refine w_next ?_
  | with_reducible refine w_if ?_ | with_reducible refine w_test ?_ | with_reducible refine w_B ?_ | with_reducible refine w_bl ?_ | with_reducible refine w_not ?_
  | with_reducible refine w_and ?_ | with_reducible refine w_or ?_ | with_reducible refine w_nil ?_ | with_reducible refine w_cons ?_ | with_reducible refine w_cb ?_
  | with_reducible refine w_chain ?_ | with_reducible refine w_call ?_ | with_reducible refine w_un ?_ | with_reducible refine w_neg ?_
  | with_reducible refine w_andV ?_ | with_reducible refine w_orV ?_ | with_reducible refine w_notV ?_ | with_reducible refine w_iteT ?_ | with_reducible refine w_iteF ?_ | with_reducible refine w_ntT ?_ | with_reducible refine w_ntF ?_
  | with_reducible refine g_add ?_ | with_reducible refine g_sub ?_ | with_reducible refine g_cmp ?_ | with_reducible refine g_eqI ?_ | with_reducible refine g_neI ?_ | with_reducible refine g_eqS ?_ | with_reducible refine g_neS ?_
  | with_reducible refine w_min ?_ | with_reducible refine w_max ?_ | with_reducible refine w_isN ?_ | with_reducible refine w_notN ?_ | with_reducible refine w_notSg ?_ | with_reducible refine w_gcons ?_ | with_reducible refine w_gnil ?_ | with_reducible refine w_sl ?_ | with_reducible refine w_noP ?_ | with_reducible refine w_part ?_ | with_reducible refine w_int1 ?_ | with_reducible refine w_tup ?_ | with_reducible refine w_lst ?_ | with_reducible refine g_intB ?_ | with_reducible refine w_fld ?_ | with_reducible refine w_meth ?_ | with_reducible refine w_make ?_
  | with_reducible refine w_lc ?_ | with_reducible refine w_for ?_ | with_reducible refine w_iL ?_ | with_reducible refine w_iT ?_ | with_reducible refine w_iS ?_ | with_reducible refine w_iRev ?_ | with_reducible refine w_iEn ?_ | with_reducible refine w_iZip ?_ | with_reducible refine w_iR1 ?_
  | with_reducible refine w_bm ?_ | with_reducible refine w_bm0 ?_ | with_reducible refine w_M1 ?_ | with_reducible refine w_isStr ?_
  | dsimp only))
local macro_rules | `(tactic| walk_at "same") => `(tactic| first | exact Same.refl _ | assumption | exact Stp.g (by assumption) | (refine Same.trans (Stp.g (by assumption)) ?_; walk_at "same"))
local macro_rules | `(tactic| walk_at "k") => `(tactic| first | assumption | exact Stp.k (by assumption) | exact Acc.k (by assumption))
local macro_rules | `(tactic| walk_at "stp") => `(tactic| first | assumption | exact Stp.refl (by walk_at "k") | (refine Stp.trans (by assumption) ?_; walk_at "stp"))
local macro_rules | `(tactic| walk_at "up") => `(tactic| first | assumption | exact up (by assumption) (by walk_at "same"))
local macro_rules | `(tactic| walk_at "gh") => `(tactic| first | assumption | exact Stp.k (by assumption) | (refine Same.trans (Stp.g (by assumption)) ?_; walk_at "gh"))
local macro_rules | `(tactic| walk_at "at") => `(tactic| first | assumption | exact at_ (by assumption) (by walk_at "gh"))
local macro_rules | `(tactic| walk_at "L") => `(tactic| exact SqL.of (by walk_at "at"))
local macro_rules | `(tactic| walk_at "T") => `(tactic| exact SqT.of (by walk_at "at"))
local macro_rules | `(tactic| walk_at "o1") => `(tactic| first | with_reducible refine w_yes (by first | assumption | omega) ?_ | with_reducible refine w_no (by first | assumption | omega) ?_ | with_reducible refine w_yesN (by first | assumption | omega) ?_ | with_reducible refine w_noN (by first | assumption | omega) ?_)
local macro_rules | `(tactic| walk_at "o") => `(tactic| (walk_at "rd"; repeat (walk_at "o1"; walk_at "rd")))

section
variable {P : Program} {w : World} {K : PySem.W.Frag} {mg : Str → Option Value} {base : Heap} {A : Adr} {fI : Addr} {fd : FuncData}
def slT (i : Nat) (ws : List (Str × Option Mv)) : List Slip := ws.map fun q => ⟨i, q.1, q.2⟩
def spSlipsAt (A : Adr) : Sp := fun vs H Q _ => ∃ (G : Hp) (fr : List Lay) (ms : List Mv) (m : Mv) (i : Nat) (vf vr : V), vs = [vf, vr, .int i] ∧ Same G H ∧ RFrame G vf fr ∧ RRow A G vr ms ∧ ms[i]? = some m ∧ 1 ≤ m.beads ∧
  ∀ v' G' H', Stp G H G' H' → RLst (RSlip A) G' v' (slipsAt fr.length i m) → Q v' H'
theorem ok_slips_at (T : Bas K mg) (TC : Cla K mg A) (f_like : Cal P w K mg base CX0 "like" ["move", "rod", "beads"] 3 (spLike A))
    (D : Std K mg "slips_at" "slips_at" "slips_at" s_slips_at ["frame", "row", "at"]) : Cal P w K mg base CX0 "slips_at" ["frame", "row", "at"] 4 (spSlipsAt A) := by
  refine D.cal sc_slips_at (fun vs H Q E h => ?_) (fun f cdv A0 outer s H vs Q E hr h => ?_)
  · obtain ⟨G, fr, ms, m, i, vf, vr, rfl, _⟩ := h; rfl
  · obtain ⟨G, fr, ms, m, i, vf, vr, rfl, k, ⟨pf, xf, rfl, hf, rf⟩, ⟨pr, xr, rfl, hrr, rr⟩, em, hb1, q⟩ := h
    obtain ⟨_, ex, a, dx, rfl, ha⟩ := paired_at rr em
    have lf := paired_len rf
    refine ⟨_, (pss_cons (ps_set (i := 3) sc_slips_at.nd rfl (by first | exact Or.inl rfl | exact Or.inr rfl) (pe_ix ix_seq (pv 1) (pv 2) (fun _ _ => rfl)))
  (pss_cons (ps_set (i := 4) sc_slips_at.nd rfl (by first | exact Or.inl rfl | exact Or.inr rfl) (pe_lst pa_nil))
  (pss_cutS (ps_if (pt_cmpR op_gt (pe_fld (pv 3) rfl) pe_int (nomark _)) (pss_one (ps_expr (pe_bm PySem.F.plainAttrs_list PySem.F.slot_list_append PySem.F.type_list_append mt_append (pv 4) (pa_cons (pe_tup (pa_cons (pv 2) (pa_cons pe_str (pa_cons (pe_cal f_like hr (by decide) pass0 (pa_cons (pv 3) (pa_cons (pe_fld (pv 3) rfl) (pa_cons (pe_op op_sub (pe_fld (pv 3) rfl) pe_int) pa_nil)))) pa_nil)))) pa_nil)))) pss_nil)
  (pss_cutS (ps_if (pt_cmpR op_gt (pe_fld (pv 3) rfl) pe_int (nomark _)) (pss_one (ps_expr (pe_bm PySem.F.plainAttrs_list PySem.F.slot_list_append PySem.F.type_list_append mt_append (pv 4) (pa_cons (pe_tup (pa_cons (pv 2) (pa_cons pe_str (pa_cons (pe_cal f_like hr (by decide) pass0 (pa_cons (pv 3) (pa_cons (pe_op op_sub (pe_fld (pv 3) rfl) pe_int) (pa_cons (pe_fld (pv 3) rfl) pa_nil)))) pa_nil)))) pa_nil)))) pss_nil)
  (pss_cons (ps_expr (pe_bm PySem.F.plainAttrs_list PySem.F.slot_list_append PySem.F.type_list_append mt_append (pv 4) (pa_cons (pe_tup (pa_cons (pv 2) (pa_cons pe_str (pa_cons pe_non pa_nil)))) pa_nil)))
  (pss_cons (ps_expr (pe_bm PySem.F.plainAttrs_list PySem.F.slot_list_append PySem.F.type_list_append mt_append (pv 4) (pa_cons (pe_tup (pa_cons (pv 2) (pa_cons pe_str (pa_cons (pe_cal f_like hr (by decide) pass0 (pa_cons (pv 3) (pa_cons (pe_fld (pv 3) rfl) (pa_cons (pe_op opAdd (pe_fld (pv 3) rfl) pe_int) pa_nil)))) pa_nil)))) pa_nil)))
  (pss_cutS (ps_if (pt_cmpR op_lt (pe_op opAdd (pe_fld (pv 3) rfl) pe_int) (pe_callB callLen (by rfl) T.z_len PySem.boot_len (pa_cons (pv 0) pa_nil)) (nomark _)) (pss_one (ps_expr (pe_bm PySem.F.plainAttrs_list PySem.F.slot_list_append PySem.F.type_list_append mt_append (pv 4) (pa_cons (pe_tup (pa_cons (pv 2) (pa_cons pe_str (pa_cons (pe_cal f_like hr (by decide) pass0 (pa_cons (pv 3) (pa_cons (pe_op opAdd (pe_fld (pv 3) rfl) pe_int) (pa_cons (pe_fld (pv 3) rfl) pa_nil)))) pa_nil)))) pa_nil)))) pss_nil)
  (pss_one (ps_ret (pv 4)))))))))), ?_⟩
    walk_at "rd"
    refine w_ixL (by walk_at "L") ex ?_
    walk_at "rd"
    refine w_acc k fun DD H1 a1 => ?_
    have r1 : Paired (RSlip A G) [] (slT i []) := .nil
    refine w_cut (fun σ' H' => ∃ G' xs, Acc G H DD xs G' H' ∧ Paired (RSlip A G') xs (slT i (wayFewer m)) ∧ xs.length ≤ 10 ∧ σ' = [some (.ref pf), some (.ref pr), some (.int i), some (.ref a), some (.ref DD)]) ?_ ?_
    · walk_at "rd"
      refine w_beads (m := m) TC (a1.k _ _ ha) ?_
      walk_at "rd"
      refine w_ite (fun c => ?_) (fun c => ?_)
      · walk_at "rd"
        refine w_tyL a1.at_ ?_
        walk_at "rd"
        refine w_rod (m := m) TC (a1.k _ _ (ha)) ?_
        walk_at "rd"
        refine w_beads (m := m) TC (a1.k _ _ (ha)) ?_
        walk_at "rd"
        rw [show ((m.beads : Int) - 1) = ((m.beads - 1 : Nat) : Int) by omega]
        refine ⟨G, m, m.rod, (m.beads - 1), _, rfl, a1.k, ⟨a, dx, rfl, ha⟩, fun v2 Gx Hx sx rx => ?_⟩
        walk_at "rd"
        refine w_tupK sx.k rfl fun p3 Gy Hy sy hp3 _ => ?_
        walk_at "rd"
        refine w_app (a1.step (sx.trans sy)) (by first | omega | (simp; done) | (simp; omega)) fun a9 => ?_
        walk_at "rd"
        refine ⟨Gy, _, a9, ?_, by first | (simp; done) | (simp; omega), rfl⟩
        have pp := (paired_app (paired_up (sx.trans sy).g r1) (.cons ⟨p3, v2, rfl, hp3, up (R := RMv A) rx sy.g⟩ .nil) : Paired (RSlip A Gy) _ (slT i ([]) ++ [⟨i, "fewer", some (Mv.mk m.k m.rod (m.beads - 1))⟩]))
        rw [show wayFewer m = _ from if_pos (by omega)]
        exact pp
      · walk_at "rd"
        refine ⟨G, [], a1, ?_, by simp, rfl⟩
        rw [show wayFewer m = _ from if_neg (by omega)]
        exact .nil
    rintro _ H2 ⟨G2, xs2, a2, r2, l2, rfl⟩
    clear a1 r1
    refine w_cut (fun σ' H' => ∃ G' xs, Acc G H DD xs G' H' ∧ Paired (RSlip A G') xs (slT i (wayFewer m ++ wayLast m)) ∧ xs.length ≤ 11 ∧ σ' = [some (.ref pf), some (.ref pr), some (.int i), some (.ref a), some (.ref DD)]) ?_ ?_
    · walk_at "rd"
      refine w_rod (m := m) TC (a2.k _ _ (a2.g _ _ ha)) ?_
      walk_at "rd"
      refine w_ite (fun c => ?_) (fun c => ?_)
      · walk_at "rd"
        refine w_tyL a2.at_ ?_
        walk_at "rd"
        refine w_rod (m := m) TC (a2.k _ _ (a2.g _ _ ha)) ?_
        walk_at "rd"
        rw [show ((m.rod : Int) - 1) = ((m.rod - 1 : Nat) : Int) by omega]
        walk_at "rd"
        refine w_beads (m := m) TC (a2.k _ _ (a2.g _ _ ha)) ?_
        walk_at "rd"
        refine ⟨G2, m, (m.rod - 1), m.beads, _, rfl, a2.k, ⟨a, dx, rfl, a2.g _ _ ha⟩, fun v2 Gx Hx sx rx => ?_⟩
        walk_at "rd"
        refine w_tupK sx.k rfl fun p3 Gy Hy sy hp3 _ => ?_
        walk_at "rd"
        refine w_app (a2.step (sx.trans sy)) (by first | omega | (simp; done) | (simp; omega)) fun a9 => ?_
        walk_at "rd"
        refine ⟨Gy, _, a9, ?_, by first | (simp; done) | (simp; omega), rfl⟩
        have pp := (paired_app (paired_up (sx.trans sy).g r2) (.cons ⟨p3, v2, rfl, hp3, up (R := RMv A) rx sy.g⟩ .nil) : Paired (RSlip A Gy) _ (slT i (wayFewer m) ++ [⟨i, "last", some (Mv.mk m.k (m.rod - 1) m.beads)⟩]))
        rw [show wayLast m = _ from if_pos (by omega)]
        unfold slT at pp ⊢
        rw [List.map_append]
        exact pp
      · walk_at "rd"
        refine ⟨G2, xs2, a2, ?_, by omega, rfl⟩
        rw [show wayLast m = _ from if_neg (by omega), List.append_nil]
        exact r2
    rintro _ H3 ⟨G3, xs3, a3, r3, l3, rfl⟩
    clear a2 r2 l2
    walk_at "rd"
    refine w_tyL a3.at_ ?_
    walk_at "rd"
    refine w_tupK a3.k rfl fun p3 Gy Hy sy hp3 _ => ?_
    walk_at "rd"
    refine w_app (a3.step sy) (by first | omega | (simp; done) | (simp; omega)) fun a9 => ?_
    walk_at "rd"
    have r4 := (paired_app (paired_up sy.g r3) (.cons ⟨p3, .non, rfl, hp3, rfl⟩ .nil) : Paired (RSlip A Gy) _ (slT i (wayFewer m ++ wayLast m) ++ [⟨i, "left", none⟩]))
    have a4 := a9
    clear a9
    refine w_tyL a4.at_ ?_
    walk_at "rd"
    refine w_rod (m := m) TC (a4.k _ _ (a4.g _ _ ha)) ?_
    walk_at "rd"
    refine w_beads (m := m) TC (a4.k _ _ (a4.g _ _ ha)) ?_
    walk_at "rd"
    rw [show ((m.beads : Int) + 1) = ((m.beads + 1 : Nat) : Int) by omega]
    refine ⟨Gy, m, m.rod, (m.beads + 1), _, rfl, a4.k, ⟨a, dx, rfl, a4.g _ _ ha⟩, fun v2 Gx Hx sx rx => ?_⟩
    walk_at "rd"
    refine w_tupK sx.k rfl fun p5 G5 H5 s5 hp5 _ => ?_
    walk_at "rd"
    refine w_app (a4.step (sx.trans s5)) (by first | omega | (simp; done) | (simp; omega)) fun a9 => ?_
    walk_at "rd"
    have r5 := (paired_app (paired_up (sx.trans s5).g r4) (.cons ⟨p5, v2, rfl, hp5, up (R := RMv A) rx s5.g⟩ .nil) : Paired (RSlip A G5) _ (slT i (wayFewer m ++ wayLast m) ++ [⟨i, "left", none⟩] ++ [⟨i, "more", some (Mv.mk m.k m.rod (m.beads + 1))⟩]))
    have a5 := a9
    have l5 : (xs3 ++ [V.ref p3] ++ [V.ref p5]).length ≤ 22 := by simp; omega
    clear a9 a4 r4 a3 r3
    refine w_cut (fun σ' H' => ∃ G' xs, Acc G H DD xs G' H' ∧ Paired (RSlip A G') xs (slipsAt fr.length i m) ∧ σ' = [some (.ref pf), some (.ref pr), some (.int i), some (.ref a), some (.ref DD)]) ?_ ?_
    · walk_at "rd"
      refine w_rod (m := m) TC (a5.k _ _ (a5.g _ _ ha)) ?_
      walk_at "rd"
      refine w_lenL (SqL.of (a5.k _ _ (a5.g _ _ hf))) ?_
      walk_at "rd"
      refine w_ite (fun c => ?_) (fun c => ?_)
      · walk_at "rd"
        refine w_tyL a5.at_ ?_
        walk_at "rd"
        refine w_rod (m := m) TC (a5.k _ _ (a5.g _ _ ha)) ?_
        walk_at "rd"
        rw [show ((m.rod : Int) + 1) = ((m.rod + 1 : Nat) : Int) by omega]
        walk_at "rd"
        refine w_beads (m := m) TC (a5.k _ _ (a5.g _ _ ha)) ?_
        walk_at "rd"
        refine ⟨G5, m, (m.rod + 1), m.beads, _, rfl, a5.k, ⟨a, dx, rfl, a5.g _ _ ha⟩, fun v6 Gw Hw sw rw' => ?_⟩
        walk_at "rd"
        refine w_tupK sw.k rfl fun p6 G6 H6 s6 hp6 _ => ?_
        walk_at "rd"
        refine w_app (a5.step (sw.trans s6)) (by first | omega | (simp; done) | (simp; omega)) fun a9 => ?_
        walk_at "rd"
        refine ⟨G6, _, a9, ?_, rfl⟩
        have pp := paired_app (paired_up (sw.trans s6).g r5) (.cons (show RSlip A G6 (.ref p6) ⟨i, "next", some (Mv.mk m.k (m.rod + 1) m.beads)⟩ from ⟨p6, v6, rfl, hp6, up (R := RMv A) rw' s6.g⟩) .nil)
        unfold slipsAt ways
        rw [show wayNext fr.length m = _ from if_pos (by omega)]
        unfold slT at pp
        simp only [List.map_append, List.map_cons, List.map_nil] at pp ⊢
        exact pp
      · walk_at "rd"
        refine ⟨G5, _, a5, ?_, rfl⟩
        have pp := r5
        unfold slipsAt ways
        rw [show wayNext fr.length m = _ from if_neg (by omega), List.append_nil]
        unfold slT at pp
        simp only [List.map_append, List.map_cons, List.map_nil] at pp ⊢
        exact pp
    · rintro _ H7 ⟨G7, xs7, a7, r7, rfl⟩
      walk_at "rd"
      exact q _ _ _ a7.done (a7.lst r7)
end
end BF
namespace BF
open PySem PySem.Spec PyProof.Rows L2 TL HotX
local macro_rules | `(tactic| walk_at "rd") => `(tactic| repeat (first
  | with_reducible refine w_var rfl ?_ | with_reducible refine w_c ?_ | with_reducible refine w_seq ?_ | with_reducible refine w_op ?_
  | with_reducible refine w_asg ?_ | with_reducible refine w_name ?_ | with_reducible refine w_ret ?_ | with_reducible refine w_drop ?_ | with_reducible refine w_next ?_
  | with_reducible refine w_if ?_ | with_reducible refine w_test ?_ | with_reducible refine w_B ?_ | with_reducible refine w_bl ?_ | with_reducible refine w_not ?_
  | with_reducible refine w_and ?_ | with_reducible refine w_or ?_ | with_reducible refine w_nil ?_ | with_reducible refine w_cons ?_ | with_reducible refine w_cb ?_
  | with_reducible refine w_chain ?_ | with_reducible refine w_call ?_ | with_reducible refine w_un ?_ | with_reducible refine w_neg ?_
  | with_reducible refine w_andV ?_ | with_reducible refine w_orV ?_ | with_reducible refine w_notV ?_ | with_reducible refine w_iteT ?_ | with_reducible refine w_iteF ?_ | with_reducible refine w_ntT ?_ | with_reducible refine w_ntF ?_
  | with_reducible refine g_add ?_ | with_reducible refine g_sub ?_ | with_reducible refine g_cmp ?_ | with_reducible refine g_eqI ?_ | with_reducible refine g_neI ?_ | with_reducible refine g_eqS ?_ | with_reducible refine g_neS ?_
  | with_reducible refine w_min ?_ | with_reducible refine w_max ?_ | with_reducible refine w_isN ?_ | with_reducible refine w_notN ?_ | with_reducible refine w_notSg ?_ | with_reducible refine w_gcons ?_ | with_reducible refine w_gnil ?_ | with_reducible refine w_sl ?_ | with_reducible refine w_noP ?_ | with_reducible refine w_part ?_ | with_reducible refine w_int1 ?_ | with_reducible refine w_tup ?_ | with_reducible refine w_lst ?_ | with_reducible refine g_intB ?_ | with_reducible refine w_fld ?_ | with_reducible refine w_meth ?_ | with_reducible refine w_make ?_
  | with_reducible refine w_lc ?_ | with_reducible refine w_for ?_ | with_reducible refine w_iL ?_ | with_reducible refine w_iT ?_ | with_reducible refine w_iS ?_ | with_reducible refine w_iRev ?_ | with_reducible refine w_iEn ?_ | with_reducible refine w_iZip ?_ | with_reducible refine w_iR1 ?_
  | with_reducible refine w_bm ?_ | with_reducible refine w_bm0 ?_ | with_reducible refine w_M1 ?_ | with_reducible refine w_isStr ?_
  | dsimp only))
local macro_rules | `(tactic| walk_at "same") => `(tactic| first | exact Same.refl _ | assumption | exact Stp.g (by assumption) | (refine Same.trans (Stp.g (by assumption)) ?_; walk_at "same"))
local macro_rules | `(tactic| walk_at "k") => `(tactic| first | assumption | exact Stp.k (by assumption) | exact Acc.k (by assumption))
local macro_rules | `(tactic| walk_at "stp") => `(tactic| first | assumption | exact Stp.refl (by walk_at "k") | (refine Stp.trans (by assumption) ?_; walk_at "stp"))
local macro_rules | `(tactic| walk_at "up") => `(tactic| first | assumption | exact up (by assumption) (by walk_at "same"))
local macro_rules | `(tactic| walk_at "gh") => `(tactic| first | assumption | exact Stp.k (by assumption) | (refine Same.trans (Stp.g (by assumption)) ?_; walk_at "gh"))
local macro_rules | `(tactic| walk_at "at") => `(tactic| first | assumption | exact at_ (by assumption) (by walk_at "gh"))
local macro_rules | `(tactic| walk_at "L") => `(tactic| exact SqL.of (by walk_at "at"))
local macro_rules | `(tactic| walk_at "T") => `(tactic| exact SqT.of (by walk_at "at"))
local macro_rules | `(tactic| walk_at "o1") => `(tactic| first | with_reducible refine w_yes (by first | assumption | omega) ?_ | with_reducible refine w_no (by first | assumption | omega) ?_ | with_reducible refine w_yesN (by first | assumption | omega) ?_ | with_reducible refine w_noN (by first | assumption | omega) ?_)
local macro_rules | `(tactic| walk_at "o") => `(tactic| (walk_at "rd"; repeat (walk_at "o1"; walk_at "rd")))

theorem w_calS {sp : Sp} {E : L2.St → XK} {t : TA} {σ : L2.St} {H : Hp} {Q : VK} (h : t σ H fun vs H1 => sp vs H1 Q (E σ)) : tCallS sp E t σ H Q := h
theorem slipsAt_len (n i : Nat) (m : Mv) : (slipsAt n i m).length ≤ 5 := by
  unfold slipsAt ways wayFewer wayLast wayNext
  rw [List.length_map]
  split <;> split <;> split <;> simp
section
variable {P : Program} {w : World} {K : PySem.W.Frag} {mg : Str → Option Value} {base : Heap} {A : Adr} {fI : Addr} {fd : FuncData}
def spWithSlip (A : Adr) : Sp := fun vs H Q _ => ∃ (G : Hp) (ms : List Mv) (s : Slip) (vr vs_ : V), vs = [vr, vs_] ∧ Same G H ∧ RRow A G vr ms ∧ RSlip A G vs_ s ∧ s.at_ < ms.length ∧ ms.length ≤ 100 ∧ ∀ v' G' H', Stp G H G' H' → RRow A G' v' (s.row ms) → Q v' H'
theorem ok_with_slip (T : Bas K mg) (D : Std K mg "with_slip" "with_slip" "with_slip" s_with_slip ["row", "slip"]) : Cal P w K mg base CX0 "with_slip" ["row", "slip"] 1 (spWithSlip A) := by
  refine D.cal sc_with_slip (fun vs H Q E h => ?_) (fun f cdv A0 outer s H vs Q E hr h => ?_)
  · obtain ⟨G, ms, s, vr, vs_, rfl, _⟩ := h; rfl
  · obtain ⟨G, ms, ⟨at_, word, mv⟩, vr, vs_, rfl, k, ⟨pr, xr, rfl, hrr, rr⟩, ⟨p, x, rfl, hp, ro⟩, hat, hl, q⟩ := h
    have lx := paired_len rr
    have hat : at_ < ms.length := hat
    refine ⟨_, (pss_cons (ps_asg (pv 1) (pg_tup rfl (pgs_cons (pg_name (i := 2) sc_with_slip.nd rfl (by first | exact Or.inl rfl | exact Or.inr rfl)) (pgs_cons (pg_name (i := 3) sc_with_slip.nd rfl (by first | exact Or.inl rfl | exact Or.inr rfl)) (pgs_cons (pg_name (i := 4) sc_with_slip.nd rfl (by first | exact Or.inl rfl | exact Or.inr rfl)) pgs_nil)))))
  (pss_cons (ps_if (pt_cmpR opIs (pv 4) pe_non (nomark _)) (pss_one (ps_ret (pe_op opAdd (pe_slice sl_list (pv 0) po_none (po_some (pv 2))) (pe_slice sl_list (pv 0) (po_some (pe_op opAdd (pv 2) pe_int)) po_none)))) pss_nil)
  (pss_one (ps_ret (pe_op opAdd (pe_op opAdd (pe_slice sl_list (pv 0) po_none (po_some (pv 2))) (pe_lst (pa_cons (pv 4) pa_nil))) (pe_slice sl_list (pv 0) (po_some (pe_op opAdd (pv 2) pe_int)) po_none)))))), ?_⟩
    walk_at "rd"
    refine w_gtup (by walk_at "T") rfl ?_
    walk_at "rd"
    refine w_ite (fun c => ?_) (fun c => ?_)
    · walk_at "rd"
      refine w_slTake (by walk_at "k") (by walk_at "L") (by omega) fun p5 G5 H5 s5 hp5 _ => ?_
      walk_at "rd"
      refine w_slDrop (i := at_ + 1) (by walk_at "k") (by walk_at "L") (by omega) fun p9 G9 H9 s9 hp9 _ => ?_
      walk_at "rd"
      refine w_cat (by walk_at "k") (by walk_at "at") (by walk_at "at") (by simp; omega) fun p10 G10 H10 s10 hp10 _ => ?_
      have em : mv = none := by
        cases mv with
        | none => rfl
        | some m =>
          obtain ⟨a, dx, e, _⟩ := (show RMv A G x m from ro)
          rw [e] at c
          cases c
      subst em
      refine q _ G10 H10 (by walk_at "stp") ⟨_, _, rfl, hp10, ?_⟩
      have r1 : Paired (RMv A G10) xr ms := paired_up (by walk_at "same") rr
      show Paired (RMv A G10) _ (ms.take at_ ++ [] ++ ms.drop (at_ + 1))
      rw [List.append_nil]
      exact paired_app (paired_take _ r1) (paired_drop _ r1)
    · walk_at "rd"
      cases mv with
      | none => exact absurd (show x = .non from ro) c
      | some m =>
        have rm : RMv A G x m := ro
        refine w_slTake (by walk_at "k") (by walk_at "L") (by omega) fun p5 G5 H5 s5 hp5 _ => ?_
        walk_at "rd"
        refine w_lstK (by walk_at "k") rfl fun p7 G7 H7 s7 hp7 _ => ?_
        walk_at "rd"
        refine w_cat (by walk_at "k") (by walk_at "at") (by walk_at "at") (by simp; omega) fun p8 G8 H8 s8 hp8 _ => ?_
        walk_at "rd"
        refine w_slDrop (i := at_ + 1) (by walk_at "k") (by walk_at "L") (by omega) fun p9 G9 H9 s9 hp9 _ => ?_
        walk_at "rd"
        refine w_cat (by walk_at "k") (by walk_at "at") (by walk_at "at") (by simp; omega) fun p10 G10 H10 s10 hp10 _ => ?_
        refine q _ G10 H10 (by walk_at "stp") ⟨_, _, rfl, hp10, ?_⟩
        have r1 : Paired (RMv A G10) xr ms := paired_up (by walk_at "same") rr
        have r2 : RMv A G10 x m := up rm (by walk_at "same")
        exact paired_app (paired_app (paired_take _ r1) (.cons r2 .nil)) (paired_drop _ r1)
def spLeads (A : Adr) : Sp := fun vs H Q _ => ∃ (G : Hp) (fr : List Lay) (st : List Rod) (ms : List Mv) (other : List Rod) (vf vst vr vo : V), vs = [vf, vst, vr, vo] ∧ Same G H ∧ RFrame G vf fr ∧ RStd G vst st ∧ RRow A G vr ms ∧ RStd G vo other ∧ st.length = fr.length ∧ fr.length ≤ 100 ∧
  ∀ G' H', Stp G H G' H' → Q (.bl (decide (allM fr st ms = some other))) H'
theorem ok_leads_to (T : Bas K mg) (U : Stk K mg A fI fd) (f_done_all : Cal P w K mg base (L2.CX P w) "done_all" ["frame", "standing", "row"] 4 (spDoneAll A))
    (D : Std K mg "leads_to" "leads_to" "leads_to" s_leads_to ["frame", "standing", "row", "other"]) : Cal P w K mg base CX0 "leads_to" ["frame", "standing", "row", "other"] 5 (spLeads A) := by
  refine D.cal sc_leads_to (fun vs H Q E h => ?_) (fun f cdv A0 outer s H vs Q E hr h => ?_)
  · obtain ⟨G, fr, st, ms, other, vf, vst, vr, vo, rfl, _⟩ := h; rfl
  · obtain ⟨G, fr, st, ms, other, vf, vst, vr, vo, rfl, k, hf, hs, hrr, ho, hl, hz, q⟩ := h
    refine ⟨_, (pss_cons (ps_try_only rfl rfl ⟨rfl, by decide, .inl U.g⟩ takes_no
   (fun W pn xe tkb _ => (pss_one (ps_set (i := 4) sc_leads_to.nd rfl (by first | exact Or.inl rfl | exact Or.inr rfl) (pe_calS (E := WE W) f_done_all hr (by decide) (L2.passAt tkb) (pa_cons (pv 0) (pa_cons (pv 1) (pa_cons (pv 2) pa_nil)))))))
   (fun a oe cls d pn hz hf => pss_one (ps_ret pe_bl)))
  (pss_one (ps_ret (pe_cmpR (opEq hr) (pv 4) (pv 3) (nomark _))))), ?_⟩
    walk_at "rd"
    refine w_calS ?_
    walk_at "rd"
    refine ⟨G, fr, st, ms, _, _, _, rfl, k, hf, hs, hrr, hl, hz, ?_, ?_⟩
    · intro s' es v' G' H' s1 r1
      walk_at "rd"
      refine g_eqStd s1.k r1 (up (R := RStd) ho s1.g) ?_
      have e : decide (s' = other) = decide (allM fr st ms = some other) := by
        rw [es]
        simp
      rw [e]
      exact q _ _ s1
    · intro en d H' s1
      refine ⟨true, U.exm, fun _ a2 ha2 => ?_, fun e => by cases e⟩
      walk_at "rd"
      have e : decide (allM fr st ms = some other) = false := by
        rw [en]
        simp
      rw [e] at q
      exact q _ _ (stp_h k s1)
theorem filter_len {α : Type} (p : α → Bool) (l : List α) : (l.filter p).length ≤ l.length := List.length_filter_le p l
def spSlipsOf (A : Adr) : Sp := fun vs H Q _ => ∃ (G : Hp) (fr : List Lay) (st : List Rod) (ms : List Mv) (other : List Rod) (vf vst vr vo : V), vs = [vf, vst, vr, vo] ∧ Same G H ∧ RFrame G vf fr ∧ RStd G vst st ∧ RRow A G vr ms ∧ RStd G vo other ∧ st.length = fr.length ∧ fr.length ≤ 100 ∧ ms.length ≤ 100 ∧ (∀ m ∈ ms, 1 ≤ m.beads) ∧
  ∀ v' G' H', Stp G H G' H' → RLst (RSlip A) G' v' (slipsTo fr st ms other) → Q v' H'
theorem ok_slips_of (T : Bas K mg) (f_slips_at : Cal P w K mg base CX0 "slips_at" ["frame", "row", "at"] 4 (spSlipsAt A)) (f_with_slip : Cal P w K mg base CX0 "with_slip" ["row", "slip"] 1 (spWithSlip A))
    (f_leads_to : Cal P w K mg base CX0 "leads_to" ["frame", "standing", "row", "other"] 5 (spLeads A)) (D : Std K mg "slips_of" "slips_of" "slips_of" s_slips_of ["frame", "standing", "row", "other"]) :
    Cal P w K mg base CX0 "slips_of" ["frame", "standing", "row", "other"] 6 (spSlipsOf A) := by
  refine D.cal sc_slips_of (fun vs H Q E h => ?_) (fun f cdv A0 outer s H vs Q E hr h => ?_)
  · obtain ⟨G, fr, st, ms, other, vf, vst, vr, vo, rfl, _⟩ := h; rfl
  · obtain ⟨G, fr, st, ms, other, vf, vst, vr, vo, rfl, k, hf, hs, hrr, ho, hl, hz, hms, hb, q⟩ := h
    obtain ⟨pr, xr, rfl, hrr, rr⟩ := hrr
    have lx := paired_len rr
    refine ⟨_, (pss_cons (ps_set (i := 4) sc_slips_of.nd rfl (by first | exact Or.inl rfl | exact Or.inr rfl) (pe_lst pa_nil))
  (pss_cons (ps_for PassesOwn.never rfl (pi_range1 (by rfl) T.z_range (pa_cons (pe_callB callLen (by rfl) T.z_len PySem.boot_len (pa_cons (pv 2) pa_nil)) pa_nil)) (pg_name (i := 5) sc_slips_of.nd rfl (by first | exact Or.inl rfl | exact Or.inr rfl))
  (pss_one (ps_for PassesOwn.never rfl (pi_list (pe_cal f_slips_at hr (by decide) pass0 (pa_cons (pv 0) (pa_cons (pv 2) (pa_cons (pv 5) pa_nil))))) (pg_name (i := 6) sc_slips_of.nd rfl (by first | exact Or.inl rfl | exact Or.inr rfl))
  (pss_one (ps_if (pt_val (pe_cal f_leads_to hr (by decide) pass0 (pa_cons (pv 0) (pa_cons (pv 1) (pa_cons (pe_cal f_with_slip hr (by decide) pass0 (pa_cons (pv 2) (pa_cons (pv 6) pa_nil))) (pa_cons (pv 3) pa_nil)))))) (pss_one (ps_expr (pe_bm PySem.F.plainAttrs_list PySem.F.slot_list_append PySem.F.type_list_append mt_append (pv 4) (pa_cons (pv 6) pa_nil)))) pss_nil)))))
  (pss_one (ps_ret (pv 4))))), ?_⟩
    walk_at "rd"
    refine w_acc k fun DD H1 a1 => ?_
    walk_at "rd"
    refine w_lenL (SqL.of (a1.k _ _ hrr)) ?_
    refine ⟨_, rfl, by omega, by omega, ?_⟩
    refine for_go (walk_range (lo := 0) (n := ((xr.length : Nat) : Int).toNat)) (fun i σ H' => ∃ (G' : Hp) (xs : List V) (told : List Slip) (o5 o6 : Option V), Acc G H DD xs G' H' ∧ Paired (RSlip A G') xs told ∧ told.length ≤ 5 * i ∧ slipsTo fr st ms other = told ++ (slipsFrom fr.length i (ms.drop i)).filter (fun s => decide (allM fr st (s.row ms) = some other)) ∧
      σ = [some vf, some vst, some (.ref pr), some vo, some (.ref DD), o5, o6]) ?_ (fun _ _ _ _ _ => True.intro) ?_ ?_
    · exact ⟨G, [], [], none, none, a1, .nil, by simp, rfl, rfl⟩
    · rintro i x σ H2 H2' hi ⟨G2, xs, told, o5, o6, a2, r2, l2, e2, rfl⟩ ⟨rfl, rfl⟩
      have hi' : i < ms.length := by omega
      have hdrop : ms.drop i = ms[i] :: ms.drop (i + 1) := List.drop_eq_getElem_cons hi'
      walk_at "rd"
      refine ⟨G2, fr, ms, ms[i], i, _, _, ?_, a2.k, up (R := RFrame) hf a2.g, ⟨pr, xr, rfl, a2.g _ _ hrr, paired_up a2.g rr⟩, List.getElem?_eq_getElem hi', hb _ (List.getElem_mem hi'), ?_⟩
      · show [_, _, V.int (0 + (i : Int))] ++ [] = _
        rw [Int.zero_add]
        rfl
      · rintro v3 G3 H3 s3 ⟨p3, x3, rfl, h3, r3⟩
        have a3 := a2.step s3
        refine ⟨p3, rfl, ⟨_, SqL.of (a3.k _ _ h3)⟩, ?_⟩
        have l3 := paired_len r3
        have l5 := slipsAt_len fr.length i ms[i]
        refine for_go (walk_list (xs := x3)) (fun j σ H' => ∃ (G' : Hp) (xs : List V) (told' : List Slip) (o5 o6 : Option V), Acc G H DD xs G' H' ∧ Same G3 G' ∧ Paired (RSlip A G') xs told' ∧ told'.length ≤ 5 * i + j ∧
          told' = told ++ ((slipsAt fr.length i ms[i]).take j).filter (fun s => decide (allM fr st (s.row ms) = some other)) ∧ σ = [some vf, some vst, some (.ref pr), some vo, some (.ref DD), o5, o6]) ?_ ?_ ?_ ?_
        · exact ⟨G3, xs, told, _, _, a3, Same.refl _, paired_up s3.g r2, by omega, by simp, rfl⟩
        · rintro j σ H' _ ⟨G', xs', told', o5', o6', a', g', _⟩
          exact SqL.of (a'.k _ _ (g' _ _ h3))
        · rintro j x σ H4 H4' hj ⟨G4, xs4, told4, o5', o6', a4, g4, r4, l4, e4, rfl⟩ ⟨rfl, hx⟩
          obtain ⟨sl, es, rs⟩ := paired_get (paired_up g4 r3) hx
          have hsl : sl.at_ = i := by
            have hm : sl ∈ slipsAt fr.length i ms[i] := List.mem_of_getElem? es
            unfold slipsAt at hm
            obtain ⟨q0, _, rfl⟩ := List.mem_map.mp hm
            rfl
          have htk : (slipsAt fr.length i ms[i]).take (j + 1) = (slipsAt fr.length i ms[i]).take j ++ [sl] := by
            rw [List.take_succ, es]
            rfl
          walk_at "rd"
          refine ⟨G4, ms, sl, _, _, rfl, a4.k, ⟨pr, xr, rfl, (a2.g.trans (s3.g.trans g4)) _ _ hrr, paired_up (a2.g.trans (s3.g.trans g4)) rr⟩, rs, by omega, hms, ?_⟩
          intro v5 G5 H5 s5 r5
          have gg : Same G G5 := a2.g.trans (s3.g.trans (g4.trans s5.g))
          walk_at "rd"
          refine ⟨G5, fr, st, sl.row ms, other, _, _, _, _, rfl, s5.k, up (R := RFrame) hf gg, up (R := RStd) hs gg, r5, up (R := RStd) ho gg, hl, hz, ?_⟩
          intro G6 H6 s6
          have a6 := (a4.step s5).step s6
          have s56 := s5.trans s6
          refine w_bl ?_
          walk_at "rd"
          refine w_ite (fun c => ?_) (fun c => ?_)
          · walk_at "rd"
            refine w_tyL a6.at_ ?_
            walk_at "rd"
            have ll := paired_len r4
            refine w_app a6 (by omega) fun a7 => ?_
            walk_at "rd"
            refine ⟨G6, _, told4 ++ [sl], _, _, a7, g4.trans s56.g, paired_app (paired_up s56.g r4) (.cons (up (R := RSlip A) rs s56.g) .nil), by simp; omega, ?_, rfl⟩
            rw [htk, List.filter_append, e4, List.append_assoc, List.filter_cons_of_pos (by simpa using c)]
            rfl
          · walk_at "rd"
            refine ⟨G6, xs4, told4, _, _, a6, g4.trans s56.g, paired_up s56.g r4, by omega, ?_, rfl⟩
            rw [htk, List.filter_append, e4, List.filter_cons_of_neg (by simpa using c)]
            simp
        · rintro σ H' ⟨G4, xs4, told4, o5', o6', a4, g4, r4, l4, e4, rfl⟩
          refine ⟨G4, xs4, told4, _, _, a4, r4, by omega, ?_, rfl⟩
          have ht : (slipsAt fr.length i ms[i]).take x3.length = slipsAt fr.length i ms[i] := List.take_of_length_le (by omega)
          rw [ht] at e4
          rw [e2, hdrop, e4]
          show told ++ List.filter _ (slipsAt fr.length i ms[i] ++ slipsFrom fr.length (i + 1) (ms.drop (i + 1))) = _
          rw [List.filter_append, List.append_assoc]
    · rintro σ H' ⟨G2, xs, told, o5, o6, a2, r2, l2, e2, rfl⟩
      walk_at "rd"
      have hd : ms.drop ((xr.length : Nat) : Int).toNat = [] := by
        rw [List.drop_eq_nil_iff]
        omega
      rw [hd] at e2
      have e3 : slipsTo fr st ms other = told := by
        rw [e2]
        show told ++ [] = told
        rw [List.append_nil]
      refine q _ _ _ a2.done ?_
      rw [e3]
      exact a2.lst r2
end
end BF
namespace BF
open PySem PySem.Spec PyProof.Rows L2 TL HotX
local macro_rules | `(tactic| walk_at "rd") => `(tactic| repeat (first
  | with_reducible refine w_var rfl ?_ | with_reducible refine w_c ?_ | with_reducible refine w_seq ?_ | with_reducible refine w_op ?_
  | with_reducible refine w_asg ?_ | with_reducible refine w_name ?_ | with_reducible refine w_ret ?_ | with_reducible refine w_drop ?_ | with_reducible refine w_next ?_
  | with_reducible refine w_if ?_ | with_reducible refine w_test ?_ | with_reducible refine w_B ?_ | with_reducible refine w_bl ?_ | with_reducible refine w_not ?_
  | with_reducible refine w_and ?_ | with_reducible refine w_or ?_ | with_reducible refine w_nil ?_ | with_reducible refine w_cons ?_ | with_reducible refine w_cb ?_
  | with_reducible refine w_chain ?_ | with_reducible refine w_call ?_ | with_reducible refine w_un ?_ | with_reducible refine w_neg ?_
  | with_reducible refine w_andV ?_ | with_reducible refine w_orV ?_ | with_reducible refine w_notV ?_ | with_reducible refine w_iteT ?_ | with_reducible refine w_iteF ?_ | with_reducible refine w_ntT ?_ | with_reducible refine w_ntF ?_
  | with_reducible refine g_add ?_ | with_reducible refine g_sub ?_ | with_reducible refine g_cmp ?_ | with_reducible refine g_eqI ?_ | with_reducible refine g_neI ?_ | with_reducible refine g_eqS ?_ | with_reducible refine g_neS ?_
  | with_reducible refine w_min ?_ | with_reducible refine w_max ?_ | with_reducible refine w_isN ?_ | with_reducible refine w_notN ?_ | with_reducible refine w_notSg ?_ | with_reducible refine w_gcons ?_ | with_reducible refine w_gnil ?_ | with_reducible refine w_sl ?_ | with_reducible refine w_noP ?_ | with_reducible refine w_part ?_ | with_reducible refine w_int1 ?_ | with_reducible refine w_tup ?_ | with_reducible refine w_lst ?_ | with_reducible refine g_intB ?_ | with_reducible refine w_fld ?_ | with_reducible refine w_meth ?_ | with_reducible refine w_make ?_
  | with_reducible refine w_lc ?_ | with_reducible refine w_for ?_ | with_reducible refine w_iL ?_ | with_reducible refine w_iT ?_ | with_reducible refine w_iS ?_ | with_reducible refine w_iRev ?_ | with_reducible refine w_iEn ?_ | with_reducible refine w_iZip ?_ | with_reducible refine w_iR1 ?_
  | with_reducible refine w_bm ?_ | with_reducible refine w_bm0 ?_ | with_reducible refine w_M1 ?_ | with_reducible refine w_isStr ?_
  | dsimp only))
local macro_rules | `(tactic| walk_at "same") => `(tactic| first | exact Same.refl _ | assumption | exact Stp.g (by assumption) | (refine Same.trans (Stp.g (by assumption)) ?_; walk_at "same"))
local macro_rules | `(tactic| walk_at "k") => `(tactic| first | assumption | exact Stp.k (by assumption) | exact Acc.k (by assumption))
local macro_rules | `(tactic| walk_at "stp") => `(tactic| first | assumption | exact Stp.refl (by walk_at "k") | (refine Stp.trans (by assumption) ?_; walk_at "stp"))
local macro_rules | `(tactic| walk_at "up") => `(tactic| first | assumption | exact up (by assumption) (by walk_at "same"))
local macro_rules | `(tactic| walk_at "gh") => `(tactic| first | assumption | exact Stp.k (by assumption) | (refine Same.trans (Stp.g (by assumption)) ?_; walk_at "gh"))
local macro_rules | `(tactic| walk_at "at") => `(tactic| first | assumption | exact at_ (by assumption) (by walk_at "gh"))
local macro_rules | `(tactic| walk_at "L") => `(tactic| exact SqL.of (by walk_at "at"))
local macro_rules | `(tactic| walk_at "T") => `(tactic| exact SqT.of (by walk_at "at"))
local macro_rules | `(tactic| walk_at "o1") => `(tactic| first | with_reducible refine w_yes (by first | assumption | omega) ?_ | with_reducible refine w_no (by first | assumption | omega) ?_ | with_reducible refine w_yesN (by first | assumption | omega) ?_ | with_reducible refine w_noN (by first | assumption | omega) ?_)
local macro_rules | `(tactic| walk_at "o") => `(tactic| (walk_at "rd"; repeat (walk_at "o1"; walk_at "rd")))

theorem empty_app (x : Str) : Str.empty ++ x = x := ext_tl (by rw [tl_append]; rfl)
section
variable {P : Program} {w : World} {K : PySem.W.Frag} {mg : Str → Option Value} {base : Heap} {A : Adr} {fI : Addr} {fd : FuncData}
theorem ok_small_number_moves (T : Bas K mg) (D : Std K mg "small_number_moves" "small_number" "small_number" s_small_number_moves ["word"]) : Cal P w K mg base CX0 "small_number_moves" ["word"] 1 spSmallL := by
  refine D.cal sc_small_number_moves (fun vs H Q E h => ?_) (fun f cdv A outer s H vs Q E hr h => ?_)
  · obtain ⟨n, rfl, _⟩ := h; rfl
  · obtain ⟨n, rfl, h0, h1, q⟩ := h
    obtain ⟨l0, l1⟩ := num_len h0 h1
    have ls : (numT n).length ≤ sizeLine := by rw [sizeLine_eq]; omega
    refine ⟨_, (pss_cons (ps_if (pt_not (pt_chain op_le op_le pe_int (pe_callB callLen (by rfl) T.z_len PySem.boot_len (pa_cons (pv 0) pa_nil)) pe_int)) (pss_one ps_never) pss_nil)
  (pss_cons (ps_for PassesOwn.never rfl (pi_str (pv 0)) (pg_name (i := 1) sc_small_number_moves.nd rfl (by first | exact Or.inl rfl | exact Or.inr rfl))
  (pss_one (ps_if (pt_cmpR opNotSg (pv 1) (pe_gc T.c_FIGURES_moves) (by rfl)) (pss_one ps_never) pss_nil)))
  (pss_cons (ps_if (PW.pt (pw_and (pt_cmpR (opEq hr) (pe_ix ix_seq (pv 0) pe_int (fun _ _ => rfl)) pe_str (nomark _)) (pw_and1 (pt_cmpR (opNe hr) (pv 0) pe_str (nomark _))))) (pss_one ps_never) pss_nil)
  (pss_one (ps_ret (pe_callTy callInt (by rfl) T.z_int boot_int (pa_cons (pv 0) pa_nil))))))), ?_⟩
    walk_at "o"
    refine w_lenS ls ?_
    walk_at "o"
    refine ⟨_, rfl, for_go walk_str (fun i σ H' => H' = H ∧ ∃ o, σ = [some (.str (numT n)), o]) ⟨rfl, _, rfl⟩ (fun _ _ _ _ _ => True.intro) ?_ ?_⟩
    · rintro i x σ H1 H' hi ⟨rfl, o2, rfl⟩ ⟨rfl, cc, hc, rfl⟩
      have hm : cc ∈ tl ("0123456789" : Str) := num_figs h0 h1 (Array.mem_toList_iff.mpr (Array.mem_of_getElem? hc))
      walk_at "rd"
      refine w_noN hm ?_
      walk_at "rd"
      exact ⟨rfl, _, rfl⟩
    · rintro σ H' ⟨rfl, o2, rfl⟩
      walk_at "rd"
      obtain ⟨c0, e0⟩ : ∃ c0, (numT n).cps.toList[0]? = some c0 := ⟨_, List.getElem?_eq_getElem (by rw [len_tl] at l0; exact l0)⟩
      refine g_ixS ls (atI_nat (j := 0) e0) ?_
      walk_at "rd"
      refine w_ite (fun c => ?_) (fun c => ?_)
      · have hc0 : c0 = 48 := by
          have e2 : tl (⟨#[c0]⟩ : Str) = tl ("0" : Str) := by rw [c]
          have e3 : tl ("0" : Str) = [48] := by decide +kernel
          rw [e3] at e2
          simpa [tl] using e2
        have hlen : (numT n).length = 1 := by
          by_cases hl : 1 < (numT n).length
          · exact absurd hc0 (num_head h0 h1 hl e0)
          · omega
        have hz : numT n = "0" := by
          refine ext_tl ?_
          have e3 : tl ("0" : Str) = [48] := by decide +kernel
          rw [e3]
          have hl2 : (tl (numT n)).length = 1 := by rw [← len_tl]; exact hlen
          obtain ⟨a, ha⟩ := List.length_eq_one_iff.mp hl2
          have e4 : (tl (numT n))[0]? = some c0 := e0
          rw [ha] at e4 ⊢
          simp at e4
          rw [e4, hc0]
        walk_at "rd"
        refine w_noN hz ?_
        walk_at "rd"
        refine g_intS (num_int h0 h1) (by omega) ?_
        exact q
      · walk_at "rd"
        refine g_intS (num_int h0 h1) (by omega) ?_
        exact q
def spRdMove (A : Adr) : Sp := fun vs H Q _ => ∃ (G : Hp) (m : Mv), vs = [.str m.text] ∧ Same G H ∧ OkMv m ∧ ∀ v' G' H', Stp G H G' H' → RMv A G' v' m → Q v' H'
theorem ok_read_move (T : Bas K mg) (TC : Cla K mg A) (m_Up : Mkr P w K mg base CX0 "Up" (A.mv .up) ["self", "rod", "beads"] 1 (spMvI A)) (m_Down : Mkr P w K mg base CX0 "Down" (A.mv .down) ["self", "rod", "beads"] 1 (spMvI A))
    (m_Put : Mkr P w K mg base CX0 "Put" (A.mv .put) ["self", "rod", "beads"] 1 (spMvI A)) (m_Take : Mkr P w K mg base CX0 "Take" (A.mv .take) ["self", "rod", "beads"] 1 (spMvI A))
    (f_small_number_moves : Cal P w K mg base CX0 "small_number_moves" ["word"] 1 spSmallL)
    (D : Std K mg "read_move" "read_move" "read_move" s_read_move ["text"]) : Cal P w K mg base CX0 "read_move" ["text"] 3 (spRdMove A) := by
  refine D.cal sc_read_move (fun vs H Q E h => ?_) (fun f cdv A0 outer s H vs Q E hr h => ?_)
  · obtain ⟨G, m, rfl, _⟩ := h; rfl
  · obtain ⟨G, ⟨mk, mr, mb⟩, rfl, k, o, q⟩ := h
    have ll := mv_len o
    have hb0 : 1 ≤ mb := o.b0
    have hb1 : mb < 100 := o.b1
    have hr1 : mr < 100 := o.rod
    refine ⟨_, (pss_cons (ps_if (pt_not (pt_val (pe_callB call_isi (by rfl) T.z_isinstance boot_isinstance (pa_cons (pv 0) (pa_cons (pe_tyn T.z_str boot_str) pa_nil))))) (pss_one ps_never) pss_nil)
  (pss_cons (ps_set (i := 1) sc_read_move.nd rfl (by first | exact Or.inl rfl | exact Or.inr rfl) (peSplit (pv 0) pe_str))
  (pss_cons (ps_if (pt_cmpR (opNe hr) (pe_callB callLen (by rfl) T.z_len PySem.boot_len (pa_cons (pv 1) pa_nil)) pe_int (nomark _)) (pss_one ps_never) pss_nil)
  (pss_cons (ps_set (i := 2) sc_read_move.nd rfl (by first | exact Or.inl rfl | exact Or.inr rfl) (pe_cal f_small_number_moves hr (by decide) pass0 (pa_cons (pe_ix ix_seq (pv 1) pe_int (fun _ _ => rfl)) pa_nil)))
  (pss_cons (ps_set (i := 3) sc_read_move.nd rfl (by first | exact Or.inl rfl | exact Or.inr rfl) (pe_cal f_small_number_moves hr (by decide) pass0 (pa_cons (pe_ix ix_seq (pv 1) pe_int (fun _ _ => rfl)) pa_nil)))
  (pss_cons (ps_if (pt_cmpR (opEq hr) (pv 3) pe_int (nomark _)) (pss_one ps_never) pss_nil)
  (pss_cons (ps_if (pt_cmpR (opEq hr) (pe_ix ix_seq (pv 1) pe_int (fun _ _ => rfl)) pe_str (nomark _)) (pss_one (ps_ret (pe_mkr m_Up hr (by decide) pass0 (pa_cons (pv 2) (pa_cons (pv 3) pa_nil))))) pss_nil)
  (pss_cons (ps_if (pt_cmpR (opEq hr) (pe_ix ix_seq (pv 1) pe_int (fun _ _ => rfl)) pe_str (nomark _)) (pss_one (ps_ret (pe_mkr m_Down hr (by decide) pass0 (pa_cons (pv 2) (pa_cons (pv 3) pa_nil))))) pss_nil)
  (pss_cons (ps_if (pt_cmpR (opEq hr) (pe_ix ix_seq (pv 1) pe_int (fun _ _ => rfl)) pe_str (nomark _)) (pss_one (ps_ret (pe_mkr m_Put hr (by decide) pass0 (pa_cons (pv 2) (pa_cons (pv 3) pa_nil))))) pss_nil)
  (pss_cons (ps_if (pt_cmpR (opEq hr) (pe_ix ix_seq (pv 1) pe_int (fun _ _ => rfl)) pe_str (nomark _)) (pss_one (ps_ret (pe_mkr m_Take hr (by decide) pass0 (pa_cons (pv 2) (pa_cons (pv 3) pa_nil))))) pss_nil)
  (pss_one ps_never))))))))))), ?_⟩
    walk_at "o"
    refine w_isi (.base (.str _)) (c := true) (kit_ty (by decide +kernel)) ?_
    walk_at "rd"
    refine w_split k (by decide +kernel) (by omega) (mv_split ⟨mk, mr, mb⟩) fun p1 G1 H1 s1 hp1 => ?_
    walk_at "rd"
    refine w_lenL (by walk_at "L") ?_
    walk_at "rd"
    refine w_noN rfl ?_
    walk_at "rd"
    refine w_ixL (i := 1) (by walk_at "L") rfl ?_
    walk_at "rd"
    refine ⟨(mr : Int), rfl, by omega, by omega, ?_⟩
    walk_at "rd"
    refine w_ixL (i := 2) (by walk_at "L") rfl ?_
    walk_at "rd"
    refine ⟨(mb : Int), rfl, by omega, by omega, ?_⟩
    walk_at "rd"
    refine w_no (by omega) ?_
    walk_at "rd"
    refine w_ixL (i := 0) (by walk_at "L") rfl ?_
    walk_at "rd"
    cases mk with
    | up =>
      refine w_yes rfl ?_
      walk_at "rd"
      exact w_makeMv s1.k fun v G' H' s r => q v G' H' (s1.trans s) r
    | down =>
      refine w_no (by decide +kernel) ?_
      walk_at "rd"
      refine w_ixL (i := 0) (by walk_at "L") rfl ?_
      walk_at "rd"
      refine w_yes rfl ?_
      walk_at "rd"
      exact w_makeMv s1.k fun v G' H' s r => q v G' H' (s1.trans s) r
    | put =>
      refine w_no (by decide +kernel) ?_
      walk_at "rd"
      refine w_ixL (i := 0) (by walk_at "L") rfl ?_
      walk_at "rd"
      refine w_no (by decide +kernel) ?_
      walk_at "rd"
      refine w_ixL (i := 0) (by walk_at "L") rfl ?_
      walk_at "rd"
      refine w_yes rfl ?_
      walk_at "rd"
      exact w_makeMv s1.k fun v G' H' s r => q v G' H' (s1.trans s) r
    | take =>
      refine w_no (by decide +kernel) ?_
      walk_at "rd"
      refine w_ixL (i := 0) (by walk_at "L") rfl ?_
      walk_at "rd"
      refine w_no (by decide +kernel) ?_
      walk_at "rd"
      refine w_ixL (i := 0) (by walk_at "L") rfl ?_
      walk_at "rd"
      refine w_no (by decide +kernel) ?_
      walk_at "rd"
      refine w_ixL (i := 0) (by walk_at "L") rfl ?_
      walk_at "rd"
      refine w_yes rfl ?_
      walk_at "rd"
      exact w_makeMv s1.k fun v G' H' s r => q v G' H' (s1.trans s) r
def spRdRow (A : Adr) : Sp := fun vs H Q _ => ∃ (G : Hp) (ms : List Mv), vs = [.str (rowT ms)] ∧ Same G H ∧ ms.length ≤ 100 ∧ (∀ m ∈ ms, OkMv m) ∧ ∀ v' G' H', Stp G H G' H' → RRow A G' v' ms → Q v' H'
theorem ok_read_row (T : Bas K mg) (f_read_move : Cal P w K mg base CX0 "read_move" ["text"] 3 (spRdMove A)) (D : Std K mg "read_row" "read_row" "read_row" s_read_row ["text"]) : Cal P w K mg base CX0 "read_row" ["text"] 4 (spRdRow A) := by
  refine D.cal sc_read_row (fun vs H Q E h => ?_) (fun f cdv A0 outer s H vs Q E hr h => ?_)
  · obtain ⟨G, ms, rfl, _⟩ := h; rfl
  · obtain ⟨G, ms, rfl, k, hl, o, q⟩ := h
    refine ⟨_, (pss_cons (ps_if (pt_not (pt_val (pe_callB call_isi (by rfl) T.z_isinstance boot_isinstance (pa_cons (pv 0) (pa_cons (pe_tyn T.z_str boot_str) pa_nil))))) (pss_one ps_never) pss_nil)
  (pss_cons (ps_if (pt_cmpR (opEq hr) (pv 0) pe_str (nomark _)) (pss_one (ps_ret (pe_lst pa_nil))) pss_nil)
  (pss_one (ps_ret (pe_lc (own := [("part", 1)]) (g := gName 1) (tt := tYes) rfl sc_read_row.nd (pi_list (peSplit (pv 0) pe_str)) (blkOk_by (own := [("part", 1)]) (N := N_read_row) (sc := defScope s_read_row) (by decide +kernel)) (fun _ _ _ _ _ => (pg_name (i := 1) sc_read_row.nd rfl (by first | exact Or.inl rfl | exact Or.inr rfl))) (fun _ _ _ _ _ => pts_nil) (fun _ _ _ _ _ => (pe_cal f_read_move hr (by decide) pass0 (pa_cons (pv 1) pa_nil)))))))), ?_⟩
    walk_at "o"
    refine w_isi (.base (.str _)) (c := true) (kit_ty (by decide +kernel)) ?_
    walk_at "rd"
    refine w_ite (fun c => ?_) (fun c => ?_)
    · have e : ms = [] := by
        by_cases e : ms = []
        · exact e
        · exact absurd c (row_ne e o)
      subst e
      walk_at "rd"
      refine w_lstK k rfl fun p1 G1 H1 s1 hp1 _ => ?_
      exact q _ G1 H1 s1 ⟨p1, [], rfl, hp1, .nil⟩
    · have hne : ms ≠ [] := by
        rintro rfl
        exact c rfl
      have ll := row_len o
      walk_at "rd"
      refine w_split k (by decide +kernel) (by omega) (row_split hne o) fun p1 G1 H1 s1 hp1 => ?_
      refine ⟨p1, rfl, ⟨_, by walk_at "L"⟩, ?_⟩
      refine lc_map (R := RMv A) (walk_list (xs := (ms.map Mv.text).map V.str)) s1.k (fun i => ms.getD i ⟨.up, 0, 0⟩) (by simp; omega) (fun G' H' g k' => SqL.of (k' _ _ (g _ _ hp1))) (fun i x G5 H5 H6 C hi g5 k5 hY hC => ?_) (fun pr xr G7 H7 s7 hpr rr => ?_)
      · obtain ⟨rfl, hx⟩ := hY
        have hi' : i < ms.length := by simpa using hi
        have hx' : x = .str ms[i].text := by
          rw [List.getElem?_map, List.getElem?_map, List.getElem?_eq_getElem hi'] at hx
          simpa using hx.symm
        subst hx'
        walk_at "rd"
        refine ⟨wipe1, ?_⟩
        walk_at "rd"
        refine ⟨G5, ms[i], rfl, k5, o _ (List.getElem_mem hi'), fun v' G' H' s' r' => hC v' G' H' s' ?_⟩
        rw [List.getD_eq_getElem?_getD, List.getElem?_eq_getElem hi']
        exact r'
      · refine q _ G7 H7 (s1.trans s7) ⟨pr, xr, rfl, hpr, ?_⟩
        have e : (List.range ((ms.map Mv.text).map V.str).length).map (fun i => ms.getD i ⟨.up, 0, 0⟩) = ms := by
          have := map_range ms ⟨.up, 0, 0⟩ id
          simp only [id, List.map_id_fun', List.length_map] at this ⊢
          simpa using this
        rw [e] at rr
        exact rr
def spIsName : Sp := fun vs H Q _ => ∃ z : Str, vs = [.str z] ∧ 1 ≤ z.length ∧ z.length ≤ 8 ∧ (∀ c ∈ tl z, c ∈ tl ("abcdefghijklmnopqrstuvwxyz" : Str)) ∧ Q (.bl true) H
theorem ok_is_name (T : Bas K mg) (D : Std K mg "is_name" "is_name" "is_name" s_is_name ["word"]) : Cal P w K mg base CX0 "is_name" ["word"] 1 spIsName := by
  refine D.cal sc_is_name (fun vs H Q E h => ?_) (fun f cdv A outer s H vs Q E hr h => ?_)
  · obtain ⟨z, rfl, _⟩ := h; rfl
  · obtain ⟨z, rfl, h0, h1, ha, q⟩ := h
    have ls : z.length ≤ sizeLine := by rw [sizeLine_eq]; omega
    refine ⟨_, (pss_cons (ps_if (pt_not (pt_chain op_le op_le pe_int (pe_callB callLen (by rfl) T.z_len PySem.boot_len (pa_cons (pv 0) pa_nil)) (pe_gc T.c_LONGEST_NAME))) (pss_one (ps_ret pe_bl)) pss_nil)
  (pss_cons (ps_for PassesOwn.never rfl (pi_str (pv 0)) (pg_name (i := 1) sc_is_name.nd rfl (by first | exact Or.inl rfl | exact Or.inr rfl))
  (pss_one (ps_if (pt_cmpR opNotSg (pv 1) (pe_gc T.c_LETTERS) (by rfl)) (pss_one (ps_ret pe_bl)) pss_nil)))
  (pss_one (ps_ret pe_bl)))), ?_⟩
    walk_at "o"
    refine w_lenS ls ?_
    walk_at "o"
    refine ⟨_, rfl, for_go walk_str (fun i σ H' => H' = H ∧ ∃ o, σ = [some (.str z), o]) ⟨rfl, _, rfl⟩ (fun _ _ _ _ _ => True.intro) ?_ ?_⟩
    · rintro i x σ H1 H' hi ⟨rfl, o2, rfl⟩ ⟨rfl, cc, hc, rfl⟩
      have hm : cc ∈ tl ("abcdefghijklmnopqrstuvwxyz" : Str) := ha cc (Array.mem_toList_iff.mpr (Array.mem_of_getElem? hc))
      walk_at "rd"
      refine w_noN hm ?_
      walk_at "rd"
      exact ⟨rfl, _, rfl⟩
    · rintro σ H' ⟨rfl, o2, rfl⟩
      walk_at "rd"
      exact q
end
end BF
namespace BF
open PySem PySem.Spec PyProof.Rows L2 TL HotX
local macro_rules | `(tactic| walk_at "rd") => `(tactic| repeat (first
  | with_reducible refine w_var rfl ?_ | with_reducible refine w_c ?_ | with_reducible refine w_seq ?_ | with_reducible refine w_op ?_
  | with_reducible refine w_asg ?_ | with_reducible refine w_name ?_ | with_reducible refine w_ret ?_ | with_reducible refine w_drop ?_ | with_reducible refine w_next ?_
  | with_reducible refine w_if ?_ | with_reducible refine w_test ?_ | with_reducible refine w_B ?_ | with_reducible refine w_bl ?_ | with_reducible refine w_not ?_
  | with_reducible refine w_and ?_ | with_reducible refine w_or ?_ | with_reducible refine w_nil ?_ | with_reducible refine w_cons ?_ | with_reducible refine w_cb ?_
  | with_reducible refine w_chain ?_ | with_reducible refine w_call ?_ | with_reducible refine w_un ?_ | with_reducible refine w_neg ?_
  | with_reducible refine w_andV ?_ | with_reducible refine w_orV ?_ | with_reducible refine w_notV ?_ | with_reducible refine w_iteT ?_ | with_reducible refine w_iteF ?_ | with_reducible refine w_ntT ?_ | with_reducible refine w_ntF ?_
  | with_reducible refine g_add ?_ | with_reducible refine g_sub ?_ | with_reducible refine g_cmp ?_ | with_reducible refine g_eqI ?_ | with_reducible refine g_neI ?_ | with_reducible refine g_eqS ?_ | with_reducible refine g_neS ?_
  | with_reducible refine w_min ?_ | with_reducible refine w_max ?_ | with_reducible refine w_isN ?_ | with_reducible refine w_notN ?_ | with_reducible refine w_notSg ?_ | with_reducible refine w_gcons ?_ | with_reducible refine w_gnil ?_ | with_reducible refine w_sl ?_ | with_reducible refine w_noP ?_ | with_reducible refine w_part ?_ | with_reducible refine w_int1 ?_ | with_reducible refine w_tup ?_ | with_reducible refine w_lst ?_ | with_reducible refine g_intB ?_ | with_reducible refine w_fld ?_ | with_reducible refine w_meth ?_ | with_reducible refine w_make ?_
  | with_reducible refine w_lc ?_ | with_reducible refine w_for ?_ | with_reducible refine w_iL ?_ | with_reducible refine w_iT ?_ | with_reducible refine w_iS ?_ | with_reducible refine w_iRev ?_ | with_reducible refine w_iEn ?_ | with_reducible refine w_iZip ?_ | with_reducible refine w_iR1 ?_
  | with_reducible refine w_bm ?_ | with_reducible refine w_bm0 ?_ | with_reducible refine w_M1 ?_ | with_reducible refine w_isStr ?_
  | dsimp only))
local macro_rules | `(tactic| walk_at "same") => `(tactic| first | exact Same.refl _ | assumption | exact Stp.g (by assumption) | (refine Same.trans (Stp.g (by assumption)) ?_; walk_at "same"))
local macro_rules | `(tactic| walk_at "k") => `(tactic| first | assumption | exact Stp.k (by assumption) | exact Acc.k (by assumption))
local macro_rules | `(tactic| walk_at "stp") => `(tactic| first | assumption | exact Stp.refl (by walk_at "k") | (refine Stp.trans (by assumption) ?_; walk_at "stp"))
local macro_rules | `(tactic| walk_at "up") => `(tactic| first | assumption | exact up (by assumption) (by walk_at "same"))
local macro_rules | `(tactic| walk_at "gh") => `(tactic| first | assumption | exact Stp.k (by assumption) | (refine Same.trans (Stp.g (by assumption)) ?_; walk_at "gh"))
local macro_rules | `(tactic| walk_at "at") => `(tactic| first | assumption | exact at_ (by assumption) (by walk_at "gh"))
local macro_rules | `(tactic| walk_at "L") => `(tactic| exact SqL.of (by walk_at "at"))
local macro_rules | `(tactic| walk_at "T") => `(tactic| exact SqT.of (by walk_at "at"))
local macro_rules | `(tactic| walk_at "o1") => `(tactic| first | with_reducible refine w_yes (by first | assumption | omega) ?_ | with_reducible refine w_no (by first | assumption | omega) ?_ | with_reducible refine w_yesN (by first | assumption | omega) ?_ | with_reducible refine w_noN (by first | assumption | omega) ?_)
local macro_rules | `(tactic| walk_at "o") => `(tactic| (walk_at "rd"; repeat (walk_at "o1"; walk_at "rd")))

theorem w_iZipR {K : PySem.W.Frag} {ta tb : TE} {σ : L2.St} {H : Hp} {R : It → Hp → Prop} (h : ta σ H fun x H1 => tb σ H1 fun y H2 => ∃ a b xs ys, x = .ref a ∧ y = .ref b ∧ SqL K H2 a xs ∧ SqL K H2 b ys ∧ R (ItzG (fun H zs => SqL K H a zs) (fun H zs => ∃ ws, SqL K H b ws ∧ ws.length = ys.length ∧ zs = ws.reverse)) H2) : iZipR K ta tb σ H R := h
def FmtT (Q : VK) (x : V) (H1 : Hp) : Prop := (∃ y : Str, x = .str y ∧ y.length ≤ sizeLine ∧ Q (.str y) H1) ∨ ∃ i : Int, x = .int i ∧ i.natAbs.log2 < 1920 ∧ Q (.str (toString i)) H1
theorem w_fmt {te : TE} {σ : L2.St} {H : Hp} {Q : VK} (h : te σ H (FmtT Q)) : tFmt te σ H Q := h
theorem w_fmtI {H : Hp} {Q : VK} {i : Int} (hz : i.natAbs.log2 < 1920) (h : Q (.str (numT i)) H) : FmtT Q (.int i) H := .inr ⟨i, rfl, hz, h⟩
theorem w_fmtS {H : Hp} {Q : VK} {y : Str} (hz : y.length ≤ 1000) (h : Q (.str y) H) : FmtT Q (.str y) H := .inl ⟨y, rfl, by rw [sizeLine_eq]; omega, h⟩
theorem w_js {t : TE} {ts : List TE} {acc : Str} {σ : L2.St} {H : Hp} {Q : Str → Hp → Prop} (h : t σ H fun x H1 => ∃ y : Str, x = .str y ∧ (acc ++ y).length ≤ sizeLine ∧ tJs ts (acc ++ y) σ H1 Q) : tJs (t :: ts) acc σ H Q := h
theorem w_jn {acc : Str} {σ : L2.St} {H : Hp} {Q : Str → Hp → Prop} (h : Q acc H) : tJs [] acc σ H Q := h
theorem w_jstr {y acc : Str} {ts : List TE} {σ : L2.St} {H : Hp} {Q : Str → Hp → Prop} (hl : (acc ++ y).length ≤ 10000) (h : tJs ts (acc ++ y) σ H Q) : ∃ z : Str, V.str y = .str z ∧ (acc ++ z).length ≤ sizeLine ∧ tJs ts (acc ++ z) σ H Q := ⟨y, rfl, by rw [sizeLine_eq]; omega, h⟩
section
variable {P : Program} {w : World} {K : PySem.W.Frag} {mg : Str → Option Value} {base : Heap} {A : Adr} {fI : Addr} {fd : FuncData}
def spRdRod : Sp := fun vs H Q _ => ∃ (G : Hp) (y : Lay) (s : Rod) (vl : V), vs = [vl, .str (rodT s)] ∧ Same G H ∧ RLay G vl y ∧ OkRod s ∧ fits y s ∧ ∀ v' G' H', Stp G H G' H' → RRod G' v' s → Q v' H'
theorem ok_read_rod (T : Bas K mg) (f_small_number_layouts : Cal P w K mg base CX0 "small_number_layouts" ["word"] 1 spSmallL) (D : Std K mg "read_rod" "read_rod" "read_rod" s_read_rod ["layout", "word"]) : Cal P w K mg base CX0 "read_rod" ["layout", "word"] 2 spRdRod := by
  refine D.cal sc_read_rod (fun vs H Q E h => ?_) (fun f cdv A0 outer s H vs Q E hr h => ?_)
  · obtain ⟨G, y, s, vl, rfl, _⟩ := h; rfl
  · obtain ⟨G, y, s0, vl, rfl, k, ⟨p, rfl, hp⟩, o, ft, q⟩ := h
    obtain ⟨o1, o2, o3, o4⟩ := id o
    obtain ⟨⟨f1, f2⟩, f3, f4⟩ := ft
    have ll := rod_len o
    refine ⟨_, (pss_cons (ps_asg (pePart (pv 1) pe_str) (pg_tup rfl (pgs_cons (pg_name (i := 2) sc_read_rod.nd rfl (by first | exact Or.inl rfl | exact Or.inr rfl)) (pgs_cons (pg_name (i := 3) sc_read_rod.nd rfl (by first | exact Or.inl rfl | exact Or.inr rfl)) (pgs_cons (pg_name (i := 4) sc_read_rod.nd rfl (by first | exact Or.inl rfl | exact Or.inr rfl)) pgs_nil)))))
  (pss_cons (ps_set (i := 5) sc_read_rod.nd rfl (by first | exact Or.inl rfl | exact Or.inr rfl) (pe_tup (pa_cons (pe_cal f_small_number_layouts hr (by decide) pass0 (pa_cons (pv 2) pa_nil)) (pa_cons (pe_cal f_small_number_layouts hr (by decide) pass0 (pa_cons (pv 4) pa_nil)) pa_nil))))
  (pss_cons (ps_if (PW.pt (pw_or (pt_cmpR (opEq hr) (pv 3) pe_str (nomark _)) (pw_or (pt_cmpR op_in_seq pe_non (pv 5) (by rfl)) (pw_or (pt_cmpR op_gt (pe_ix ix_seq (pv 5) pe_int (fun _ _ => rfl)) (pe_ix ix_seq (pv 0) pe_int (fun _ _ => rfl)) (nomark _)) (pw_or1 (pt_cmpR op_gt (pe_ix ix_seq (pv 5) pe_int (fun _ _ => rfl)) (pe_ix ix_seq (pv 0) pe_int (fun _ _ => rfl)) (nomark _))))))) (pss_one ps_never) pss_nil)
  (pss_one (ps_ret (pv 5)))))), ?_⟩
    walk_at "rd"
    refine w_par k (by decide +kernel) (by omega) (part_rod s0 o1) fun p1 G1 H1 s1 hp1 => ?_
    walk_at "rd"
    refine w_gtup (by walk_at "T") rfl ?_
    walk_at "rd"
    refine ⟨s0.1, rfl, o1, o2, ?_⟩
    walk_at "rd"
    refine ⟨s0.2, rfl, o3, o4, ?_⟩
    walk_at "rd"
    refine w_tupK s1.k rfl fun p2 G2 H2 s2 hp2 _ => ?_
    walk_at "rd"
    refine w_no (by decide +kernel) ?_
    walk_at "rd"
    refine w_inT (by walk_at "T") rfl rfl (b := false) (by rfl) ?_
    walk_at "rd"
    refine w_ixT (i := 0) (by walk_at "T") rfl ?_
    walk_at "rd"
    refine w_ixT (i := 0) (by walk_at "T") rfl ?_
    walk_at "rd"
    refine w_no (by omega) ?_
    walk_at "rd"
    refine w_ixT (i := 1) (by walk_at "T") rfl ?_
    walk_at "rd"
    refine w_ixT (i := 2) (by walk_at "T") rfl ?_
    walk_at "rd"
    refine w_no (by omega) ?_
    walk_at "rd"
    exact q _ G2 H2 (s1.trans s2) ⟨p2, rfl, hp2⟩
def Fit (fr : List Lay) (st : List Rod) : Prop := st.length = fr.length ∧ ∀ (i : Nat) (y : Lay) (s : Rod), fr[i]? = some y → st[i]? = some s → fits y s
def spRdStd : Sp := fun vs H Q _ => ∃ (G : Hp) (fr : List Lay) (st : List Rod) (vf : V), vs = [vf, .str (shownT st)] ∧ Same G H ∧ RFrame G vf fr ∧ Fit fr st ∧ (∀ s ∈ st, OkRod s) ∧ 1 ≤ st.length ∧ st.length ≤ 100 ∧ ∀ v' G' H', Stp G H G' H' → RStd G' v' st → Q v' H'
theorem ok_read_standing (T : Bas K mg) (f_read_rod : Cal P w K mg base CX0 "read_rod" ["layout", "word"] 2 spRdRod) (D : Std K mg "read_standing" "read_standing" "read_standing" s_read_standing ["frame", "text"]) :
    Cal P w K mg base CX0 "read_standing" ["frame", "text"] 3 spRdStd := by
  refine D.cal sc_read_standing (fun vs H Q E h => ?_) (fun f cdv A0 outer s H vs Q E hr h => ?_)
  · obtain ⟨G, fr, st, vf, rfl, _⟩ := h; rfl
  · obtain ⟨G, fr, st, vf, rfl, k, ⟨pf, xf, rfl, hf, rf⟩, ⟨hl, ft⟩, o, hl1, hl2, q⟩ := h
    have lf := paired_len rf
    have ll := std_len o
    have hne : st ≠ [] := by
      rintro rfl
      simp at hl1
    refine ⟨_, (pss_cons (ps_if (pt_not (pt_val (pe_callB call_isi (by rfl) T.z_isinstance boot_isinstance (pa_cons (pv 1) (pa_cons (pe_tyn T.z_str boot_str) pa_nil))))) (pss_one ps_never) pss_nil)
  (pss_cons (ps_set (i := 2) sc_read_standing.nd rfl (by first | exact Or.inl rfl | exact Or.inr rfl) (peSplit (pv 1) pe_str))
  (pss_cons (ps_if (pt_cmpR (opNe hr) (pe_callB callLen (by rfl) T.z_len PySem.boot_len (pa_cons (pv 2) pa_nil)) (pe_callB callLen (by rfl) T.z_len PySem.boot_len (pa_cons (pv 0) pa_nil)) (nomark _)) (pss_one ps_never) pss_nil)
  (pss_one (ps_ret (pe_lc (own := [("layout", 3), ("word", 4)]) (g := gTup K 2 (gCons (gName 3) (gCons (gName 4) gNil))) (tt := tYes) rfl sc_read_standing.nd (pi_zipRev (by rfl) T.z_zip (by rfl) T.z_reversed (pv 0) (pv 2)) (blkOk_by (own := [("layout", 3), ("word", 4)]) (N := N_read_standing) (sc := defScope s_read_standing) (by decide +kernel)) (fun _ _ _ _ _ => (pg_tup rfl (pgs_cons (pg_name (i := 3) sc_read_standing.nd rfl (by first | exact Or.inl rfl | exact Or.inr rfl)) (pgs_cons (pg_name (i := 4) sc_read_standing.nd rfl (by first | exact Or.inl rfl | exact Or.inr rfl)) pgs_nil)))) (fun _ _ _ _ _ => pts_nil) (fun _ _ _ _ _ => (pe_cal f_read_rod hr (by decide) pass0 (pa_cons (pv 3) (pa_cons (pv 4) pa_nil)))))))))), ?_⟩
    walk_at "o"
    refine w_isi (.base (.str _)) (c := true) (kit_ty (by decide +kernel)) ?_
    walk_at "rd"
    refine w_split k (by decide +kernel) (by omega) (std_split hne o) fun p1 G1 H1 s1 hp1 => ?_
    walk_at "rd"
    refine w_lenL (by walk_at "L") ?_
    walk_at "rd"
    refine w_lenL (by walk_at "L") ?_
    walk_at "rd"
    refine w_noN (by simp; omega) ?_
    walk_at "rd"
    refine w_iZipR ?_
    walk_at "rd"
    refine ⟨pf, p1, _, _, rfl, rfl, by walk_at "L", by walk_at "L", ?_⟩
    have hrev : ((st.reverse.map rodT).map V.str).reverse = (st.map rodT).map V.str := by
      rw [← List.map_reverse, ← List.map_reverse, List.reverse_reverse]
    refine lc_map (R := RRod) (walk_zipG (xs := xf) (ys := (st.map rodT).map V.str) (by simp; omega)) s1.k (fun i => st.getD i (0, 0)) (by omega) (fun G' H' g k' => ⟨SqL.of (k' _ _ (g _ _ (s1.g _ _ hf))), ⟨_, SqL.of (k' _ _ (g _ _ hp1)), rfl, hrev.symm⟩⟩) (fun i x G5 H5 H6 C hi g5 k5 hY hC => ?_) (fun pr xr G7 H7 s7 hpr rr => ?_)
    · obtain ⟨T2, va, vb, G6, rfl, s6, hT, e1, e2⟩ := y_pair k5 hY
      have hi' : i < st.length := by omega
      have e2' : vb = .str (rodT st[i]) := by
        rw [List.getElem?_map, List.getElem?_map, List.getElem?_eq_getElem hi'] at e2
        simpa using e2.symm
      subst e2'
      obtain ⟨y, ey, ry⟩ := paired_get (paired_up (s1.g.trans (g5.trans s6.g)) rf) e1
      refine w_gtup (by walk_at "T") rfl ?_
      walk_at "rd"
      refine ⟨wipe2 (by decide), ?_⟩
      walk_at "rd"
      refine ⟨G6, y, st[i], _, rfl, s6.k, ry, o _ (List.getElem_mem hi'), ft i y st[i] ey (List.getElem?_eq_getElem hi'), fun v' G' H' s' r' => hC v' G' H' (s6.trans s') ?_⟩
      rw [List.getD_eq_getElem?_getD, List.getElem?_eq_getElem hi']
      exact r'
    · refine q _ G7 H7 (s1.trans s7) ⟨pr, xr, rfl, hpr, ?_⟩
      have e : (List.range xf.length).map (fun i => st.getD i (0, 0)) = st := by
        have := map_range st (0, 0) id
        simp only [id, List.map_id_fun'] at this
        rw [show xf.length = st.length by omega]
        simpa using this
      rw [e] at rr
      exact rr
def spShown : Sp := fun vs H Q _ => ∃ (G : Hp) (st : List Rod) (v : V), vs = [v] ∧ Same G H ∧ RStd G v st ∧ (∀ s ∈ st, OkRod s) ∧ st.length ≤ 100 ∧ ∀ G' H', Stp G H G' H' → Q (.str (shownT st)) H'
theorem ok_shown_standing (T : Bas K mg) (D : Std K mg "shown_standing" "shown_standing" "shown_standing" s_shown_standing ["standing"]) : Cal P w K mg base CX0 "shown_standing" ["standing"] 1 spShown := by
  refine D.cal sc_shown_standing (fun vs H Q E h => ?_) (fun f cdv A0 outer s H vs Q E hr h => ?_)
  · obtain ⟨G, st, v, rfl, _⟩ := h; rfl
  · obtain ⟨G, st, v, rfl, k, ⟨ps, xs, rfl, hs, rs⟩, o, hl, q⟩ := h
    have lx := paired_len rs
    refine ⟨_, (pss_one (ps_ret (peJoin pe_str (pe_lc (own := [("high", 1), ("low", 2)]) (g := gTup K 2 (gCons (gName 1) (gCons (gName 2) gNil))) (tt := tYes) rfl sc_shown_standing.nd (pi_reversed (by rfl) T.z_reversed (pa_cons (pv 0) pa_nil)) (blkOk_by (own := [("high", 1), ("low", 2)]) (N := N_shown_standing) (sc := defScope s_shown_standing) (by decide +kernel)) (fun _ _ _ _ _ => (pg_tup rfl (pgs_cons (pg_name (i := 1) sc_shown_standing.nd rfl (by first | exact Or.inl rfl | exact Or.inr rfl)) (pgs_cons (pg_name (i := 2) sc_shown_standing.nd rfl (by first | exact Or.inl rfl | exact Or.inr rfl)) pgs_nil)))) (fun _ _ _ _ _ => pts_nil) (fun _ _ _ _ _ => (pe_joined (PJ.cons (pe_fmt (pv 1)) (PJ.cons pe_str (PJ.cons (pe_fmt (pv 2)) PJ.nil))))))))), ?_⟩
    walk_at "rd"
    refine ⟨ps, xs, rfl, by walk_at "L", ?_⟩
    refine lc_map (R := RV V.str) (walk_rev (xs := xs)) k (fun i => rodT (st.reverse.getD i (0, 0))) (by omega) (fun G' H' g k' => SqL.of (k' _ _ (g _ _ hs))) (fun i x G5 H5 H6 C hi g5 k5 hY hC => ?_) (fun pr xr G7 H7 s7 hpr rr => ?_)
    · obtain ⟨rfl, hx⟩ := hY
      obtain ⟨s0, es, p0, rfl, h0⟩ := paired_get rs hx
      have hi' : i < st.length := by omega
      have e0 : st.reverse.getD i (0, 0) = s0 := by
        rw [List.getD_eq_getElem?_getD, List.getElem?_reverse hi', show st.length - 1 - i = xs.length - 1 - i by omega, es]
        rfl
      have oS : OkRod s0 := o s0 (List.mem_of_getElem? es)
      obtain ⟨o1, o2, o3, o4⟩ := oS
      have l1 := num_len o1 o2
      have l2 := num_len o3 o4
      refine w_gtup (SqT.of (k5 _ _ (g5 _ _ h0))) rfl ?_
      unfold rodV
      walk_at "rd"
      refine ⟨wipe2 (by decide), ?_⟩
      have ee : Str.empty.length = 0 := rfl
      walk_at "rd"
      refine w_js ?_
      refine w_fmt ?_
      walk_at "rd"
      refine w_fmtI (num_log o1 (by omega)) ?_
      refine w_jstr (by rw [app_len]; omega) ?_
      refine w_js ?_
      walk_at "rd"
      refine w_jstr (by rw [app_len, app_len, len_dot]; omega) ?_
      refine w_js ?_
      refine w_fmt ?_
      walk_at "rd"
      refine w_fmtI (num_log o3 (by omega)) ?_
      refine w_jstr (by rw [app_len, app_len, app_len, len_dot]; omega) ?_
      refine w_jn ?_
      refine hC _ _ _ (Stp.refl k5) ?_
      show V.str _ = V.str (rodT _)
      rw [e0, empty_app]
      rfl
    · have e : (List.range xs.length).map (fun i => rodT (st.reverse.getD i (0, 0))) = st.reverse.map rodT := by
        have := map_range st.reverse (0, 0) rodT
        rw [show xs.length = st.reverse.length by simp; omega]
        exact this
      rw [e] at rr
      have er := paired_fl rr
      have hsum : ∀ l : List Str, (∀ p ∈ l, p.length ≤ 5) → (l.map (·.length)).sum ≤ l.length * 5 := fun l => by
        induction l with
        | nil => intro _; simp
        | cons a l ih =>
          intro h
          have h1 := h a (by simp)
          have h2 := ih fun p hp => h p (List.mem_cons_of_mem _ hp)
          simp only [List.map_cons, List.sum_cons, List.length_cons]
          omega
      refine w_join (ys := st.reverse.map rodT) (SqL.of (s7.k _ _ (by rw [hpr, er]))) ?_ ?_
      · have h1 := hsum (st.reverse.map rodT) fun p hp => by
          obtain ⟨s1, hs1, rfl⟩ := List.mem_map.mp hp
          exact (rod_len (o s1 (List.mem_reverse.mp hs1))).1
        rw [len_blank]
        simp only [List.length_map, List.length_reverse] at h1 ⊢
        omega
      · exact q G7 H7 s7
end
end BF
namespace BF
open PySem PySem.Spec PyProof.Rows L2 TL HotX
local macro_rules | `(tactic| walk_at "rd") => `(tactic| repeat (first
  | with_reducible refine w_var rfl ?_ | with_reducible refine w_c ?_ | with_reducible refine w_seq ?_ | with_reducible refine w_op ?_
  | with_reducible refine w_asg ?_ | with_reducible refine w_name ?_ | with_reducible refine w_ret ?_ | with_reducible refine w_drop ?_ | with_reducible refine w_next ?_
  | with_reducible refine w_if ?_ | with_reducible refine w_test ?_ | with_reducible refine w_B ?_ | with_reducible refine w_bl ?_ | with_reducible refine w_not ?_
  | with_reducible refine w_and ?_ | with_reducible refine w_or ?_ | with_reducible refine w_nil ?_ | with_reducible refine w_cons ?_ | with_reducible refine w_cb ?_
  | with_reducible refine w_chain ?_ | with_reducible refine w_call ?_ | with_reducible refine w_un ?_ | with_reducible refine w_neg ?_
  | with_reducible refine w_andV ?_ | with_reducible refine w_orV ?_ | with_reducible refine w_notV ?_ | with_reducible refine w_iteT ?_ | with_reducible refine w_iteF ?_ | with_reducible refine w_ntT ?_ | with_reducible refine w_ntF ?_
  | with_reducible refine g_add ?_ | with_reducible refine g_sub ?_ | with_reducible refine g_cmp ?_ | with_reducible refine g_eqI ?_ | with_reducible refine g_neI ?_ | with_reducible refine g_eqS ?_ | with_reducible refine g_neS ?_
  | with_reducible refine w_min ?_ | with_reducible refine w_max ?_ | with_reducible refine w_isN ?_ | with_reducible refine w_notN ?_ | with_reducible refine w_notSg ?_ | with_reducible refine w_gcons ?_ | with_reducible refine w_gnil ?_ | with_reducible refine w_sl ?_ | with_reducible refine w_noP ?_ | with_reducible refine w_part ?_ | with_reducible refine w_int1 ?_ | with_reducible refine w_tup ?_ | with_reducible refine w_lst ?_ | with_reducible refine g_intB ?_ | with_reducible refine w_fld ?_ | with_reducible refine w_meth ?_ | with_reducible refine w_make ?_
  | with_reducible refine w_lc ?_ | with_reducible refine w_for ?_ | with_reducible refine w_iL ?_ | with_reducible refine w_iT ?_ | with_reducible refine w_iS ?_ | with_reducible refine w_iRev ?_ | with_reducible refine w_iEn ?_ | with_reducible refine w_iZip ?_ | with_reducible refine w_iR1 ?_
  | with_reducible refine w_bm ?_ | with_reducible refine w_bm0 ?_ | with_reducible refine w_M1 ?_ | with_reducible refine w_isStr ?_
  | dsimp only))
local macro_rules | `(tactic| walk_at "same") => `(tactic| first | exact Same.refl _ | assumption | exact Stp.g (by assumption) | (refine Same.trans (Stp.g (by assumption)) ?_; walk_at "same"))
local macro_rules | `(tactic| walk_at "k") => `(tactic| first | assumption | exact Stp.k (by assumption) | exact Acc.k (by assumption))
local macro_rules | `(tactic| walk_at "stp") => `(tactic| first | assumption | exact Stp.refl (by walk_at "k") | (refine Stp.trans (by assumption) ?_; walk_at "stp"))
local macro_rules | `(tactic| walk_at "up") => `(tactic| first | assumption | exact up (by assumption) (by walk_at "same"))
local macro_rules | `(tactic| walk_at "gh") => `(tactic| first | assumption | exact Stp.k (by assumption) | (refine Same.trans (Stp.g (by assumption)) ?_; walk_at "gh"))
local macro_rules | `(tactic| walk_at "at") => `(tactic| first | assumption | exact at_ (by assumption) (by walk_at "gh"))
local macro_rules | `(tactic| walk_at "L") => `(tactic| exact SqL.of (by walk_at "at"))
local macro_rules | `(tactic| walk_at "T") => `(tactic| exact SqT.of (by walk_at "at"))
local macro_rules | `(tactic| walk_at "o1") => `(tactic| first | with_reducible refine w_yes (by first | assumption | omega) ?_ | with_reducible refine w_no (by first | assumption | omega) ?_ | with_reducible refine w_yesN (by first | assumption | omega) ?_ | with_reducible refine w_noN (by first | assumption | omega) ?_)
local macro_rules | `(tactic| walk_at "o") => `(tactic| (walk_at "rd"; repeat (walk_at "o1"; walk_at "rd")))

theorem passN {P : Program} {w : World} {X : Cx} : Passes (L2N.CX P w) X (fun _ _ _ => False) := fun _ _ _ _ _ _ _ ⟨_, _, _, _, _, _, _, _, _, _, _, _, h⟩ => h.elim
theorem passX {P : Program} {w : World} {X : Cx} : Passes (L2.CX P w) X (fun _ _ _ => False) := fun _ _ _ _ _ _ _ ⟨_, _, _, _, _, _, _, _, _, _, _, _, h⟩ => h.elim
theorem ps_ex {ι : Type} {X : Cx} {st : Stmt} {t : ι → TS} (h : ∀ i, PS X st (t i)) : PS X st (fun D σ H => ∃ i, t i D σ H) := ⟨fun pins s σ H D I ⟨i, q⟩ => (h i).run pins s σ H D I q⟩
theorem hu1 {A : Around} {k : Nat} (hr : Room k A) : A.units < cLine := by have := hr.un; omega
/-- two lists that are not of one length -/
def rEqLen (K : PySem.W.Frag) : R2 := fun x y H Q => ∃ a b xs ys, x = .ref a ∧ y = .ref b ∧ SqL K H a xs ∧ SqL K H b ys ∧ xs.length ≠ ys.length ∧ Q (.bl false) H
theorem op_eqLen {X : Cx} (hu : X.A.units < cLine) : OpR X (compareOp .Eq) (rEqLen X.K) := by
  intro pins s σ H x y v u Q I rx ry h
  obtain ⟨a, b, xs, ys, rfl, rfl, ha, hb, hl, q⟩ := h
  cases (show v = Value.ref a from rx)
  cases (show u = Value.ref b from ry)
  obtain ⟨us, r1, p1, _⟩ := I.list ha
  obtain ⟨ws, r2, p2, _⟩ := I.list hb
  refine SeqAt.eq_list_lengthsAt p1.isList p2.isList ?_ hu ⟨.bl false, H, I, rfl, q⟩
  have e1 := r1.length
  have e2 := r2.length
  simp
  omega
def SfT (K : PySem.W.Frag) (f : Str) (N : Hp → Prop) (y x : V) (H2 : Hp) : Prop := ∃ a C dx fs, x = .ref a ∧ H2 a = some (.ins C dx fs) ∧ Cls K C ∧ NoAttr K C f ∧ fs.length < 1000 ∧ N (upd H2 a (.ins C dx (putF f y fs)))
theorem w_sf {K : PySem.W.Frag} {ta tv : TE} {f : Str} {D : Ends} {σ : L2.St} {H : Hp} (h : tv σ H fun y H1 => ta σ H1 fun x H2 => SfT K f (D.nx σ) y x H2) : sFld K ta tv f D σ H := h
theorem w_sfAt {K : PySem.W.Frag} {f : Str} {N : Hp → Prop} {y : V} {H : Hp} {a C dx : Addr} {fs : List (Str × V)} (h : H a = some (.ins C dx fs)) (c : Cls K C) (n : NoAttr K C f) (l : Nat.ble fs.length 900 = true) (q : N (upd H a (.ins C dx (putF f y fs)))) : SfT K f N y (.ref a) H :=
  ⟨a, C, dx, fs, rfl, h, c, n, Nat.lt_of_le_of_lt (Nat.le_of_ble_eq_true l) (by omega), q⟩
/-! ### Kept objects -/
def keptF (vf vst vp : V) : List (Str × V) := [("frame", vf), ("standing", vst), ("pushed", vp)]
theorem s_fs : ¬ (("frame" : Str) = "standing") := by decide +kernel
theorem s_fp : ¬ (("frame" : Str) = "pushed") := by decide +kernel
theorem s_sp : ¬ (("standing" : Str) = "pushed") := by decide +kernel
theorem kf_f {vf vst vp : V} : (keptF vf vst vp).lookup ("frame" : Str) = some vf := by simp [keptF, List.lookup]
theorem kf_s {vf vst vp : V} : (keptF vf vst vp).lookup ("standing" : Str) = some vst := by
  have e : (("standing" : Str) == "frame") = false := by decide +kernel
  simp [keptF, List.lookup, e]
theorem kf_p {vf vst vp : V} : (keptF vf vst vp).lookup ("pushed" : Str) = some vp := by
  have e : (("pushed" : Str) == "frame") = false := by decide +kernel
  have e2 : (("pushed" : Str) == "standing") = false := by decide +kernel
  simp [keptF, List.lookup, e, e2]
theorem kf_no {vf vst vp : V} {x : Str} (h1 : (x == ("frame" : Str)) = false) (h2 : (x == ("standing" : Str)) = false) (h3 : (x == ("pushed" : Str)) = false) : (keptF vf vst vp).lookup x = none := by simp [keptF, List.lookup, h1, h2, h3]
theorem kf_put {vf vst vp v : V} : putF "standing" v (keptF vf vst vp) = keptF vf v vp := by
  simp only [keptF, putF, if_neg s_fs, if_true]
theorem kf_make {vf vst vp : V} : putF "pushed" vp (putF "standing" vst (putF "frame" vf [])) = keptF vf vst vp := by
  simp only [keptF, putF, if_neg s_fs, if_neg s_fp, if_neg s_sp]
/-- a Kept object at ak, its moves in the list at pl: both may change, so neither is known -/
structure Kp (A : Adr) (ak pl : Addr) (fr : List Lay) (st : List Rod) (ms : List Mv) (G H : Hp) : Prop where
  k : Same G H
  ex : ∃ dx vf vst xs, H ak = some (.ins A.kept dx (keptF vf vst (.ref pl))) ∧ H pl = some (.lst xs) ∧ RFrame G vf fr ∧ RStd G vst st ∧ Paired (RMv A G) xs ms
  na : G ak = none
  np : G pl = none
theorem stp_none {G H G' H' : Hp} {b : Addr} {o : HO} (s : Stp G H G' H') (hg : G b = none) (hh : H b = some o) : G' b = none := by
  cases e : G' b with
  | none => rfl
  | some u =>
    have := s.n b hg (by rw [e]; simp)
    rw [hh] at this
    cases this
theorem Kp.step {A : Adr} {ak pl : Addr} {fr : List Lay} {st : List Rod} {ms : List Mv} {G H G' H' : Hp} (x : Kp A ak pl fr st ms G H) (s : Stp G H G' H') : Kp A ak pl fr st ms G' H' := by
  obtain ⟨k, ⟨dx, vf, vst, xs, h1, h2, r1, r2, r3⟩, na, np⟩ := x
  exact ⟨s.k, ⟨dx, vf, vst, xs, s.h _ _ h1, s.h _ _ h2, up (R := RFrame) r1 s.g, up (R := RStd) r2 s.g, paired_up s.g r3⟩, stp_none s na h1, stp_none s np h2⟩
/-- all but two addresses as it was -/
def But2 (a b : Addr) (H H' : Hp) : Prop := ∀ c o, H c = some o → c ≠ a → c ≠ b → H' c = some o
section
variable {P : Program} {w : World} {K : PySem.W.Frag} {mg : Str → Option Value} {base : Heap} {A : Adr} {fI : Addr} {fd : FuncData}
def spKeptI (A : Adr) : Sp := fun vs H Q _ => ∃ (G : Hp) (x dx : Addr) (fr : List Lay) (vf : V), vs = [.ref x, vf] ∧ Same G H ∧ H x = some (.ins A.kept dx []) ∧ G x = none ∧ RFrame G vf fr ∧ fr.length ≤ 100 ∧
  ∀ pl G' H', Same G G' → Kp A x pl fr (List.replicate fr.length (0, 0)) [] G' H' → (∀ c o, H c = some o → c ≠ x → H' c = some o) → (∀ c, H c ≠ none → G c = none → G' c = none) → Q .non H'
theorem ok_kept_init (T : Bas K mg) (TC : Cla K mg A) (f_clear_of : Cal P w K mg base CX0 "clear_of" ["frame"] 1 spClear) (D : StdI K mg "Kept" A.kept "Kept.__init__" s_Kept_init ["self", "frame"]) : Mkr P w K mg base CX0 "Kept" A.kept ["self", "frame"] 2 (spKeptI A) := by
  refine D.mkr sc_Kept_init (fun vs H Q E h => ?_) (fun f cdv A0 outer s H vs Q E hr h => ?_)
  · obtain ⟨G, x, dx, fr, vf, rfl, _⟩ := h; rfl
  · obtain ⟨G, x, dx, fr, vf, rfl, k, hx, nx, hf, hl, q⟩ := h
    refine ⟨_, (pss_cons (ps_fld (pv 0) (pv 1) rfl)
  (pss_cons (ps_fld (pv 0) (pe_cal f_clear_of hr (by decide) pass0 (pa_cons (pv 1) pa_nil)) rfl)
  (pss_one (ps_fld (pv 0) (pe_lst pa_nil) rfl)))), ?_⟩
    walk_at "rd"
    refine w_sf ?_
    walk_at "rd"
    refine w_sfAt hx TC.kcl TC.kF rfl ?_
    have k1 : Same G (upd H x (.ins A.kept dx (putF "frame" vf []))) := fun b o e => by
      rw [upd_ne (ne_of_none e nx)]
      exact k b o e
    refine w_sf ?_
    walk_at "rd"
    refine ⟨G, fr, _, rfl, k1, hf, hl, ?_⟩
    intro v2 G2 H2 s2 r2
    walk_at "rd"
    have hx2 := s2.h _ _ (upd_same (H := H) (a := x) (o := .ins A.kept dx (putF "frame" vf [])))
    refine w_sfAt hx2 TC.kcl TC.kS rfl ?_
    have nx2 : G2 x = none := stp_none s2 nx upd_same
    refine w_sf ?_
    walk_at "rd"
    refine ⟨Nat.zero_le _, fun pl hpl => ?_⟩
    walk_at "rd"
    have npx : pl ≠ x := fun e => by
      rw [e, upd_same] at hpl
      cases hpl
    have hpl2 : H2 pl = none := by rw [upd_ne npx] at hpl; exact hpl
    refine w_sfAt (by rw [upd_ne (Ne.symm npx), upd_same]) TC.kcl TC.kP rfl ?_
    rw [kf_make]
    have npG : G2 pl = none := s2.k.free hpl2
    refine q pl G2 _ s2.g ⟨fun b o e => ?_, ⟨dx, vf, v2, [], upd_same, by rw [upd_ne npx, upd_same], up (R := RFrame) hf s2.g, r2, .nil⟩, nx2, npG⟩ (fun c o e hc => ?_) (fun c h1 h2 => ?_)
    · have n1 : b ≠ x := ne_of_none e nx2
      have n2 : b ≠ pl := ne_of_none e npG
      rw [upd_ne n1, upd_ne n2, upd_ne n1]
      exact s2.k b o e
    · have e1 : (upd H x (.ins A.kept dx (putF "frame" vf []))) c = some o := by rw [upd_ne hc]; exact e
      have e2 := s2.h _ _ e1
      have n2 : c ≠ pl := ne_of_none e2 hpl2
      rw [upd_ne hc, upd_ne n2, upd_ne hc]
      exact e2
    · obtain ⟨o, eo⟩ : ∃ o, H c = some o := Option.ne_none_iff_exists'.mp h1
      by_cases hc : c = x
      · subst hc
        exact nx2
      · exact stp_none s2 h2 (by rw [upd_ne hc]; exact eo)
def spPushRow (A : Adr) : Sp := fun vs H Q _ => ∃ (G : Hp) (ak pl : Addr) (fr : List Lay) (st st' : List Rod) (ms row : List Mv) (vr : V), vs = [.ref ak, vr] ∧ Kp A ak pl fr st ms G H ∧ RRow A G vr row ∧ st.length = fr.length ∧ fr.length ≤ 100 ∧ allM fr st row = some st' ∧ ms.length + row.length ≤ 1000 ∧
  ∀ G' H', Same G G' → Kp A ak pl fr st' (ms ++ row) G' H' → But2 ak pl H H' → (∀ c, H c ≠ none → G c = none → G' c = none) → Q .non H'
theorem ok_push_row (T : Bas K mg) (TC : Cla K mg A) (f_done_all : Cal P w K mg base (L2.CX P w) "done_all" ["frame", "standing", "row"] 4 (spDoneAll A)) (D : StdM K A.kept "push_row" "Kept.push_row" s_Kept_push_row ["self", "row"]) :
    Met P w K mg base CX0 A.kept "push_row" ["self", "row"] 5 (spPushRow A) := by
  refine D.met sc_Kept_push_row (fun vs H Q E h => ?_) (fun f cdv A0 outer s H vs Q E hr h => ?_)
  · obtain ⟨G, ak, pl, fr, st, st', ms, row, vr, rfl, _⟩ := h; rfl
  · obtain ⟨G, ak, pl, fr, st, st', ms, row, vr, rfl, ⟨k, ⟨dx, vf, vst, xs, hk, hp, rF, rS, rM⟩, na, np⟩, ⟨pr, xr, rfl, hrr, rr⟩, hl, hz, ea, hms, q⟩ := h
    refine ⟨_, (pss_cons (ps_fld (pv 0) (pe_cal f_done_all hr (by decide) passX (pa_cons (pe_fld (pv 0) rfl) (pa_cons (pe_fld (pv 0) rfl) (pa_cons (pv 1) pa_nil)))) rfl)
  (pss_one (ps_expr (pe_bm PySem.F.plainAttrs_list PySem.F.slot_list_extend PySem.F.type_list_extend mt_extend (pe_fld (pv 0) rfl) (pa_cons (pv 1) pa_nil))))), ?_⟩
    walk_at "rd"
    refine w_sf ?_
    walk_at "rd"
    refine w_fldAt hk TC.kcl TC.kF kf_f ?_
    walk_at "rd"
    refine w_fldAt hk TC.kcl TC.kS kf_s ?_
    walk_at "rd"
    refine ⟨G, fr, st, row, _, _, _, rfl, k, rF, rS, ⟨pr, xr, rfl, hrr, rr⟩, hl, hz, ?_, ?_⟩
    · intro s' es v2 G2 H2 s2 r2
      rw [ea] at es
      cases es
      walk_at "rd"
      have hk2 := s2.h _ _ hk
      have hp2 := s2.h _ _ hp
      have na2 := stp_none s2 na hk
      have np2 := stp_none s2 np hp
      refine w_sfAt hk2 TC.kcl TC.kS rfl ?_
      rw [kf_put]
      walk_at "rd"
      refine w_fldAt upd_same TC.kcl TC.kP kf_p ?_
      have nap : pl ≠ ak := fun e => by
        rw [e, hk] at hp
        cases hp
      have hp3 : (upd H2 ak (.ins A.kept dx (keptF vf v2 (.ref pl)))) pl = some (.lst xs) := by rw [upd_ne nap]; exact hp2
      refine w_tyL hp3 ?_
      walk_at "rd"
      have nr : pr ≠ ak := ne_of_none hrr na
      have nrp : pr ≠ pl := ne_of_none hrr np
      have hr3 : (upd H2 ak (.ins A.kept dx (keptF vf v2 (.ref pl)))) pr = some (.lst xr) := by rw [upd_ne nr]; exact s2.k _ _ (s2.g _ _ hrr)
      have lx := paired_len rM
      have lr := paired_len rr
      refine ⟨pl, pr, xs, xr, rfl, rfl, hp3, hr3, by rw [sizeLine_eq]; omega, ?_⟩
      walk_at "rd"
      refine q G2 _ s2.g ⟨fun b o e => ?_, ⟨dx, vf, v2, xs ++ xr, ?_, upd_same, up (R := RFrame) rF s2.g, r2, paired_app (paired_up s2.g rM) (paired_up s2.g rr)⟩, na2, np2⟩ (fun c o e h1 h2 => ?_) (fun c h1 h2 => ?_)
      · rw [upd_ne (ne_of_none e np2), upd_ne (ne_of_none e na2)]
        exact s2.k b o e
      · rw [upd_ne (Ne.symm nap), upd_same]
      · rw [upd_ne h2, upd_ne h1]
        exact s2.h _ _ e
      · obtain ⟨o, eo⟩ : ∃ o, H c = some o := Option.ne_none_iff_exists'.mp h1
        exact stp_none s2 h2 eo
    · intro en
      rw [ea] at en
      cases en
def spPull (A : Adr) : Sp := fun vs H Q _ => ∃ (G : Hp) (ak pl : Addr) (fr : List Lay) (st st' : List Rod) (ms : List Mv) (m : Mv), vs = [.ref ak] ∧ Kp A ak pl fr st (ms ++ [m]) G H ∧ st.length = fr.length ∧ fr.length ≤ 100 ∧ push fr st m.contra = some st' ∧
  ∀ G' H', Same G G' → Kp A ak pl fr st' ms G' H' → But2 ak pl H H' → (∀ c, H c ≠ none → G c = none → G' c = none) → Q .non H'
theorem ok_pull_back (T : Bas K mg) (TC : Cla K mg A) (t_contrary : ∀ k, Met P w K mg base CX0 (A.mv k) "contrary" ["self"] 3 (spCon A k)) (t_done : ∀ k, Met P w K mg base (L2N.CX P w) (A.mv k) "done" ["self", "frame", "standing"] 3 (spDone A k))
    (D : StdM K A.kept "pull_back" "Kept.pull_back" s_Kept_pull_back ["self"]) : Met P w K mg base CX0 A.kept "pull_back" ["self"] 5 (spPull A) := by
  refine D.met sc_Kept_pull_back (fun vs H Q E h => ?_) (fun f cdv A0 outer s H vs Q E hr h => ?_)
  · obtain ⟨G, ak, pl, fr, st, st', ms, m, rfl, _⟩ := h; rfl
  · obtain ⟨G, ak, pl, fr, st, st', ms, m, rfl, ⟨k, ⟨dx, vf, vst, xs, hk, hp, rF, rS, rM⟩, na, np⟩, hl, hz, ep, q⟩ := h
    have lx := paired_len rM
    have nap : pl ≠ ak := fun e => by
      rw [e, hk] at hp
      cases hp
    obtain ⟨v9, e9, r9⟩ := paired_at rM (i := ms.length) (a := m) (by simp)
    refine ⟨_, (pss_cons (ps_if (pt_cmpR (op_eqLen (hu1 hr)) (pe_fld (pv 0) rfl) (pe_lst pa_nil) (nomark _)) (pss_one ps_never) pss_nil)
  (pss_cons (ps_ex fun kk => ps_ex fun kj => (ps_fld (pv 0) (pe_met (t_done kj) hr (by decide) passN (pe_met0 (t_contrary kk) hr (by decide) pass0 (pe_ix ix_seq (pe_fld (pv 0) rfl) (pe_un un_neg pe_int) (fun _ _ => rfl))) (pa_cons (pe_fld (pv 0) rfl) (pa_cons (pe_fld (pv 0) rfl) pa_nil))) rfl))
  (pss_one (ps_expr (pe_bm0 PySem.F.plainAttrs_list PySem.F.slot_list_pop PySem.F.type_list_pop mt_pop (pe_fld (pv 0) rfl)))))), ?_⟩
    walk_at "rd"
    refine w_fldAt hk TC.kcl TC.kP kf_p ?_
    walk_at "rd"
    refine w_lstK k rfl fun p1 G1 H1 s1 hp1 _ => ?_
    have hk1 := s1.h _ _ hk
    have hpp1 := s1.h _ _ hp
    refine ⟨pl, p1, xs, [], rfl, rfl, SqL.of hpp1, SqL.of (s1.k _ _ hp1), by simp at lx ⊢; intro e; rw [e] at lx; simp at lx, ?_⟩
    walk_at "rd"
    refine ⟨m.k, m.k.contra, ?_⟩
    refine w_sf ?_
    walk_at "rd"
    refine w_fldAt hk1 TC.kcl TC.kP kf_p ?_
    walk_at "rd"
    have hat : atI xs (-1) = some v9 := by
      have hlen : xs.length = ms.length + 1 := by simpa using lx
      have e : atI xs (-1) = xs[ms.length]? := by
        unfold atI ixN
        rw [if_neg (by decide), if_pos (by omega)]
        show xs[_]? = _
        congr 1
        omega
      rw [e]
      exact e9
    refine g_ixL (SqL.of hpp1) hat ?_
    obtain ⟨a, dm, rfl, ha⟩ := up (R := RMv A) r9 s1.g
    refine ⟨a, dm, mvF m, rfl, s1.k _ _ ha, mv_no m (by decide +kernel) (by decide +kernel), ?_⟩
    walk_at "rd"
    refine ⟨G1, m, _, rfl, s1.k, ⟨a, dm, rfl, ha⟩, rfl, ?_⟩
    intro v2 G2 H2 s2 r2
    have s12 := s1.trans s2
    obtain ⟨a2, dm2, rfl, ha2⟩ := id r2
    refine ⟨a2, dm2, mvF m.contra, rfl, s2.k _ _ ha2, mv_no m.contra (by decide +kernel) (by decide +kernel), ?_⟩
    have hk2 := s2.h _ _ hk1
    walk_at "rd"
    refine w_fldAt hk2 TC.kcl TC.kF kf_f ?_
    walk_at "rd"
    refine w_fldAt hk2 TC.kcl TC.kS kf_s ?_
    walk_at "rd"
    refine ⟨G2, fr, st, m.contra, _, _, _, rfl, s2.k, r2, rfl, up (R := RFrame) rF s12.g, up (R := RStd) rS s12.g, hl, hz, ?_, ?_⟩
    · intro s' es v3 G3 H3 s3 r3
      rw [ep] at es
      cases es
      walk_at "rd"
      have s13 := s12.trans s3
      have hk3 := s13.h _ _ hk
      have hp3 := s13.h _ _ hp
      have na3 := stp_none s13 na hk
      have np3 := stp_none s13 np hp
      refine w_sfAt hk3 TC.kcl TC.kS rfl ?_
      rw [kf_put]
      walk_at "rd"
      refine w_fldAt upd_same TC.kcl TC.kP kf_p ?_
      have hp4 : (upd H3 ak (.ins A.kept dx (keptF vf v3 (.ref pl)))) pl = some (.lst xs) := by rw [upd_ne nap]; exact hp3
      refine w_tyL hp4 ?_
      have hlen : xs.length = ms.length + 1 := by simpa using lx
      refine ⟨pl, xs, _, rfl, rfl, hp4, (by rw [show xs.length - 1 = ms.length by omega]; exact e9), ?_⟩
      walk_at "rd"
      have rD : Paired (RMv A G3) xs.dropLast ms := by
        have r := paired_take ms.length (paired_up s13.g rM)
        rw [List.take_left'  rfl] at r
        rw [List.dropLast_eq_take, show xs.length - 1 = ms.length by omega]
        exact r
      refine q G3 _ s13.g ⟨fun b o e => ?_, ⟨dx, vf, v3, xs.dropLast, ?_, upd_same, up (R := RFrame) rF s13.g, r3, rD⟩, na3, np3⟩ (fun c o e h1 h2 => ?_) (fun c h1 h2 => ?_)
      · rw [upd_ne (ne_of_none e np3), upd_ne (ne_of_none e na3)]
        exact s3.k b o e
      · rw [upd_ne (Ne.symm nap), upd_same]
      · rw [upd_ne h2, upd_ne h1]
        exact s13.h _ _ e
      · obtain ⟨o, eo⟩ : ∃ o, H c = some o := Option.ne_none_iff_exists'.mp h1
        exact stp_none s13 h2 eo
    · intro en
      rw [ep] at en
      cases en
end
end BF
namespace BF
open PySem PySem.Spec PyProof.Rows L2 TL HotX
local macro_rules | `(tactic| walk_at "rd") => `(tactic| repeat (first
  | with_reducible refine w_var rfl ?_ | with_reducible refine w_c ?_ | with_reducible refine w_seq ?_ | with_reducible refine w_op ?_
  | with_reducible refine w_asg ?_ | with_reducible refine w_name ?_ | with_reducible refine w_ret ?_ | with_reducible refine w_drop ?_ | with_reducible refine w_next ?_
  | with_reducible refine w_if ?_ | with_reducible refine w_test ?_ | with_reducible refine w_B ?_ | with_reducible refine w_bl ?_ | with_reducible refine w_not ?_
  | with_reducible refine w_and ?_ | with_reducible refine w_or ?_ | with_reducible refine w_nil ?_ | with_reducible refine w_cons ?_ | with_reducible refine w_cb ?_
  | with_reducible refine w_chain ?_ | with_reducible refine w_call ?_ | with_reducible refine w_un ?_ | with_reducible refine w_neg ?_
  | with_reducible refine w_andV ?_ | with_reducible refine w_orV ?_ | with_reducible refine w_notV ?_ | with_reducible refine w_iteT ?_ | with_reducible refine w_iteF ?_ | with_reducible refine w_ntT ?_ | with_reducible refine w_ntF ?_
  | with_reducible refine g_add ?_ | with_reducible refine g_sub ?_ | with_reducible refine g_cmp ?_ | with_reducible refine g_eqI ?_ | with_reducible refine g_neI ?_ | with_reducible refine g_eqS ?_ | with_reducible refine g_neS ?_
  | with_reducible refine w_min ?_ | with_reducible refine w_max ?_ | with_reducible refine w_isN ?_ | with_reducible refine w_notN ?_ | with_reducible refine w_notSg ?_ | with_reducible refine w_gcons ?_ | with_reducible refine w_gnil ?_ | with_reducible refine w_sl ?_ | with_reducible refine w_noP ?_ | with_reducible refine w_part ?_ | with_reducible refine w_int1 ?_ | with_reducible refine w_tup ?_ | with_reducible refine w_lst ?_ | with_reducible refine g_intB ?_ | with_reducible refine w_fld ?_ | with_reducible refine w_meth ?_ | with_reducible refine w_make ?_
  | with_reducible refine w_lc ?_ | with_reducible refine w_for ?_ | with_reducible refine w_iL ?_ | with_reducible refine w_iT ?_ | with_reducible refine w_iS ?_ | with_reducible refine w_iRev ?_ | with_reducible refine w_iEn ?_ | with_reducible refine w_iZip ?_ | with_reducible refine w_iR1 ?_
  | with_reducible refine w_bm ?_ | with_reducible refine w_bm0 ?_ | with_reducible refine w_M1 ?_ | with_reducible refine w_isStr ?_
  | dsimp only))
local macro_rules | `(tactic| walk_at "same") => `(tactic| first | exact Same.refl _ | assumption | exact Stp.g (by assumption) | (refine Same.trans (Stp.g (by assumption)) ?_; walk_at "same"))
local macro_rules | `(tactic| walk_at "k") => `(tactic| first | assumption | exact Stp.k (by assumption) | exact Acc.k (by assumption))
local macro_rules | `(tactic| walk_at "stp") => `(tactic| first | assumption | exact Stp.refl (by walk_at "k") | (refine Stp.trans (by assumption) ?_; walk_at "stp"))
local macro_rules | `(tactic| walk_at "up") => `(tactic| first | assumption | exact up (by assumption) (by walk_at "same"))
local macro_rules | `(tactic| walk_at "gh") => `(tactic| first | assumption | exact Stp.k (by assumption) | (refine Same.trans (Stp.g (by assumption)) ?_; walk_at "gh"))
local macro_rules | `(tactic| walk_at "at") => `(tactic| first | assumption | exact at_ (by assumption) (by walk_at "gh"))
local macro_rules | `(tactic| walk_at "L") => `(tactic| exact SqL.of (by walk_at "at"))
local macro_rules | `(tactic| walk_at "T") => `(tactic| exact SqT.of (by walk_at "at"))
local macro_rules | `(tactic| walk_at "o1") => `(tactic| first | with_reducible refine w_yes (by first | assumption | omega) ?_ | with_reducible refine w_no (by first | assumption | omega) ?_ | with_reducible refine w_yesN (by first | assumption | omega) ?_ | with_reducible refine w_noN (by first | assumption | omega) ?_)
local macro_rules | `(tactic| walk_at "o") => `(tactic| (walk_at "rd"; repeat (walk_at "o1"; walk_at "rd")))

theorem w_iZipTL {K : PySem.W.Frag} {ta : TA} {σ : L2.St} {H : Hp} {R : It → Hp → Prop} (h : ta σ H fun vs H1 => ∃ a b xs ys, vs = [.ref a, .ref b] ∧ SqT K H1 a xs ∧ SqL K H1 b ys ∧ R (ItzG (fun H xs => SqT K H a xs) (fun H ys => SqL K H b ys)) H1) : iZipTL K ta σ H R := h
/-- the written dict of shapes -/
structure Shp (K : PySem.W.Frag) (w : World) (mg : Str → Option Value) (d : Addr) (es : Array DictEntry) (n : Nat) (pS pB : Addr) : Prop where
  kd : KDict K w d es n
  g : GC mg "SHAPES_desk" (.ref d)
  shI : ∃ u, PySem.W.nsIn K d "shows" = some (some u)
  bkI : ∃ u, PySem.W.nsIn K d "back" = some (some u)
  sh : KDct K w d "shows" (.ref pS)
  bk : KDct K w d "back" (.ref pB)
  tS : ∀ H, SqT K H pS [.str "name"]
  tB : ∀ H, SqT K H pB [.str "name"]
section
variable {P : Program} {w : World} {K : PySem.W.Frag} {mg : Str → Option Value} {base : Heap} {A : Adr} {fI : Addr} {fd : FuncData}
def spFits : Sp := fun vs H Q _ => ∃ z : Str, vs = [.str "name", .str z] ∧ OkName z ∧ Q (.bl true) H
theorem ok_word_fits (T : Bas K mg) (f_is_name : Cal P w K mg base CX0 "is_name" ["word"] 1 spIsName) (D : Std K mg "word_fits" "word_fits" "word_fits" s_word_fits ["kind", "word"]) : Cal P w K mg base CX0 "word_fits" ["kind", "word"] 2 spFits := by
  refine D.cal sc_word_fits (fun vs H Q E h => ?_) (fun f cdv A outer s H vs Q E hr h => ?_)
  · obtain ⟨z, rfl, _⟩ := h; rfl
  · obtain ⟨z, rfl, o, q⟩ := h
    refine ⟨_, (pss_cons (ps_if (pt_cmpR (opEq hr) (pv 0) pe_str (nomark _)) (pss_one (ps_ret (pe_cal f_is_name hr (by decide) pass0 (pa_cons (pv 1) pa_nil)))) pss_nil)
  (pss_cons (ps_if (pt_cmpR (opEq hr) (pv 0) pe_str (nomark _)) (pss_one ps_never) pss_nil)
  (pss_one ps_never))), ?_⟩
    walk_at "rd"
    refine w_yes rfl ?_
    walk_at "rd"
    exact ⟨z, rfl, o.l0, o.l1, o.ab, q⟩
def spLook (K : PySem.W.Frag) : Sp := fun vs H Q _ => ∃ (G : Hp) (pw p : Addr) (z : Str), vs = [.ref pw, .ref p] ∧ Same G H ∧ G pw = some (.lst [.str z]) ∧ (∀ H, SqT K H p [.str "name"]) ∧ OkName z ∧ ∀ G' H', Stp G H G' H' → Q .non H'
theorem ok_look_at (T : Bas K mg) (f_word_fits : Cal P w K mg base CX0 "word_fits" ["kind", "word"] 2 spFits) (D : Std K mg "look_at" "look_at" "look_at" s_look_at ["words", "shape"]) : Cal P w K mg base CX0 "look_at" ["words", "shape"] 3 (spLook K) := by
  refine D.cal sc_look_at (fun vs H Q E h => ?_) (fun f cdv A outer s H vs Q E hr h => ?_)
  · obtain ⟨G, pw, p, z, rfl, _⟩ := h; rfl
  · obtain ⟨G, pw, p, z, rfl, k, hw, ht, o, q⟩ := h
    refine ⟨_, (pss_cons (ps_if (pt_cmpR (opNe hr) (pe_callB callLen (by rfl) T.z_len PySem.boot_len (pa_cons (pv 0) pa_nil)) (pe_callB callLen (by rfl) T.z_len PySem.boot_len (pa_cons (pv 1) pa_nil)) (nomark _)) (pss_one ps_never) pss_nil)
  (pss_one (ps_for PassesOwn.never rfl (pi_zipTL (by rfl) T.z_zip (pa_cons (pv 1) (pa_cons (pv 0) pa_nil))) (pg_tup rfl (pgs_cons (pg_name (i := 2) sc_look_at.nd rfl (by first | exact Or.inl rfl | exact Or.inr rfl)) (pgs_cons (pg_name (i := 3) sc_look_at.nd rfl (by first | exact Or.inl rfl | exact Or.inr rfl)) pgs_nil)))
  (pss_one (ps_if (pt_not (pt_val (pe_cal f_word_fits hr (by decide) pass0 (pa_cons (pv 2) (pa_cons (pv 3) pa_nil))))) (pss_one ps_never) pss_nil))))), ?_⟩
    walk_at "rd"
    refine w_lenL (by walk_at "L") ?_
    walk_at "rd"
    refine w_lenT (ht _) ?_
    walk_at "rd"
    refine w_noN rfl ?_
    walk_at "rd"
    refine w_iZipTL ?_
    walk_at "rd"
    refine ⟨p, pw, _, _, rfl, ht _, by walk_at "L", ?_⟩
    refine for_go (walk_zipG (xs := [.str "name"]) (ys := [V.str z]) rfl) (fun i σ H' => ∃ G' o2 o3, Stp G H G' H' ∧ σ = [some (.ref pw), some (.ref p), o2, o3]) ⟨G, none, none, Stp.refl k, rfl⟩ (fun i σ H' _ hh => ?_) ?_ ?_
    · obtain ⟨G', o2, o3, s, _⟩ := hh
      exact ⟨ht _, SqL.of (s.k _ _ (s.g _ _ hw))⟩
    · rintro i x σ H1 H1' hi ⟨G1, o2, o3, s1, rfl⟩ hY
      obtain ⟨T2, va, vb, G2, rfl, s2, hT, e1, e2⟩ := y_pair s1.k hY
      have hi0 : i = 0 := by simpa using hi
      subst hi0
      cases e1
      cases e2
      walk_at "rd"
      refine w_gtup (by walk_at "T") rfl ?_
      walk_at "rd"
      refine ⟨z, rfl, o, ?_⟩
      refine w_bl ?_
      walk_at "rd"
      exact ⟨G2, _, _, s1.trans s2, rfl⟩
    · rintro σ H' ⟨G', o2, o3, s, rfl⟩
      exact q G' H' s
/-! ### Desk objects -/
/-- a Desk at D, its dict at dd, one frame by the name nm: a Kept object at ak -/
structure Dk (A : Adr) (D dd ak pl : Addr) (nm : Str) (fr : List Lay) (st : List Rod) (ms : List Mv) (G H : Hp) : Prop where
  kp : Kp A ak pl fr st ms G H
  dk : ∃ dx, H D = some (.ins A.desk dx [("held", .ref dd)])
  di : H dd = some (.dK [(.inr nm, .ref ak)])
  nD : G D = none
  nd : G dd = none
theorem Dk.step {D dd ak pl : Addr} {nm : Str} {fr : List Lay} {st : List Rod} {ms : List Mv} {G H G' H' : Hp} (x : Dk A D dd ak pl nm fr st ms G H) (s : Stp G H G' H') : Dk A D dd ak pl nm fr st ms G' H' := by
  obtain ⟨kp, ⟨dx, h1⟩, h2, n1, n2⟩ := x
  exact ⟨kp.step s, ⟨dx, s.h _ _ h1⟩, s.h _ _ h2, stp_none s n1 h1, stp_none s n2 h2⟩
theorem Dk.change {D dd ak pl : Addr} {nm : Str} {fr : List Lay} {st st' : List Rod} {ms ms' : List Mv} {G H G' H' : Hp} (x : Dk A D dd ak pl nm fr st ms G H) (kp : Kp A ak pl fr st' ms' G' H') (b : But2 ak pl H H') (n : ∀ c, H c ≠ none → G c = none → G' c = none) :
    Dk A D dd ak pl nm fr st' ms' G' H' := by
  obtain ⟨⟨_, ⟨dx0, vf, vst, xs, h3, h4, _⟩, _, _⟩, ⟨dx, h1⟩, h2, n1, n2⟩ := x
  have d1 : D ≠ ak := by
    rintro rfl
    rw [h1] at h3
    injection h3 with h3
    injection h3 with _ _ h3
    simp [keptF] at h3
  have d2 : D ≠ pl := by
    rintro rfl
    rw [h1] at h4
    cases h4
  have d3 : dd ≠ ak := by
    rintro rfl
    rw [h2] at h3
    cases h3
  have d4 : dd ≠ pl := by
    rintro rfl
    rw [h2] at h4
    cases h4
  exact ⟨kp, ⟨dx, b _ _ h1 d1 d2⟩, b _ _ h2 d3 d4, n D (by rw [h1]; simp) n1, n dd (by rw [h2]; simp) n2⟩
theorem held_at {dd : Addr} : ([("held", V.ref dd)] : List (Str × V)).lookup ("held" : Str) = some (.ref dd) := by simp [List.lookup]
theorem held_no {dd : Addr} {x : Str} (h : (x == ("held" : Str)) = false) : ([("held", V.ref dd)] : List (Str × V)).lookup x = none := by simp [List.lookup, h]
def spDeskI (A : Adr) : Sp := fun vs H Q _ => ∃ (x dx : Addr), vs = [.ref x] ∧ H x = some (.ins A.desk dx []) ∧ ∀ dd, H dd = none → Q .non (upd (upd H dd (.dK [])) x (.ins A.desk dx [("held", .ref dd)]))
theorem ok_desk_init (T : Bas K mg) (TC : Cla K mg A) (D : StdI K mg "Desk" A.desk "Desk.__init__" s_Desk_init ["self"]) : Mkr P w K mg base CX0 "Desk" A.desk ["self"] 1 (spDeskI A) := by
  refine D.mkr sc_Desk_init (fun vs H Q E h => ?_) (fun f cdv A0 outer s H vs Q E hr h => ?_)
  · obtain ⟨x, dx, rfl, _⟩ := h; rfl
  · obtain ⟨x, dx, rfl, hx, q⟩ := h
    refine ⟨_, (pss_one (ps_fld (pv 0) pe_dnewK rfl)), ?_⟩
    walk_at "rd"
    refine w_sf ?_
    refine fun dd hdd => ?_
    walk_at "rd"
    refine w_sfAt (by rw [upd_ne (ne_of_none hx hdd)]; exact hx) TC.dcl TC.dH rfl ?_
    exact q dd hdd
def spDKept (A : Adr) : Sp := fun vs H Q _ => ∃ (D dx dd ak : Addr) (nm : Str), vs = [.ref D, .str nm] ∧ H D = some (.ins A.desk dx [("held", .ref dd)]) ∧ H dd = some (.dK [(.inr nm, .ref ak)]) ∧ Q (.ref ak) H
theorem w_dnotin {ty td : TE} {σ : L2.St} {H : Hp} {Q : VK} (h : ty σ H fun y H1 => td σ H1 fun x H2 => ∃ a o, x = .ref a ∧ DGet H2 a y o ∧ Q (.bl (!o.isSome)) H2) : tDNotIn ty td σ H Q := h
theorem w_dget {ty td : TE} {σ : L2.St} {H : Hp} {Q : VK} (h : td σ H fun x H1 => ty σ H1 fun y H2 => ∃ a v, x = .ref a ∧ DGet H2 a y (some v) ∧ Q v H2) : tDGet td ty σ H Q := h
theorem one_get {nm : Str} {v : V} : valV ([(.inr nm, v)] : List (Key × V)) (.inr nm) = some v := by simp [valV]
theorem ok_desk_kept (T : Bas K mg) (TC : Cla K mg A) (D : StdM K A.desk "kept" "Desk.kept" s_Desk_kept ["self", "name"]) : Met P w K mg base CX0 A.desk "kept" ["self", "name"] 1 (spDKept A) := by
  refine D.met sc_Desk_kept (fun vs H Q E h => ?_) (fun f cdv A0 outer s H vs Q E hr h => ?_)
  · obtain ⟨D, dx, dd, ak, nm, rfl, _⟩ := h; rfl
  · obtain ⟨D, dx, dd, ak, nm, rfl, hD, hd, q⟩ := h
    refine ⟨_, (pss_cons (ps_if (pt_cmp (pc_dnotin (hu_of hr) (pv 1) (pe_fld (pv 0) rfl))) (pss_one ps_never) pss_nil)
  (pss_one (ps_ret (pe_dget (hu_of hr) (pe_fld (pv 0) rfl) (pv 1) (fun _ _ => rfl))))), ?_⟩
    walk_at "rd"
    refine w_dnotin ?_
    walk_at "rd"
    refine w_fldAt hD TC.dcl TC.dH held_at ?_
    refine ⟨dd, _, rfl, DGet.k (k := .inr nm) hd, ?_⟩
    rw [one_get]
    refine w_bl ?_
    refine w_ntT ?_
    walk_at "rd"
    refine w_dget ?_
    walk_at "rd"
    refine w_fldAt hD TC.dcl TC.dH held_at ?_
    walk_at "rd"
    refine ⟨dd, .ref ak, rfl, ?_, q⟩
    have g := DGet.k (k := .inr nm) hd
    rw [one_get] at g
    exact g
end
end BF
namespace BF
open PySem PySem.Spec PyProof.Rows L2 TL HotX
local macro_rules | `(tactic| walk_at "rd") => `(tactic| repeat (first
  | with_reducible refine w_var rfl ?_ | with_reducible refine w_c ?_ | with_reducible refine w_seq ?_ | with_reducible refine w_op ?_
  | with_reducible refine w_asg ?_ | with_reducible refine w_name ?_ | with_reducible refine w_ret ?_ | with_reducible refine w_drop ?_ | with_reducible refine w_next ?_
  | with_reducible refine w_if ?_ | with_reducible refine w_test ?_ | with_reducible refine w_B ?_ | with_reducible refine w_bl ?_ | with_reducible refine w_not ?_
  | with_reducible refine w_and ?_ | with_reducible refine w_or ?_ | with_reducible refine w_nil ?_ | with_reducible refine w_cons ?_ | with_reducible refine w_cb ?_
  | with_reducible refine w_chain ?_ | with_reducible refine w_call ?_ | with_reducible refine w_un ?_ | with_reducible refine w_neg ?_
  | with_reducible refine w_andV ?_ | with_reducible refine w_orV ?_ | with_reducible refine w_notV ?_ | with_reducible refine w_iteT ?_ | with_reducible refine w_iteF ?_ | with_reducible refine w_ntT ?_ | with_reducible refine w_ntF ?_
  | with_reducible refine g_add ?_ | with_reducible refine g_sub ?_ | with_reducible refine g_cmp ?_ | with_reducible refine g_eqI ?_ | with_reducible refine g_neI ?_ | with_reducible refine g_eqS ?_ | with_reducible refine g_neS ?_
  | with_reducible refine w_min ?_ | with_reducible refine w_max ?_ | with_reducible refine w_isN ?_ | with_reducible refine w_notN ?_ | with_reducible refine w_notSg ?_ | with_reducible refine w_gcons ?_ | with_reducible refine w_gnil ?_ | with_reducible refine w_sl ?_ | with_reducible refine w_noP ?_ | with_reducible refine w_part ?_ | with_reducible refine w_int1 ?_ | with_reducible refine w_tup ?_ | with_reducible refine w_lst ?_ | with_reducible refine g_intB ?_ | with_reducible refine w_fld ?_ | with_reducible refine w_meth ?_ | with_reducible refine w_make ?_
  | with_reducible refine w_lc ?_ | with_reducible refine w_for ?_ | with_reducible refine w_iL ?_ | with_reducible refine w_iT ?_ | with_reducible refine w_iS ?_ | with_reducible refine w_iRev ?_ | with_reducible refine w_iEn ?_ | with_reducible refine w_iZip ?_ | with_reducible refine w_iR1 ?_
  | with_reducible refine w_bm ?_ | with_reducible refine w_bm0 ?_ | with_reducible refine w_M1 ?_ | with_reducible refine w_isStr ?_
  | dsimp only))
local macro_rules | `(tactic| walk_at "same") => `(tactic| first | exact Same.refl _ | assumption | exact Stp.g (by assumption) | (refine Same.trans (Stp.g (by assumption)) ?_; walk_at "same"))
local macro_rules | `(tactic| walk_at "k") => `(tactic| first | assumption | exact Stp.k (by assumption) | exact Acc.k (by assumption))
local macro_rules | `(tactic| walk_at "stp") => `(tactic| first | assumption | exact Stp.refl (by walk_at "k") | (refine Stp.trans (by assumption) ?_; walk_at "stp"))
local macro_rules | `(tactic| walk_at "up") => `(tactic| first | assumption | exact up (by assumption) (by walk_at "same"))
local macro_rules | `(tactic| walk_at "gh") => `(tactic| first | assumption | exact Stp.k (by assumption) | (refine Same.trans (Stp.g (by assumption)) ?_; walk_at "gh"))
local macro_rules | `(tactic| walk_at "at") => `(tactic| first | assumption | exact at_ (by assumption) (by walk_at "gh"))
local macro_rules | `(tactic| walk_at "L") => `(tactic| exact SqL.of (by walk_at "at"))
local macro_rules | `(tactic| walk_at "T") => `(tactic| exact SqT.of (by walk_at "at"))
local macro_rules | `(tactic| walk_at "o1") => `(tactic| first | with_reducible refine w_yes (by first | assumption | omega) ?_ | with_reducible refine w_no (by first | assumption | omega) ?_ | with_reducible refine w_yesN (by first | assumption | omega) ?_ | with_reducible refine w_noN (by first | assumption | omega) ?_)
local macro_rules | `(tactic| walk_at "o") => `(tactic| (walk_at "rd"; repeat (walk_at "o1"; walk_at "rd")))

theorem w_dput {td ty tv : TE} {D : Ends} {σ : L2.St} {H : Hp} (h : tv σ H fun v H1 => td σ H1 fun x H2 => ty σ H2 fun y H3 => ∃ a H4, x = .ref a ∧ DPut H3 a y v H4 ∧ D.nx σ H4) : sDPut td ty tv D σ H := h
section
variable {P : Program} {w : World} {K : PySem.W.Frag} {mg : Str → Option Value} {base : Heap} {A : Adr} {fI : Addr} {fd : FuncData}
def spLay (A : Adr) : Sp := fun vs H Q _ => ∃ (G : Hp) (D dx dd : Addr) (nm : Str) (fr : List Lay) (vw : V), vs = [.ref D, vw] ∧ Same G H ∧ H D = some (.ins A.desk dx [("held", .ref dd)]) ∧ H dd = some (.dK []) ∧ G D = none ∧ G dd = none ∧
  RLst (RV V.str) G vw (nm :: fr.reverse.map Lay.text) ∧ OkName nm ∧ (∀ y ∈ fr, OkLay y) ∧ 1 ≤ fr.length ∧ fr.length ≤ 20 ∧ ∀ ak pl G' H', Same G G' → Dk A D dd ak pl nm fr (List.replicate fr.length (0, 0)) [] G' H' → Q (.str "ok") H'
theorem lay_pos {y : Lay} (o : OkLay y) : y.text ≠ "" := fun e => by
  have e0 : ("" : Str).length = 0 := by decide +kernel
  have h1 := num_len (n := y.u) o.u0 (by have := o.u1; omega)
  have e1 := congrArg Str.length e
  unfold Lay.text at e1
  simp only [app_len, e0] at e1
  omega
theorem ok_desk_lay (T : Bas K mg) (TC : Cla K mg A) (f_is_name : Cal P w K mg base CX0 "is_name" ["word"] 1 spIsName) (f_read_layout : Cal P w K mg base CX0 "read_layout" ["text"] 3 spRdLay) (m_Kept : Mkr P w K mg base CX0 "Kept" A.kept ["self", "frame"] 2 (spKeptI A))
    (D : StdM K A.desk "lay" "Desk.lay" s_Desk_lay ["self", "words"]) : Met P w K mg base CX0 A.desk "lay" ["self", "words"] 4 (spLay A) := by
  refine D.met sc_Desk_lay (fun vs H Q E h => ?_) (fun f cdv A0 outer s H vs Q E hr h => ?_)
  · obtain ⟨G, D, dx, dd, nm, fr, vw, rfl, _⟩ := h; rfl
  · obtain ⟨G, D, dx, dd, nm, fr, vw, rfl, k, hD, hd, nD, nd, ⟨pw, xw, rfl, hw, rw'⟩, o, ol, l1, l2, q⟩ := h
    have ew := paired_fl rw'
    subst ew
    refine ⟨_, (pss_cons (ps_if (PW.pt (pw_or (pt_not (pt_chain op_le op_le pe_int (pe_callB callLen (by rfl) T.z_len PySem.boot_len (pa_cons (pv 1) pa_nil)) (pe_op opAdd (pe_gc T.c_MOST_RODS_desk) pe_int))) (pw_or (pt_not (pt_val (pe_cal f_is_name hr (by decide) pass0 (pa_cons (pe_ix ix_seq (pv 1) pe_int (fun _ _ => rfl)) pa_nil)))) (pw_or1 (pt_cmpR op_in_seq pe_str (pv 1) (by rfl)))))) (pss_one ps_never) pss_nil)
  (pss_cons (ps_dput (hu_of hr) (pe_fld (pv 0) rfl) (pe_ix ix_seq (pv 1) pe_int (fun _ _ => rfl)) (pe_mkr m_Kept hr (by decide) pass0 (pa_cons (pe_lc (own := [("word", 2)]) (g := gName 2) (tt := tYes) rfl sc_Desk_lay.nd (pi_reversed (by rfl) T.z_reversed (pa_cons (pe_slice sl_list (pv 1) (po_some pe_int) po_none) pa_nil)) (blkOk_by (own := [("word", 2)]) (N := N_Desk_lay) (sc := defScope s_Desk_lay) (by decide +kernel)) (fun _ _ _ _ _ => (pg_name (i := 2) sc_Desk_lay.nd rfl (by first | exact Or.inl rfl | exact Or.inr rfl))) (fun _ _ _ _ _ => pts_nil) (fun _ _ _ _ _ => (pe_cal f_read_layout hr (by decide) pass0 (pa_cons (pv 2) pa_nil)))) pa_nil)) rfl)
  (pss_one (ps_ret pe_str)))), ?_⟩
    have hlen : ((nm :: fr.reverse.map Lay.text).map V.str).length = fr.length + 1 := by simp
    walk_at "rd"
    refine w_lenL (by walk_at "L") ?_
    walk_at "rd"
    refine w_yes (by rw [hlen]; omega) ?_
    refine w_op ?_
    walk_at "rd"
    refine w_noN (by rw [hlen]; omega) ?_
    walk_at "rd"
    refine w_ixL (i := 0) (by walk_at "L") rfl ?_
    walk_at "rd"
    refine ⟨nm, rfl, o.l0, o.l1, o.ab, ?_⟩
    refine w_bl ?_
    walk_at "rd"
    refine w_inL (by walk_at "L") rfl ?_ (b := false) ?_ ?_
    · simp [flatV]
    · unfold inV
      rw [List.any_eq_false]
      intro x hx
      obtain ⟨z, hz, rfl⟩ := List.mem_map.mp hx
      have hz' : z ≠ "" := by
        rcases List.mem_cons.mp hz with rfl | hz
        · exact name_ne o
        · obtain ⟨y, hy, rfl⟩ := List.mem_map.mp hz
          exact lay_pos (ol y (List.mem_reverse.mp hy))
      have hz2 : ¬ (V.str z = V.str "") := fun e => hz' (by injection e)
      simp [eqV, hz2]
      try exact hz'
    walk_at "rd"
    refine w_dput ?_
    walk_at "rd"
    refine w_slDrop (i := 1) (by walk_at "k") (by walk_at "L") (by rw [hlen]; omega) fun p1 G1 H1 s1 hp1 _ => ?_
    have ed : ((nm :: fr.reverse.map Lay.text).map V.str).drop 1 = (fr.reverse.map Lay.text).map V.str := rfl
    rw [ed] at hp1
    refine ⟨p1, _, rfl, SqL.of (s1.k _ _ hp1), ?_⟩
    have l3 : ((fr.reverse.map Lay.text).map V.str).length = fr.length := by simp
    refine lc_map (R := RLay) (walk_rev (xs := (fr.reverse.map Lay.text).map V.str)) s1.k (fun i => fr.getD i ⟨0, 1, 1, 2⟩) (by rw [l3]; omega) (fun G' H' g k' => SqL.of (k' _ _ (g _ _ hp1))) (fun i x G5 H5 H6 C hi g5 k5 hY hC => ?_) (fun pr xr G7 H7 s7 hpr rr => ?_)
    · obtain ⟨rfl, hx⟩ := hY
      rw [l3] at hi
      have hx' : x = .str fr[i].text := by
        rw [l3, List.getElem?_map, List.getElem?_map, List.getElem?_reverse (by omega), show fr.length - 1 - (fr.length - 1 - i) = i by omega, List.getElem?_eq_getElem hi] at hx
        simpa using hx.symm
      subst hx'
      walk_at "rd"
      refine ⟨wipe1, ?_⟩
      walk_at "rd"
      refine ⟨G5, fr[i], rfl, k5, ol _ (List.getElem_mem hi), fun v' G' H' s' r' => hC v' G' H' s' ?_⟩
      rw [List.getD_eq_getElem?_getD, List.getElem?_eq_getElem hi]
      exact r'
    · have e : (List.range ((fr.reverse.map Lay.text).map V.str).length).map (fun i => fr.getD i ⟨0, 1, 1, 2⟩) = fr := by
        have := map_range fr ⟨0, 1, 1, 2⟩ id
        simp only [id, List.map_id_fun'] at this
        rw [l3]
        simpa using this
      rw [e] at rr
      have s17 := s1.trans s7
      have hD7 := s17.h _ _ hD
      have hd7 := s17.h _ _ hd
      have nD7 := stp_none s17 nD hD
      have nd7 := stp_none s17 nd hd
      walk_at "rd"
      intro x dxx hx hdx ne
      have nx : G7 x = none := s7.k.free hx
      have ndx : G7 dxx = none := s7.k.free hdx
      refine ⟨G7, x, dxx, fr, _, rfl, fun b u e => ?_, upd_same, nx, ⟨pr, xr, rfl, hpr, rr⟩, by omega, ?_⟩
      · rw [upd_ne (ne_of_none e nx), upd_ne (ne_of_none e ndx)]
        exact s7.k b u e
      · intro pl G8 H8 g8 kp8 b8 n8
        have low : ∀ {c : Addr} {u : HO}, H7 c = some u → H8 c = some u := fun {c u} e => by
          have h1 : c ≠ x := ne_of_none e hx
          have h2 : c ≠ dxx := ne_of_none e hdx
          exact b8 c u (by rw [upd_ne h1, upd_ne h2]; exact e) h1
        have nn : ∀ {c : Addr} {u : HO}, H7 c = some u → G7 c = none → G8 c = none := fun {c u} e n => by
          have h1 : c ≠ x := ne_of_none e hx
          have h2 : c ≠ dxx := ne_of_none e hdx
          exact n8 c (by rw [upd_ne h1, upd_ne h2, e]; simp) n
        refine ⟨rfl, ?_⟩
        walk_at "rd"
        refine w_fldAt (low hD7) TC.dcl TC.dH held_at ?_
        walk_at "rd"
        have hw8 := g8 _ _ (s7.g _ _ (s1.g _ _ hw))
        refine w_ixL (i := 0) (SqL.of (kp8.k _ _ hw8)) rfl ?_
        refine ⟨dd, _, rfl, DPut.k (k := .inr nm) (low hd7) (by show 0 < sizeLine; rw [sizeLine_eq]; omega), ?_⟩
        walk_at "rd"
        obtain ⟨k8, ⟨d8, vf, vst, xs, h81, h82, r81, r82, r83⟩, n81, n82⟩ := kp8
        have hd8 := low hd7
        have nd8 := nn hd7 nd7
        have e1 : x ≠ dd := by
          rintro rfl
          rw [hd8] at h81
          cases h81
        have e2 : pl ≠ dd := by
          rintro rfl
          rw [hd8] at h82
          cases h82
        have e3 : D ≠ dd := by
          rintro rfl
          rw [hd] at hD
          cases hD
        refine q x pl G8 _ ((s17.g).trans g8) ⟨⟨fun b u e => ?_, ⟨d8, vf, vst, xs, ?_, ?_, r81, r82, r83⟩, n81, n82⟩, ⟨dx, ?_⟩, ?_, nn hD7 nD7, nd8⟩
        · rw [upd_ne (ne_of_none e nd8)]
          exact k8 b u e
        · rw [upd_ne e1]
          exact h81
        · rw [upd_ne e2]
          exact h82
        · rw [upd_ne e3]
          exact low hD7
        · rw [upd_same]
          rfl
end
end BF
namespace BF
open PySem PySem.Spec PyProof.Rows L2 TL HotX
local macro_rules | `(tactic| walk_at "rd") => `(tactic| repeat (first
  | with_reducible refine w_var rfl ?_ | with_reducible refine w_c ?_ | with_reducible refine w_seq ?_ | with_reducible refine w_op ?_
  | with_reducible refine w_asg ?_ | with_reducible refine w_name ?_ | with_reducible refine w_ret ?_ | with_reducible refine w_drop ?_ | with_reducible refine w_next ?_
  | with_reducible refine w_if ?_ | with_reducible refine w_test ?_ | with_reducible refine w_B ?_ | with_reducible refine w_bl ?_ | with_reducible refine w_not ?_
  | with_reducible refine w_and ?_ | with_reducible refine w_or ?_ | with_reducible refine w_nil ?_ | with_reducible refine w_cons ?_ | with_reducible refine w_cb ?_
  | with_reducible refine w_chain ?_ | with_reducible refine w_call ?_ | with_reducible refine w_un ?_ | with_reducible refine w_neg ?_
  | with_reducible refine w_andV ?_ | with_reducible refine w_orV ?_ | with_reducible refine w_notV ?_ | with_reducible refine w_iteT ?_ | with_reducible refine w_iteF ?_ | with_reducible refine w_ntT ?_ | with_reducible refine w_ntF ?_
  | with_reducible refine g_add ?_ | with_reducible refine g_sub ?_ | with_reducible refine g_cmp ?_ | with_reducible refine g_eqI ?_ | with_reducible refine g_neI ?_ | with_reducible refine g_eqS ?_ | with_reducible refine g_neS ?_
  | with_reducible refine w_min ?_ | with_reducible refine w_max ?_ | with_reducible refine w_isN ?_ | with_reducible refine w_notN ?_ | with_reducible refine w_notSg ?_ | with_reducible refine w_gcons ?_ | with_reducible refine w_gnil ?_ | with_reducible refine w_sl ?_ | with_reducible refine w_noP ?_ | with_reducible refine w_part ?_ | with_reducible refine w_int1 ?_ | with_reducible refine w_tup ?_ | with_reducible refine w_lst ?_ | with_reducible refine g_intB ?_ | with_reducible refine w_fld ?_ | with_reducible refine w_meth ?_ | with_reducible refine w_make ?_
  | with_reducible refine w_lc ?_ | with_reducible refine w_for ?_ | with_reducible refine w_iL ?_ | with_reducible refine w_iT ?_ | with_reducible refine w_iS ?_ | with_reducible refine w_iRev ?_ | with_reducible refine w_iEn ?_ | with_reducible refine w_iZip ?_ | with_reducible refine w_iR1 ?_
  | with_reducible refine w_bm ?_ | with_reducible refine w_bm0 ?_ | with_reducible refine w_M1 ?_ | with_reducible refine w_isStr ?_
  | dsimp only))
local macro_rules | `(tactic| walk_at "same") => `(tactic| first | exact Same.refl _ | assumption | exact Stp.g (by assumption) | (refine Same.trans (Stp.g (by assumption)) ?_; walk_at "same"))
local macro_rules | `(tactic| walk_at "k") => `(tactic| first | assumption | exact Stp.k (by assumption) | exact Acc.k (by assumption))
local macro_rules | `(tactic| walk_at "stp") => `(tactic| first | assumption | exact Stp.refl (by walk_at "k") | (refine Stp.trans (by assumption) ?_; walk_at "stp"))
local macro_rules | `(tactic| walk_at "up") => `(tactic| first | assumption | exact up (by assumption) (by walk_at "same"))
local macro_rules | `(tactic| walk_at "gh") => `(tactic| first | assumption | exact Stp.k (by assumption) | (refine Same.trans (Stp.g (by assumption)) ?_; walk_at "gh"))
local macro_rules | `(tactic| walk_at "at") => `(tactic| first | assumption | exact at_ (by assumption) (by walk_at "gh"))
local macro_rules | `(tactic| walk_at "L") => `(tactic| exact SqL.of (by walk_at "at"))
local macro_rules | `(tactic| walk_at "T") => `(tactic| exact SqT.of (by walk_at "at"))
local macro_rules | `(tactic| walk_at "o1") => `(tactic| first | with_reducible refine w_yes (by first | assumption | omega) ?_ | with_reducible refine w_no (by first | assumption | omega) ?_ | with_reducible refine w_yesN (by first | assumption | omega) ?_ | with_reducible refine w_noN (by first | assumption | omega) ?_)
local macro_rules | `(tactic| walk_at "o") => `(tactic| (walk_at "rd"; repeat (walk_at "o1"; walk_at "rd")))

theorem w_repl {to : TE} {y z : Str} {σ : L2.St} {H : Hp} {Q : VK} (h : to σ H fun v H1 => ∃ x, v = .str x ∧ x.length + (x.length + 1) * z.length ≤ 16777216 ∧ Q (.str (Txt.replace x y z)) H1) : CwR.tReplC to y z σ H Q := h
theorem wipe3 {σ : L2.St} {i j k : Nat} {o u v : Option V} : wipe ((((wipe σ [i, j, k]).set i o).set j u).set k v) [i, j, k] = wipe σ [i, j, k] := by
  show ((((((((σ.set k none).set j none).set i none).set i o).set j u).set k v).set k none).set j none).set i none = ((σ.set k none).set j none).set i none
  refine List.ext_getElem? fun n => ?_
  simp only [List.getElem?_set, List.length_set]
  by_cases e1 : i = n
  · simp [e1]
  · by_cases e2 : j = n
    · simp [e1, e2]
    · by_cases e3 : k = n <;> simp [e1, e2, e3]
section
variable {P : Program} {w : World} {K : PySem.W.Frag} {mg : Str → Option Value} {base : Heap} {A : Adr} {fI : Addr} {fd : FuncData}
def spMove (A : Adr) : Sp := fun vs H Q _ => ∃ (G : Hp) (D dd ak pl : Addr) (nm : Str) (fr : List Lay) (st st' : List Rod) (ms row : List Mv), vs = [.ref D, .str (nm ++ (" " ++ rowT row))] ∧ Dk A D dd ak pl nm fr st ms G H ∧ OkName nm ∧ (∀ m ∈ row, OkMv m) ∧ ms.length + row.length ≤ 100 ∧ st.length = fr.length ∧ fr.length ≤ 100 ∧
  allM fr st row = some st' ∧ (∀ s ∈ st', OkRod s) ∧ ∀ G' H', Same G G' → Dk A D dd ak pl nm fr st' (ms ++ row) G' H' → Q (.str (shownT st')) H'
theorem ok_desk_move (T : Bas K mg) (TC : Cla K mg A) (f_is_name : Cal P w K mg base CX0 "is_name" ["word"] 1 spIsName) (t_kept : Met P w K mg base CX0 A.desk "kept" ["self", "name"] 1 (spDKept A)) (t_push_row : Met P w K mg base CX0 A.kept "push_row" ["self", "row"] 5 (spPushRow A))
    (f_read_row : Cal P w K mg base CX0 "read_row" ["text"] 4 (spRdRow A)) (f_shown_standing : Cal P w K mg base CX0 "shown_standing" ["standing"] 1 spShown)
    (D : StdM K A.desk "move" "Desk.move" s_Desk_move ["self", "rest"]) : Met P w K mg base CX0 A.desk "move" ["self", "rest"] 6 (spMove A) := by
  refine D.met sc_Desk_move (fun vs H Q E h => ?_) (fun f cdv A0 outer s H vs Q E hr h => ?_)
  · obtain ⟨G, D, dd, ak, pl, nm, fr, st, st', ms, row, rfl, _⟩ := h; rfl
  · obtain ⟨G, D, dd, ak, pl, nm, fr, st, st', ms, row, rfl, dk, o, om, hms, hl, hz, ea, or', q⟩ := h
    obtain ⟨kp, ⟨dx, hD⟩, hd, nD, nd⟩ := id dk
    have lr := row_len om
    have ln := o.l1
    refine ⟨_, (pss_cons (ps_asg (pePart (pv 1) pe_str) (pg_tup rfl (pgs_cons (pg_name (i := 2) sc_Desk_move.nd rfl (by first | exact Or.inl rfl | exact Or.inr rfl)) (pgs_cons (pg_name (i := 3) sc_Desk_move.nd rfl (by first | exact Or.inl rfl | exact Or.inr rfl)) (pgs_cons (pg_name (i := 4) sc_Desk_move.nd rfl (by first | exact Or.inl rfl | exact Or.inr rfl)) pgs_nil)))))
  (pss_cons (ps_if (PW.pt (pw_or (pt_cmpR (opEq hr) (pv 3) pe_str (nomark _)) (pw_or1 (pt_not (pt_val (pe_cal f_is_name hr (by decide) pass0 (pa_cons (pv 2) pa_nil))))))) (pss_one ps_never) pss_nil)
  (pss_cons (ps_set (i := 5) sc_Desk_move.nd rfl (by first | exact Or.inl rfl | exact Or.inr rfl) (pe_met t_kept hr (by decide) pass0 (pv 0) (pa_cons (pv 2) pa_nil)))
  (pss_cons (ps_expr (pe_met t_push_row hr (by decide) pass0 (pv 5) (pa_cons (pe_cal f_read_row hr (by decide) pass0 (pa_cons (pv 4) pa_nil)) pa_nil)))
  (pss_one (ps_ret (pe_cal f_shown_standing hr (by decide) pass0 (pa_cons (pe_fld (pv 5) rfl) pa_nil)))))))), ?_⟩
    walk_at "rd"
    refine w_par kp.k (by decide +kernel) (by rw [app_len, app_len, len_blank]; omega) (say_part (name_free o)) fun p1 G1 H1 s1 hp1 => ?_
    walk_at "rd"
    refine w_gtup (by walk_at "T") rfl ?_
    walk_at "rd"
    refine w_no (by decide +kernel) ?_
    walk_at "rd"
    refine ⟨nm, rfl, o.l0, o.l1, o.ab, ?_⟩
    refine w_bl ?_
    walk_at "rd"
    have dk1 := dk.step s1
    have hD1 := s1.h _ _ hD
    have hd1 := s1.h _ _ hd
    refine ⟨D, dx, _, rfl, hD1, held_no (by decide +kernel), ?_⟩
    walk_at "rd"
    refine ⟨D, dx, dd, ak, nm, rfl, hD1, hd1, ?_⟩
    walk_at "rd"
    obtain ⟨dxk, vf, vst, xs, hk1, hp1', rF, rS, rM⟩ := dk1.kp.ex
    refine ⟨ak, dxk, _, rfl, hk1, kf_no (by decide +kernel) (by decide +kernel) (by decide +kernel), ?_⟩
    walk_at "rd"
    refine ⟨G1, row, rfl, s1.k, by omega, om, ?_⟩
    intro v2 G2 H2 s2 r2
    have dk2 := dk1.step s2
    walk_at "rd"
    refine ⟨G2, ak, pl, fr, st, st', ms, row, _, rfl, dk2.kp, r2, hl, hz, ea, by omega, ?_⟩
    intro G3 H3 g3 kp3 b3 n3
    have dk3 := dk2.change kp3 b3 n3
    obtain ⟨k3, ⟨dx3, vf3, vst3, xs3, hk3, hp3, rF3, rS3, rM3⟩, na3, np3⟩ := id kp3
    walk_at "rd"
    refine w_fldAt hk3 TC.kcl TC.kS kf_s ?_
    walk_at "rd"
    have hl' : st'.length = st.length := allM_len ea
    refine ⟨G3, st', _, rfl, k3, rS3, or', by omega, ?_⟩
    intro G4 H4 s4
    walk_at "rd"
    exact q G4 H4 ((s1.trans s2).g.trans (g3.trans s4.g)) (dk3.step s4)
def spSlip (A : Adr) : Sp := fun vs H Q _ => ∃ (G : Hp) (D dd ak pl : Addr) (nm : Str) (fr : List Lay) (st other : List Rod) (ms row : List Mv), vs = [.ref D, .str (nm ++ (" " ++ (slashT other ++ (" " ++ rowT row))))] ∧ Dk A D dd ak pl nm fr st ms G H ∧ OkName nm ∧ (∀ m ∈ row, OkMv m) ∧ row.length ≤ 90 ∧ st.length = fr.length ∧ fr.length ≤ 100 ∧
  1 ≤ other.length ∧ Fit fr other ∧ (∀ s ∈ other, OkRod s) ∧ ∀ G' H', Stp G H G' H' → Q (.str (slipsT (slipsTo fr st row other))) H'
theorem slip_ways {n i : Nat} {m : Mv} {s : Slip} (h : s ∈ slipsAt n i m) : s.at_ = i ∧ s.word.length ≤ 5 := by
  unfold slipsAt at h
  obtain ⟨q, hq, rfl⟩ := List.mem_map.mp h
  refine ⟨rfl, ?_⟩
  have l1 : ("fewer" : Str).length ≤ 5 ∧ ("last" : Str).length ≤ 5 ∧ ("left" : Str).length ≤ 5 ∧ ("more" : Str).length ≤ 5 ∧ ("next" : Str).length ≤ 5 := by decide +kernel
  unfold ways wayFewer wayLast wayNext at hq
  simp only [List.mem_append] at hq
  rcases hq with (((hq | hq) | hq) | hq) | hq
  · split at hq
    · cases List.mem_singleton.mp hq; exact l1.1
    · cases hq
  · split at hq
    · cases List.mem_singleton.mp hq; exact l1.2.1
    · cases hq
  · cases List.mem_singleton.mp hq; exact l1.2.2.1
  · cases List.mem_singleton.mp hq; exact l1.2.2.2.1
  · split at hq
    · cases List.mem_singleton.mp hq; exact l1.2.2.2.2
    · cases hq
theorem slip_from {n : Nat} {s : Slip} : ∀ {ms : List Mv} {i : Nat}, s ∈ slipsFrom n i ms → s.at_ < i + ms.length ∧ s.word.length ≤ 5
  | [], i, h => by cases h
  | m :: ms, i, h => by
    rcases List.mem_append.mp (show s ∈ slipsAt n i m ++ slipsFrom n (i + 1) ms from h) with h | h
    · obtain ⟨h1, h2⟩ := slip_ways h
      exact ⟨by simp; omega, h2⟩
    · obtain ⟨h1, h2⟩ := slip_from h
      exact ⟨by simp; omega, h2⟩
theorem slips_len {n : Nat} : ∀ (ms : List Mv) (i : Nat), (slipsFrom n i ms).length ≤ 5 * ms.length
  | [], i => by simp [slipsFrom]
  | m :: ms, i => by
    show (slipsAt n i m ++ slipsFrom n (i + 1) ms).length ≤ _
    have h1 := slipsAt_len n i m
    have h2 := slips_len (n := n) ms (i + 1)
    simp only [List.length_append, List.length_cons]
    omega
theorem ok_desk_slip (T : Bas K mg) (TC : Cla K mg A) (f_is_name : Cal P w K mg base CX0 "is_name" ["word"] 1 spIsName) (t_kept : Met P w K mg base CX0 A.desk "kept" ["self", "name"] 1 (spDKept A))
    (f_read_standing : Cal P w K mg base CX0 "read_standing" ["frame", "text"] 3 spRdStd) (f_read_row : Cal P w K mg base CX0 "read_row" ["text"] 4 (spRdRow A)) (f_slips_of : Cal P w K mg base CX0 "slips_of" ["frame", "standing", "row", "other"] 6 (spSlipsOf A))
    (D : StdM K A.desk "slip" "Desk.slip" s_Desk_slip ["self", "rest"]) : Met P w K mg base CX0 A.desk "slip" ["self", "rest"] 7 (spSlip A) := by
  refine D.met sc_Desk_slip (fun vs H Q E h => ?_) (fun f cdv A0 outer s H vs Q E hr h => ?_)
  · obtain ⟨G, D, dd, ak, pl, nm, fr, st, other, ms, row, rfl, _⟩ := h; rfl
  · obtain ⟨G, D, dd, ak, pl, nm, fr, st, other, ms, row, rfl, dk, o, om, hms, hl, hz, ho1, hfit, oo, q⟩ := h
    obtain ⟨kp, ⟨dx, hD⟩, hd, nD, nd⟩ := id dk
    have lr := row_len om
    have ln := o.l1
    have lo := slash_len oo
    have lfo := hfit.1
    have hne : other ≠ [] := by
      rintro rfl
      simp at ho1
    refine ⟨_, (pss_consB (psb_asg (pb_part (pv 1)) (pg_tup rfl (pgs_cons (pg_name (i := 2) sc_Desk_slip.nd rfl (by first | exact Or.inl rfl | exact Or.inr rfl)) (pgs_cons (pg_name (i := 3) sc_Desk_slip.nd rfl (by first | exact Or.inl rfl | exact Or.inr rfl)) (pgs_cons (pg_name (i := 1) sc_Desk_slip.nd rfl (by first | exact Or.inl rfl | exact Or.inr rfl)) pgs_nil)))))
  (psst_cons (PST.of (ps_asg (pePart (pv 1) pe_str) (pg_tup rfl (pgs_cons (pg_name (i := 4) sc_Desk_slip.nd rfl (by first | exact Or.inl rfl | exact Or.inr rfl)) (pgs_cons (pg_name (i := 5) sc_Desk_slip.nd rfl (by first | exact Or.inl rfl | exact Or.inr rfl)) (pgs_cons (pg_name (i := 6) sc_Desk_slip.nd rfl (by first | exact Or.inl rfl | exact Or.inr rfl)) pgs_nil))))))
  (psst_cons (PST.of (ps_if (PW.pt (pw_or (pt_cmpR (opEq hr) (pv 5) pe_str (nomark _)) (pw_or (pt_cmpR (opEq hr) (pv 4) pe_str (nomark _)) (pw_or1 (pt_not (pt_val (pe_cal f_is_name hr (by decide) pass0 (pa_cons (pv 2) pa_nil)))))))) (pss_one ps_never) pss_nil))
  (psst_cons (PST.of (ps_set (i := 7) sc_Desk_slip.nd rfl (by first | exact Or.inl rfl | exact Or.inr rfl) (pe_met t_kept hr (by decide) pass0 (pv 0) (pa_cons (pv 2) pa_nil))))
  (psst_cons (pst_set (i := 8) sc_Desk_slip.nd rfl (by first | exact Or.inl rfl | exact Or.inr rfl) (pet_cal f_read_standing hr (by decide) pass0 (pat_cons (CwR.PET.of (pe_fld (pv 7) rfl)) (pat_cons (CwR.pet_replC (pv 4)) pat_nil))))
  (psst_cons (PST.of (ps_set (i := 9) sc_Desk_slip.nd rfl (by first | exact Or.inl rfl | exact Or.inr rfl) (pe_cal f_slips_of hr (by decide) pass0 (pa_cons (pe_fld (pv 7) rfl) (pa_cons (pe_fld (pv 7) rfl) (pa_cons (pe_cal f_read_row hr (by decide) pass0 (pa_cons (pv 6) pa_nil)) (pa_cons (pv 8) pa_nil)))))))
  (psst_cons (PST.of (ps_ret (peJoin pe_str (pe_lc (own := [("at", 10), ("said", 11), ("move", 12)]) (g := gTup K 3 (gCons (gName 10) (gCons (gName 11) (gCons (gName 12) gNil)))) (tt := tYes) rfl sc_Desk_slip.nd (pi_list (pv 9)) (blkOk_by (own := [("at", 10), ("said", 11), ("move", 12)]) (N := N_Desk_slip) (sc := defScope s_Desk_slip) (by decide +kernel)) (fun _ _ _ _ _ => (pg_tup rfl (pgs_cons (pg_name (i := 10) sc_Desk_slip.nd rfl (by first | exact Or.inl rfl | exact Or.inr rfl)) (pgs_cons (pg_name (i := 11) sc_Desk_slip.nd rfl (by first | exact Or.inl rfl | exact Or.inr rfl)) (pgs_cons (pg_name (i := 12) sc_Desk_slip.nd rfl (by first | exact Or.inl rfl | exact Or.inr rfl)) pgs_nil))))) (fun _ _ _ _ _ => pts_nil) (fun _ _ _ _ _ => (pe_joined (PJ.cons (pe_fmt (pv 10)) (PJ.cons pe_str (PJ.cons (pe_fmt (pv 11)) PJ.nil))))))))) CwR.psst_nil))))))), ?_⟩
    walk_at "rd"
    refine w_par kp.k (by decide +kernel) (by rw [app_len, app_len, app_len, app_len, len_blank]; omega) (say_part (name_free o)) fun p1 G1 H1 s1 hp1 => ?_
    walk_at "rd"
    refine w_gtup (by walk_at "T") rfl ?_
    walk_at "rd"
    refine w_par s1.k (by decide +kernel) (by rw [app_len, app_len, len_blank]; omega) (say_part (slash_free oo)) fun p2 G2 H2 s2 hp2 => ?_
    walk_at "rd"
    refine w_gtup (by walk_at "T") rfl ?_
    walk_at "rd"
    refine w_no (by decide +kernel) ?_
    walk_at "rd"
    refine w_no (slash_ne hne oo) ?_
    walk_at "rd"
    refine ⟨nm, rfl, o.l0, o.l1, o.ab, ?_⟩
    refine w_bl ?_
    walk_at "rd"
    have s12 := s1.trans s2
    have dk2 := dk.step s12
    have hD2 := s12.h _ _ hD
    have hd2 := s12.h _ _ hd
    refine ⟨D, dx, _, rfl, hD2, held_no (by decide +kernel), ?_⟩
    walk_at "rd"
    refine ⟨D, dx, dd, ak, nm, rfl, hD2, hd2, ?_⟩
    walk_at "rd"
    obtain ⟨dxk, vf, vst, xs, hk2, hp2', rF, rS, rM⟩ := dk2.kp.ex
    refine w_fldAt hk2 TC.kcl TC.kF kf_f ?_
    refine w_repl ?_
    walk_at "rd"
    refine ⟨slashT other, rfl, by rw [len_blank]; omega, ?_⟩
    rw [slash_back oo]
    walk_at "rd"
    refine ⟨G2, fr, other, _, rfl, s2.k, rF, hfit, oo, ho1, by omega, ?_⟩
    intro v3 G3 H3 s3 r3
    walk_at "rd"
    refine w_fldAt (s3.h _ _ hk2) TC.kcl TC.kF kf_f ?_
    walk_at "rd"
    refine w_fldAt (s3.h _ _ hk2) TC.kcl TC.kS kf_s ?_
    walk_at "rd"
    refine ⟨G3, row, rfl, s3.k, by omega, om, ?_⟩
    intro v4 G4 H4 s4 r4
    walk_at "rd"
    have s34 := s3.trans s4
    refine ⟨G4, fr, st, row, other, _, _, _, _, rfl, s4.k, up (R := RFrame) rF s34.g, up (R := RStd) rS s34.g, r4, up (R := RStd) r3 s4.g, hl, hz, by omega, fun m hm => (om m hm).b0, ?_⟩
    rintro v5 G5 H5 s5 ⟨p5, x5, rfl, h5, r5⟩
    walk_at "rd"
    refine ⟨p5, rfl, ⟨_, by walk_at "L"⟩, ?_⟩
    have l5 := paired_len r5
    have lt : (slipsTo fr st row other).length ≤ 5 * row.length := Nat.le_trans (List.length_filter_le _ _) (slips_len row 0)
    have inf : ∀ sl ∈ slipsTo fr st row other, sl.at_ < 100 ∧ sl.word.length ≤ 5 := fun sl hs => by
      have h := slip_from (List.mem_filter.mp hs).1
      exact ⟨by have := h.1; omega, h.2⟩
    refine lc_map (R := RV V.str) (walk_list (xs := x5)) s5.k (fun i => ((slipsTo fr st row other).getD i ⟨0, "", none⟩).text) (by omega) (fun G' H' g k' => SqL.of (k' _ _ (g _ _ h5))) (fun i x G6 H6 H6' C hi g6 k6 hY hC => ?_) (fun pr xr G7 H7 s7 hpr rr => ?_)
    · obtain ⟨rfl, hx⟩ := hY
      obtain ⟨sl, es, p0, x0, rfl, h0, ro⟩ := paired_get r5 hx
      have e0 : (slipsTo fr st row other).getD i ⟨0, "", none⟩ = sl := by rw [List.getD_eq_getElem?_getD, es]; rfl
      obtain ⟨b1, b2⟩ := inf sl (List.mem_of_getElem? es)
      have l1 := num_len (n := sl.at_) (by omega) (by omega)
      refine w_gtup (SqT.of (k6 _ _ (g6 _ _ h0))) rfl ?_
      walk_at "rd"
      refine ⟨wipe3, ?_⟩
      have ee : Str.empty.length = 0 := rfl
      walk_at "rd"
      refine w_js ?_
      refine w_fmt ?_
      walk_at "rd"
      refine w_fmtI (num_log (by omega) (by omega)) ?_
      refine w_jstr (by rw [app_len]; omega) ?_
      refine w_js ?_
      walk_at "rd"
      refine w_jstr (by rw [app_len, app_len, len_blank]; omega) ?_
      refine w_js ?_
      refine w_fmt ?_
      walk_at "rd"
      refine w_fmtS (by omega) ?_
      refine w_jstr (by rw [app_len, app_len, app_len, len_blank]; omega) ?_
      refine w_jn ?_
      refine hC _ _ _ (Stp.refl k6) ?_
      show V.str _ = V.str (Slip.text _)
      rw [e0, empty_app]
      rfl
    · have e : (List.range x5.length).map (fun i => ((slipsTo fr st row other).getD i ⟨0, "", none⟩).text) = (slipsTo fr st row other).map Slip.text := by
        have := map_range (slipsTo fr st row other) ⟨0, "", none⟩ Slip.text
        rw [l5]
        exact this
      rw [e] at rr
      have er := paired_fl rr
      have hsum : ∀ l : List Str, (∀ p ∈ l, p.length ≤ 8) → (l.map (·.length)).sum ≤ l.length * 8 := fun l => by
        induction l with
        | nil => intro _; simp
        | cons a l ih =>
          intro h
          have h1 := h a (by simp)
          have h2 := ih fun p hp => h p (List.mem_cons_of_mem _ hp)
          simp only [List.map_cons, List.sum_cons, List.length_cons]
          omega
      refine w_join (ys := (slipsTo fr st row other).map Slip.text) (SqL.of (s7.k _ _ (by rw [hpr, er]))) ?_ ?_
      · have h1 := hsum ((slipsTo fr st row other).map Slip.text) fun p hp => by
          obtain ⟨sl, hs1, rfl⟩ := List.mem_map.mp hp
          obtain ⟨b1, b2⟩ := inf sl hs1
          have l1 := num_len (n := sl.at_) (by omega) (by omega)
          unfold Slip.text
          rw [app_len, app_len, len_blank]
          omega
        rw [len_semi]
        simp only [List.length_map] at h1 ⊢
        omega
      · exact q G7 H7 (s12.trans (s34.trans (s5.trans s7)))
end
end BF
namespace BF
open PySem PySem.Spec PyProof.Rows L2 TL HotX
local macro_rules | `(tactic| walk_at "rd") => `(tactic| repeat (first
  | with_reducible refine w_var rfl ?_ | with_reducible refine w_c ?_ | with_reducible refine w_seq ?_ | with_reducible refine w_op ?_
  | with_reducible refine w_asg ?_ | with_reducible refine w_name ?_ | with_reducible refine w_ret ?_ | with_reducible refine w_drop ?_ | with_reducible refine w_next ?_
  | with_reducible refine w_if ?_ | with_reducible refine w_test ?_ | with_reducible refine w_B ?_ | with_reducible refine w_bl ?_ | with_reducible refine w_not ?_
  | with_reducible refine w_and ?_ | with_reducible refine w_or ?_ | with_reducible refine w_nil ?_ | with_reducible refine w_cons ?_ | with_reducible refine w_cb ?_
  | with_reducible refine w_chain ?_ | with_reducible refine w_call ?_ | with_reducible refine w_un ?_ | with_reducible refine w_neg ?_
  | with_reducible refine w_andV ?_ | with_reducible refine w_orV ?_ | with_reducible refine w_notV ?_ | with_reducible refine w_iteT ?_ | with_reducible refine w_iteF ?_ | with_reducible refine w_ntT ?_ | with_reducible refine w_ntF ?_
  | with_reducible refine g_add ?_ | with_reducible refine g_sub ?_ | with_reducible refine g_cmp ?_ | with_reducible refine g_eqI ?_ | with_reducible refine g_neI ?_ | with_reducible refine g_eqS ?_ | with_reducible refine g_neS ?_
  | with_reducible refine w_min ?_ | with_reducible refine w_max ?_ | with_reducible refine w_isN ?_ | with_reducible refine w_notN ?_ | with_reducible refine w_notSg ?_ | with_reducible refine w_gcons ?_ | with_reducible refine w_gnil ?_ | with_reducible refine w_sl ?_ | with_reducible refine w_noP ?_ | with_reducible refine w_part ?_ | with_reducible refine w_int1 ?_ | with_reducible refine w_tup ?_ | with_reducible refine w_lst ?_ | with_reducible refine g_intB ?_ | with_reducible refine w_fld ?_ | with_reducible refine w_meth ?_ | with_reducible refine w_make ?_
  | with_reducible refine w_lc ?_ | with_reducible refine w_for ?_ | with_reducible refine w_iL ?_ | with_reducible refine w_iT ?_ | with_reducible refine w_iS ?_ | with_reducible refine w_iRev ?_ | with_reducible refine w_iEn ?_ | with_reducible refine w_iZip ?_ | with_reducible refine w_iR1 ?_
  | with_reducible refine w_bm ?_ | with_reducible refine w_bm0 ?_ | with_reducible refine w_M1 ?_ | with_reducible refine w_isStr ?_
  | dsimp only))
local macro_rules | `(tactic| walk_at "same") => `(tactic| first | exact Same.refl _ | assumption | exact Stp.g (by assumption) | (refine Same.trans (Stp.g (by assumption)) ?_; walk_at "same"))
local macro_rules | `(tactic| walk_at "k") => `(tactic| first | assumption | exact Stp.k (by assumption) | exact Acc.k (by assumption))
local macro_rules | `(tactic| walk_at "stp") => `(tactic| first | assumption | exact Stp.refl (by walk_at "k") | (refine Stp.trans (by assumption) ?_; walk_at "stp"))
local macro_rules | `(tactic| walk_at "up") => `(tactic| first | assumption | exact up (by assumption) (by walk_at "same"))
local macro_rules | `(tactic| walk_at "gh") => `(tactic| first | assumption | exact Stp.k (by assumption) | (refine Same.trans (Stp.g (by assumption)) ?_; walk_at "gh"))
local macro_rules | `(tactic| walk_at "at") => `(tactic| first | assumption | exact at_ (by assumption) (by walk_at "gh"))
local macro_rules | `(tactic| walk_at "L") => `(tactic| exact SqL.of (by walk_at "at"))
local macro_rules | `(tactic| walk_at "T") => `(tactic| exact SqT.of (by walk_at "at"))
local macro_rules | `(tactic| walk_at "o1") => `(tactic| first | with_reducible refine w_yes (by first | assumption | omega) ?_ | with_reducible refine w_no (by first | assumption | omega) ?_ | with_reducible refine w_yesN (by first | assumption | omega) ?_ | with_reducible refine w_noN (by first | assumption | omega) ?_)
local macro_rules | `(tactic| walk_at "o") => `(tactic| (walk_at "rd"; repeat (walk_at "o1"; walk_at "rd")))

section
variable {P : Program} {w : World} {K : PySem.W.Frag} {mg : Str → Option Value} {base : Heap} {A : Adr} {fI : Addr} {fd : FuncData}
theorem lay_free {y : Lay} (o : OkLay y) : 32 ∉ tl y.text := by
  obtain ⟨h1, h2, h3, h4, h5, h6, h7, h8, h9, h10, h11⟩ := o
  unfold Lay.text
  simp only [tl_append, tl_x, tl_plus, tl_colon, List.mem_append, not_or]
  refine ⟨⟨⟨⟨⟨⟨num_free (by omega) (by omega), by decide⟩, num_free (by omega) (by omega)⟩, by decide⟩, num_free (by omega) (by omega)⟩, by decide⟩, num_free (by omega) (by omega)⟩
theorem written_split {nm : Str} {fr : List Lay} (o : OkName nm) (ol : ∀ y ∈ fr, OkLay y) (hne : fr ≠ []) : Txt.split (nm ++ (" " ++ writtenT fr)) " " = nm :: fr.reverse.map Lay.text := by
  have e : nm ++ (" " ++ writtenT fr) = Txt.join " " (nm :: fr.reverse.map Lay.text) := by
    cases hr : fr.reverse.map Lay.text with
    | nil =>
      rw [List.map_eq_nil_iff, List.reverse_eq_nil_iff] at hr
      exact absurd hr hne
    | cons a r =>
      rw [join_cons, ← hr, app_assoc]
      rfl
  rw [e]
  refine split_join (s := 32) (S := []) tl_blank (by decide +kernel) (by simp) fun p hp => ?_
  rcases List.mem_cons.mp hp with rfl | hp
  · exact name_free o
  · obtain ⟨y, hy, rfl⟩ := List.mem_map.mp hp
    exact lay_free (ol y (List.mem_reverse.mp hy))
theorem name_split {nm : Str} (o : OkName nm) : Txt.split nm " " = [nm] := by
  have e := split_join (s := 32) (S := []) tl_blank (by decide +kernel) (parts := [nm]) (by simp) fun p hp => by
    cases List.mem_singleton.mp hp
    exact name_free o
  rw [join_one] at e
  exact e
theorem written_len {fr : List Lay} (ol : ∀ y ∈ fr, OkLay y) : (writtenT fr).length ≤ fr.length * 101 := by
  have := join_len " " (fr.reverse.map Lay.text) 100 fun p hp => by
    obtain ⟨y, hy, rfl⟩ := List.mem_map.mp hp
    exact lay_len (ol y (List.mem_reverse.mp hy))
  rw [List.length_map, List.length_reverse, len_blank] at this
  exact this
def SayFrame (A : Adr) (D : Addr) (row : Str) (H : Hp) (Q : VK) : Prop := ∃ (G : Hp) (dx dd : Addr) (nm : Str) (fr : List Lay), row = "frame" ++ (" " ++ (nm ++ (" " ++ writtenT fr))) ∧ Same G H ∧ H D = some (.ins A.desk dx [("held", .ref dd)]) ∧ H dd = some (.dK []) ∧ G D = none ∧ G dd = none ∧
  OkName nm ∧ (∀ y ∈ fr, OkLay y) ∧ 1 ≤ fr.length ∧ fr.length ≤ 20 ∧ ∀ ak pl G' H', Same G G' → Dk A D dd ak pl nm fr (List.replicate fr.length (0, 0)) [] G' H' → Q (.str "ok") H'
def SayDo (A : Adr) (D : Addr) (row : Str) (H : Hp) (Q : VK) : Prop := ∃ (G : Hp) (dd ak pl : Addr) (nm : Str) (fr : List Lay) (st st' : List Rod) (ms ms2 : List Mv), row = "do" ++ (" " ++ (nm ++ (" " ++ rowT ms2))) ∧ Dk A D dd ak pl nm fr st ms G H ∧ OkName nm ∧ (∀ m ∈ ms2, OkMv m) ∧ ms.length + ms2.length ≤ 100 ∧ st.length = fr.length ∧ fr.length ≤ 100 ∧
  allM fr st ms2 = some st' ∧ (∀ s ∈ st', OkRod s) ∧ ∀ G' H', Same G G' → Dk A D dd ak pl nm fr st' (ms ++ ms2) G' H' → Q (.str (shownT st')) H'
def SaySlips (A : Adr) (D : Addr) (row : Str) (H : Hp) (Q : VK) : Prop := ∃ (G : Hp) (dd ak pl : Addr) (nm : Str) (fr : List Lay) (st other : List Rod) (ms ms2 : List Mv), row = "slips" ++ (" " ++ (nm ++ (" " ++ (slashT other ++ (" " ++ rowT ms2))))) ∧ Dk A D dd ak pl nm fr st ms G H ∧ OkName nm ∧ (∀ m ∈ ms2, OkMv m) ∧ ms2.length ≤ 90 ∧ st.length = fr.length ∧ fr.length ≤ 100 ∧
  1 ≤ other.length ∧ Fit fr other ∧ (∀ s ∈ other, OkRod s) ∧ ∀ G' H', Stp G H G' H' → Q (.str (slipsT (slipsTo fr st ms2 other))) H'
def SayShows (A : Adr) (D : Addr) (row : Str) (H : Hp) (Q : VK) : Prop := ∃ (G : Hp) (dd ak pl : Addr) (nm : Str) (fr : List Lay) (st : List Rod) (ms : List Mv), row = "shows" ++ (" " ++ nm) ∧ Dk A D dd ak pl nm fr st ms G H ∧ OkName nm ∧ st.length ≤ 100 ∧ (∀ s ∈ st, OkRod s) ∧ ∀ G' H', Stp G H G' H' → Q (.str (shownT st)) H'
def SayBack (A : Adr) (D : Addr) (row : Str) (H : Hp) (Q : VK) : Prop := ∃ (G : Hp) (dd ak pl : Addr) (nm : Str) (fr : List Lay) (st st' : List Rod) (ms : List Mv) (m : Mv), row = "back" ++ (" " ++ nm) ∧ Dk A D dd ak pl nm fr st (ms ++ [m]) G H ∧ OkName nm ∧ st.length = fr.length ∧ fr.length ≤ 100 ∧ push fr st m.contra = some st' ∧ (∀ s ∈ st', OkRod s) ∧
  ∀ G' H', Same G G' → Dk A D dd ak pl nm fr st' ms G' H' → Q (.str (shownT st')) H'
def spSay (A : Adr) : Sp := fun vs H Q _ => ∃ (D : Addr) (row : Str), vs = [.ref D, .str row] ∧ (SayFrame A D row H Q ∨ SayDo A D row H Q ∨ SaySlips A D row H Q ∨ SayShows A D row H Q ∨ SayBack A D row H Q)
theorem ok_desk_say {d : Addr} {es : Array DictEntry} {n : Nat} {pS pB : Addr} (T : Bas K mg) (TC : Cla K mg A) (SH : Shp K w mg d es n pS pB) (t_lay : Met P w K mg base CX0 A.desk "lay" ["self", "words"] 4 (spLay A)) (t_move : Met P w K mg base CX0 A.desk "move" ["self", "rest"] 6 (spMove A)) (t_slip : Met P w K mg base CX0 A.desk "slip" ["self", "rest"] 7 (spSlip A))
    (t_kept : Met P w K mg base CX0 A.desk "kept" ["self", "name"] 1 (spDKept A)) (f_look_at : Cal P w K mg base CX0 "look_at" ["words", "shape"] 3 (spLook K)) (t_pull_back : Met P w K mg base CX0 A.kept "pull_back" ["self"] 5 (spPull A)) (f_shown_standing : Cal P w K mg base CX0 "shown_standing" ["standing"] 1 spShown)
    (D : StdM K A.desk "say" "Desk.say" s_Desk_say ["self", "row"]) : Met P w K mg base CX0 A.desk "say" ["self", "row"] 8 (spSay A) := by
  refine D.met sc_Desk_say (fun vs H Q E h => ?_) (fun f cdv A0 outer s H vs Q E hr h => ?_)
  · obtain ⟨D, row, rfl, _⟩ := h; rfl
  · obtain ⟨D, row, rfl, h⟩ := h
    refine ⟨_, (pss_cons (ps_if (pt_not (pt_val (pe_callB call_isi (by rfl) T.z_isinstance boot_isinstance (pa_cons (pv 1) (pa_cons (pe_tyn T.z_str boot_str) pa_nil))))) (pss_one ps_never) pss_nil)
  (pss_cons (ps_asg (pePart (pv 1) pe_str) (pg_tup rfl (pgs_cons (pg_name (i := 2) sc_Desk_say.nd rfl (by first | exact Or.inl rfl | exact Or.inr rfl)) (pgs_cons (pg_name (i := 3) sc_Desk_say.nd rfl (by first | exact Or.inl rfl | exact Or.inr rfl)) (pgs_cons (pg_name (i := 4) sc_Desk_say.nd rfl (by first | exact Or.inl rfl | exact Or.inr rfl)) pgs_nil)))))
  (pss_cons (ps_if (pt_cmpR (opEq hr) (pv 3) pe_str (nomark _)) (pss_one ps_never) pss_nil)
  (pss_cons (ps_if (pt_cmpR (opEq hr) (pv 2) pe_str (nomark _)) (pss_one (ps_ret (pe_met t_lay hr (by decide) pass0 (pv 0) (pa_cons (peSplit (pv 4) pe_str) pa_nil)))) pss_nil)
  (pss_cons (ps_if (pt_cmpR (opEq hr) (pv 2) pe_str (nomark _)) (pss_one ps_never) pss_nil)
  (pss_cons (ps_if (pt_cmpR (opEq hr) (pv 2) pe_str (nomark _)) (pss_one (ps_ret (pe_met t_move hr (by decide) pass0 (pv 0) (pa_cons (pv 4) pa_nil)))) pss_nil)
  (pss_cons (ps_if (pt_cmpR (opEq hr) (pv 2) pe_str (nomark _)) (pss_one ps_never) pss_nil)
  (pss_cons (ps_if (pt_cmpR (opEq hr) (pv 2) pe_str (nomark _)) (pss_one (ps_ret (pe_met t_slip hr (by decide) pass0 (pv 0) (pa_cons (pv 4) pa_nil)))) pss_nil)
  (pss_cons (ps_if (pt_cmpR (op_notIn_kd SH.kd) (pv 2) (pe_gc SH.g) (by rfl)) (pss_one ps_never) pss_nil)
  (pss_cons (ps_set (i := 5) sc_Desk_say.nd rfl (by first | exact Or.inl rfl | exact Or.inr rfl) (peSplit (pv 4) pe_str))
  (pss_cons (ps_expr (pe_cal f_look_at hr (by decide) pass0 (pa_cons (pv 5) (pa_cons (pe_ix ix_kdict (pe_gc SH.g) (pv 2) (fun _ _ => rfl)) pa_nil))))
  (pss_cons (ps_set (i := 6) sc_Desk_say.nd rfl (by first | exact Or.inl rfl | exact Or.inr rfl) (pe_met t_kept hr (by decide) pass0 (pv 0) (pa_cons (pe_ix ix_seq (pv 5) pe_int (fun _ _ => rfl)) pa_nil)))
  (pss_cutS (ps_if (pt_cmpR (opEq hr) (pv 2) pe_str (nomark _)) (pss_one (ps_expr (pe_met0 t_pull_back hr (by decide) pass0 (pv 6)))) pss_nil)
  (pss_cons (ps_if (PW.pt (pw_or (pt_cmpR (opEq hr) (pv 2) pe_str (nomark _)) (pw_or1 (pt_cmpR (opEq hr) (pv 2) pe_str (nomark _))))) (pss_one (ps_ret (pe_cal f_shown_standing hr (by decide) pass0 (pa_cons (pe_fld (pv 6) rfl) pa_nil)))) pss_nil)
  (pss_cons ps_never
  (pss_cons ps_never
  (pss_one ps_never))))))))))))))))), ?_⟩
    walk_at "o"
    refine w_isi (.base (.str _)) (c := true) (kit_ty (by decide +kernel)) ?_
    walk_at "rd"
    rcases h with h | h | h | h | h
    · obtain ⟨G, dx, dd, nm, fr, rfl, k, hD, hd, nD, nd, o, ol, l1, l2, q⟩ := h
      have ln := o.l1
      have lw := written_len ol
      have lf : ("frame" : Str).length = 5 := by decide +kernel
      refine w_par k (by decide +kernel) (by rw [app_len, app_len, app_len, app_len, len_blank]; omega) (say_part (by decide +kernel)) fun p1 G1 H1 s1 hp1 => ?_
      walk_at "rd"
      refine w_gtup (by walk_at "T") rfl ?_
      walk_at "rd"
      refine w_no (by decide +kernel) ?_
      walk_at "rd"
      refine w_yes rfl ?_
      walk_at "rd"
      have hD1 := s1.h _ _ hD
      refine ⟨D, dx, _, rfl, hD1, held_no (by decide +kernel), ?_⟩
      walk_at "rd"
      refine w_split s1.k (by decide +kernel) (by rw [app_len, app_len, len_blank]; omega) (written_split o ol (by rintro rfl; simp at l1)) fun p2 G2 H2 s2 hp2 => ?_
      walk_at "rd"
      have s12 := s1.trans s2
      exact ⟨G2, D, dx, dd, nm, fr, _, rfl, s2.k, s12.h _ _ hD, s12.h _ _ hd, stp_none s12 nD hD, stp_none s12 nd hd, ⟨p2, _, rfl, hp2, paired_of _⟩, o, ol, l1, l2, fun ak pl G' H' g dk => q ak pl G' H' (s12.g.trans g) dk⟩
    · obtain ⟨G, dd, ak, pl, nm, fr, st, st', ms, ms2, rfl, dk, o, om, hms, hl, hz, ea, or', q⟩ := h
      obtain ⟨kp, ⟨dx, hD⟩, hd, nD, nd⟩ := id dk
      have lr := row_len om
      have ln := o.l1
      have lf : ("do" : Str).length = 2 := by decide +kernel
      refine w_par kp.k (by decide +kernel) (by rw [app_len, app_len, app_len, app_len, len_blank]; omega) (say_part (by decide +kernel)) fun p1 G1 H1 s1 hp1 => ?_
      walk_at "rd"
      refine w_gtup (by walk_at "T") rfl ?_
      walk_at "rd"
      refine w_no (by decide +kernel) ?_
      walk_at "rd"
      refine w_no (by decide +kernel) ?_
      walk_at "rd"
      refine w_no (by decide +kernel) ?_
      walk_at "rd"
      refine w_yes rfl ?_
      walk_at "rd"
      refine ⟨D, dx, _, rfl, s1.h _ _ hD, held_no (by decide +kernel), ?_⟩
      walk_at "rd"
      exact ⟨G1, D, dd, ak, pl, nm, fr, st, st', ms, ms2, rfl, dk.step s1, o, om, hms, hl, hz, ea, or', fun G' H' g dk' => q G' H' (s1.g.trans g) dk'⟩
    · obtain ⟨G, dd, ak, pl, nm, fr, st, other, ms, ms2, rfl, dk, o, om, hms, hl, hz, ho1, hfit, oo, q⟩ := h
      obtain ⟨kp, ⟨dx, hD⟩, hd, nD, nd⟩ := id dk
      have lr := row_len om
      have ln := o.l1
      have lo := slash_len oo
      have lfo := hfit.1
      have lf : ("slips" : Str).length = 5 := by decide +kernel
      refine w_par kp.k (by decide +kernel) (by rw [app_len, app_len, app_len, app_len, app_len, app_len, len_blank]; omega) (say_part (by decide +kernel)) fun p1 G1 H1 s1 hp1 => ?_
      walk_at "rd"
      refine w_gtup (by walk_at "T") rfl ?_
      walk_at "rd"
      refine w_no (by decide +kernel) ?_
      walk_at "rd"
      refine w_no (by decide +kernel) ?_
      walk_at "rd"
      refine w_no (by decide +kernel) ?_
      walk_at "rd"
      refine w_no (by decide +kernel) ?_
      walk_at "rd"
      refine w_no (by decide +kernel) ?_
      walk_at "rd"
      refine w_yes rfl ?_
      walk_at "rd"
      refine ⟨D, dx, _, rfl, s1.h _ _ hD, held_no (by decide +kernel), ?_⟩
      walk_at "rd"
      exact ⟨G1, D, dd, ak, pl, nm, fr, st, other, ms, ms2, rfl, dk.step s1, o, om, hms, hl, hz, ho1, hfit, oo, fun G' H' s' => q G' H' (s1.trans s')⟩
    · obtain ⟨G, dd, ak, pl, nm, fr, st, ms, rfl, dk, o, hl, os, q⟩ := h
      obtain ⟨kp, ⟨dx, hD⟩, hd, nD, nd⟩ := id dk
      have ln := o.l1
      have lf : ("shows" : Str).length = 5 := by decide +kernel
      obtain ⟨us, eus⟩ := SH.shI
      refine w_par kp.k (by decide +kernel) (by rw [app_len, app_len, len_blank]; omega) (say_part (by decide +kernel)) fun p1 G1 H1 s1 hp1 => ?_
      walk_at "rd"
      refine w_gtup (by walk_at "T") rfl ?_
      walk_at "rd"
      refine w_no (by decide +kernel) ?_
      walk_at "rd"
      refine w_no (by decide +kernel) ?_
      walk_at "rd"
      refine w_no (by decide +kernel) ?_
      walk_at "rd"
      refine w_no (by decide +kernel) ?_
      walk_at "rd"
      refine w_no (by decide +kernel) ?_
      walk_at "rd"
      refine w_no (by decide +kernel) ?_
      walk_at "rd"
      refine ⟨_, some us, rfl, rfl, eus, ?_⟩
      refine w_bl ?_
      refine w_ntT ?_
      walk_at "rd"
      refine w_split s1.k (by decide +kernel) (by omega) (name_split o) fun p2 G2 H2 s2 hp2 => ?_
      walk_at "rd"
      refine ⟨d, "shows", _, rfl, rfl, SH.sh, ?_⟩
      walk_at "rd"
      refine ⟨G2, p2, pS, nm, rfl, s2.k, hp2, SH.tS, o, ?_⟩
      intro G3 H3 s3
      walk_at "rd"
      have s13 := (s1.trans s2).trans s3
      have dk3 := dk.step s13
      have hD3 := s13.h _ _ hD
      refine ⟨D, dx, _, rfl, hD3, held_no (by decide +kernel), ?_⟩
      walk_at "rd"
      refine w_ixL (i := 0) (SqL.of (s3.k _ _ (s3.g _ _ hp2))) rfl ?_
      walk_at "rd"
      refine ⟨D, dx, dd, ak, nm, rfl, hD3, s13.h _ _ hd, ?_⟩
      walk_at "rd"
      obtain ⟨dxk, vf, vst, xs, hk3, hp3', rF, rS, rM⟩ := dk3.kp.ex
      refine w_cut (fun σ' H' => H' = H3 ∧ σ' = [some (.ref D), some (.str ("shows" ++ (" " ++ nm))), some (.str "shows"), some (.str " "), some (.str nm), some (.ref p2), some (.ref ak), none]) ?_ ?_
      · walk_at "rd"
        refine w_no (by decide +kernel) ?_
        walk_at "rd"
        exact ⟨rfl, rfl⟩
      · rintro _ _ ⟨rfl, rfl⟩
        walk_at "rd"
        refine w_no (by decide +kernel) ?_
        walk_at "rd"
        refine w_yes rfl ?_
        walk_at "rd"
        refine w_fldAt hk3 TC.kcl TC.kS kf_s ?_
        walk_at "rd"
        exact ⟨G3, st, _, rfl, s3.k, rS, os, hl, fun G' H' s' => q G' H' (s13.trans s')⟩
    · obtain ⟨G, dd, ak, pl, nm, fr, st, st', ms, m, rfl, dk, o, hl, hz, ep, os, q⟩ := h
      obtain ⟨kp, ⟨dx, hD⟩, hd, nD, nd⟩ := id dk
      have ln := o.l1
      have lf : ("back" : Str).length = 4 := by decide +kernel
      obtain ⟨us, eus⟩ := SH.bkI
      refine w_par kp.k (by decide +kernel) (by rw [app_len, app_len, len_blank]; omega) (say_part (by decide +kernel)) fun p1 G1 H1 s1 hp1 => ?_
      walk_at "rd"
      refine w_gtup (by walk_at "T") rfl ?_
      walk_at "rd"
      refine w_no (by decide +kernel) ?_
      walk_at "rd"
      refine w_no (by decide +kernel) ?_
      walk_at "rd"
      refine w_no (by decide +kernel) ?_
      walk_at "rd"
      refine w_no (by decide +kernel) ?_
      walk_at "rd"
      refine w_no (by decide +kernel) ?_
      walk_at "rd"
      refine w_no (by decide +kernel) ?_
      walk_at "rd"
      refine ⟨_, some us, rfl, rfl, eus, ?_⟩
      refine w_bl ?_
      refine w_ntT ?_
      walk_at "rd"
      refine w_split s1.k (by decide +kernel) (by omega) (name_split o) fun p2 G2 H2 s2 hp2 => ?_
      walk_at "rd"
      refine ⟨d, "back", _, rfl, rfl, SH.bk, ?_⟩
      walk_at "rd"
      refine ⟨G2, p2, pB, nm, rfl, s2.k, hp2, SH.tB, o, ?_⟩
      intro G3 H3 s3
      walk_at "rd"
      have s13 := (s1.trans s2).trans s3
      have dk3 := dk.step s13
      have hD3 := s13.h _ _ hD
      refine ⟨D, dx, _, rfl, hD3, held_no (by decide +kernel), ?_⟩
      walk_at "rd"
      refine w_ixL (i := 0) (SqL.of (s3.k _ _ (s3.g _ _ hp2))) rfl ?_
      walk_at "rd"
      refine ⟨D, dx, dd, ak, nm, rfl, hD3, s13.h _ _ hd, ?_⟩
      walk_at "rd"
      obtain ⟨dxk, vf, vst, xs, hk3, hp3', rF, rS, rM⟩ := dk3.kp.ex
      refine w_cut (fun σ' H' => ∃ G', Same G G' ∧ Dk A D dd ak pl nm fr st' ms G' H' ∧ σ' = [some (.ref D), some (.str ("back" ++ (" " ++ nm))), some (.str "back"), some (.str " "), some (.str nm), some (.ref p2), some (.ref ak), none]) ?_ ?_
      · walk_at "rd"
        refine w_yes rfl ?_
        walk_at "rd"
        refine ⟨ak, dxk, _, rfl, hk3, kf_no (by decide +kernel) (by decide +kernel) (by decide +kernel), ?_⟩
        walk_at "rd"
        refine ⟨G3, ak, pl, fr, st, st', ms, m, rfl, dk3.kp, hl, hz, ep, ?_⟩
        intro G4 H4 g4 kp4 b4 n4
        walk_at "rd"
        exact ⟨G4, s13.g.trans g4, dk3.change kp4 b4 n4, rfl⟩
      · rintro _ H4 ⟨G4, g4, dk4, rfl⟩
        obtain ⟨dxk, vf, vst, xs, hk4, hp4', rF, rS, rM⟩ := dk4.kp.ex
        walk_at "rd"
        refine w_yes rfl ?_
        walk_at "rd"
        refine w_fldAt hk4 TC.kcl TC.kS kf_s ?_
        walk_at "rd"
        have hl' : st'.length = st.length := push_len ep
        exact ⟨G4, st', _, rfl, dk4.kp.k, rS, os, by omega, fun G' H' s' => q G' H' (g4.trans s'.g) (dk4.step s')⟩
end
end BF
namespace BF
open PySem PySem.Spec PyProof.Rows L2 TL HotX
local macro_rules | `(tactic| walk_at "rd") => `(tactic| repeat (first
  | with_reducible refine w_var rfl ?_ | with_reducible refine w_c ?_ | with_reducible refine w_seq ?_ | with_reducible refine w_op ?_
  | with_reducible refine w_asg ?_ | with_reducible refine w_name ?_ | with_reducible refine w_ret ?_ | with_reducible refine w_drop ?_ | with_reducible refine w_next ?_
  | with_reducible refine w_if ?_ | with_reducible refine w_test ?_ | with_reducible refine w_B ?_ | with_reducible refine w_bl ?_ | with_reducible refine w_not ?_
  | with_reducible refine w_and ?_ | with_reducible refine w_or ?_ | with_reducible refine w_nil ?_ | with_reducible refine w_cons ?_ | with_reducible refine w_cb ?_
  | with_reducible refine w_chain ?_ | with_reducible refine w_call ?_ | with_reducible refine w_un ?_ | with_reducible refine w_neg ?_
  | with_reducible refine w_andV ?_ | with_reducible refine w_orV ?_ | with_reducible refine w_notV ?_ | with_reducible refine w_iteT ?_ | with_reducible refine w_iteF ?_ | with_reducible refine w_ntT ?_ | with_reducible refine w_ntF ?_
  | with_reducible refine g_add ?_ | with_reducible refine g_sub ?_ | with_reducible refine g_cmp ?_ | with_reducible refine g_eqI ?_ | with_reducible refine g_neI ?_ | with_reducible refine g_eqS ?_ | with_reducible refine g_neS ?_
  | with_reducible refine w_min ?_ | with_reducible refine w_max ?_ | with_reducible refine w_isN ?_ | with_reducible refine w_notN ?_ | with_reducible refine w_notSg ?_ | with_reducible refine w_gcons ?_ | with_reducible refine w_gnil ?_ | with_reducible refine w_sl ?_ | with_reducible refine w_noP ?_ | with_reducible refine w_part ?_ | with_reducible refine w_int1 ?_ | with_reducible refine w_tup ?_ | with_reducible refine w_lst ?_ | with_reducible refine g_intB ?_ | with_reducible refine w_fld ?_ | with_reducible refine w_meth ?_ | with_reducible refine w_make ?_
  | with_reducible refine w_lc ?_ | with_reducible refine w_for ?_ | with_reducible refine w_iL ?_ | with_reducible refine w_iT ?_ | with_reducible refine w_iS ?_ | with_reducible refine w_iRev ?_ | with_reducible refine w_iEn ?_ | with_reducible refine w_iZip ?_ | with_reducible refine w_iR1 ?_
  | with_reducible refine w_bm ?_ | with_reducible refine w_bm0 ?_ | with_reducible refine w_M1 ?_ | with_reducible refine w_isStr ?_
  | dsimp only))
local macro_rules | `(tactic| walk_at "same") => `(tactic| first | exact Same.refl _ | assumption | exact Stp.g (by assumption) | (refine Same.trans (Stp.g (by assumption)) ?_; walk_at "same"))
local macro_rules | `(tactic| walk_at "k") => `(tactic| first | assumption | exact Stp.k (by assumption) | exact Acc.k (by assumption))
local macro_rules | `(tactic| walk_at "stp") => `(tactic| first | assumption | exact Stp.refl (by walk_at "k") | (refine Stp.trans (by assumption) ?_; walk_at "stp"))
local macro_rules | `(tactic| walk_at "up") => `(tactic| first | assumption | exact up (by assumption) (by walk_at "same"))
local macro_rules | `(tactic| walk_at "gh") => `(tactic| first | assumption | exact Stp.k (by assumption) | (refine Same.trans (Stp.g (by assumption)) ?_; walk_at "gh"))
local macro_rules | `(tactic| walk_at "at") => `(tactic| first | assumption | exact at_ (by assumption) (by walk_at "gh"))
local macro_rules | `(tactic| walk_at "L") => `(tactic| exact SqL.of (by walk_at "at"))
local macro_rules | `(tactic| walk_at "T") => `(tactic| exact SqT.of (by walk_at "at"))
local macro_rules | `(tactic| walk_at "o1") => `(tactic| first | with_reducible refine w_yes (by first | assumption | omega) ?_ | with_reducible refine w_no (by first | assumption | omega) ?_ | with_reducible refine w_yesN (by first | assumption | omega) ?_ | with_reducible refine w_noN (by first | assumption | omega) ?_)
local macro_rules | `(tactic| walk_at "o") => `(tactic| (walk_at "rd"; repeat (walk_at "o1"; walk_at "rd")))

/-- the script: a list of whole numbers of any size -/
def RScr (K : PySem.W.Frag) (G : Hp) (v : V) (ns : List Int) : Prop := ∃ a, v = .ref a ∧ SqL K G a (ns.map V.int)
theorem sql_same {K : PySem.W.Frag} {G H : Hp} {a : Addr} {xs : List V} (h : SqL K G a xs) (s : Same G H) : SqL K H a xs := by
  rcases h with (h | ⟨o, h⟩) | h
  · exact .inl (.inl (s _ _ h))
  · exact .inl (.inr ⟨o, s _ _ h⟩)
  · exact .inr h
instance {K : PySem.W.Frag} : Mono (RScr K) := ⟨fun s ⟨a, e, h⟩ => ⟨a, e, sql_same h s⟩⟩
theorem w_revL {K : PySem.W.Frag} {te : TE} {σ : L2.St} {H : Hp} {Q : VK} (h : te σ H fun x H1 => ∃ a xs, x = .ref a ∧ SqL K H1 a xs ∧ ∀ p, H1 p = none → Q (.ref p) (upd H1 p (.lst xs.reverse))) : tRevL K te σ H Q := h
/-- a comprehension, each item made, told only by what is true of it -/
theorem lc_any {β : Type} {R : Hp → V → β → Prop} [Mono R] {J : It} {n : Nat} {Gd : Hp → Prop} {Y : Nat → Hp → V → Hp → Prop} {g : TG} {te : TE} {vs : List Nat} {σ : L2.St} {G H1 : Hp} {Q : VK} (w : Walk J n Gd Y) (k : Same G H1) (Pr : β → Prop) (hn : n ≤ 1000)
    (hG : ∀ G' H', Same G G' → Same G' H' → Gd H')
    (hs : ∀ (i : Nat) (x : V) (G1 H2 H3 : Hp) (C : V → Hp → Prop), i < n → Same G G1 → Same G1 H2 → Y i H2 x H3 → (∀ y b G4 H4, Pr b → Stp G1 H2 G4 H4 → R G4 y b → C y H4) →
      g x (wipe σ vs) H3 fun σ2 H5 => wipe σ2 vs = wipe σ vs ∧ te σ2 H5 C)
    (hd : ∀ (p : Addr) (xs : List V) (l : List β) (G' H' : Hp), Stp G H1 G' H' → G' p = some (.lst xs) → l.length = n → (∀ b ∈ l, Pr b) → Paired (R G') xs l → Q (.ref p) H') :
    LcT J g tYes te vs σ H1 Q := by
  intro D hD
  refine lc_it w (fun i H => ∃ xs l G', Acc G H1 D xs G' H ∧ l.length = i ∧ (∀ b ∈ l, Pr b) ∧ Paired (R G') xs l) ⟨[], [], G, Acc.start k hD, rfl, (fun b h => by cases h), .nil⟩ ?_ ?_ ?_
  · rintro i H _ ⟨xs, l, G', a, _⟩
    exact hG G' H a.g a.k
  · rintro i x H H' hi ⟨xs, l, G', a, hl, hp, pr⟩ hY
    have fin := hs i x G' H H' (fun y H4 => ∃ acc, H4 D = some (.lst acc) ∧ acc.length < sizeLine ∧ ∃ xs l G', Acc G H1 D xs G' (upd H4 D (.lst (acc ++ [y]))) ∧ l.length = i + 1 ∧ (∀ b ∈ l, Pr b) ∧ Paired (R G') xs l) hi a.g a.k hY (fun y b G4 H4 hb s r => by
      have a2 := a.step s
      refine ⟨xs, a2.at_, ?_, xs ++ [y], l ++ [b], G4, a2.push, by simp [hl], fun z hz => ?_, paired_app (paired_up s.g pr) (.cons r .nil)⟩
      · have e1 := paired_len pr
        rw [sizeLine_eq]
        omega
      · rcases List.mem_append.mp hz with h | h
        · exact hp z h
        · cases List.mem_singleton.mp h
          exact hb)
    exact fin
  · rintro H ⟨xs, l, G', a, hl, hp, pr⟩
    exact hd D xs l _ H a.done upd_same hl hp (paired_up (same_new a.gd) pr)
section
variable {P : Program} {w : World} {K : PySem.W.Frag} {mg : Str → Option Value} {base : Heap} {A : Adr} {fI : Addr} {fd : FuncData}
def spMixed (K : PySem.W.Frag) : Sp := fun vs H Q _ => ∃ (G : Hp) (ns : List Int) (k : Int) (v : V), vs = [v, .int k] ∧ Same G H ∧ RScr K G v ns ∧ ns.length ≤ 63 ∧ 0 ≤ k ∧ k ≤ 10000 ∧ ∀ c G' H', 0 ≤ c → c < 2147483647 → Stp G H G' H' → Q (.int c) H'
theorem ok_l_mixed (T : Bas K mg) (D : Std K mg "_law_mixed" "_law_mixed" "_law_mixed" s_l_mixed ["_law_script", "_law_k"]) : Cal P w K mg base CX0 "_law_mixed" ["_law_script", "_law_k"] 1 (spMixed K) := by
  refine D.cal sc_l_mixed (fun vs H Q E h => ?_) (fun f cdv A outer s H vs Q E hr h => ?_)
  · obtain ⟨G, ns, k, v, rfl, _⟩ := h; rfl
  · obtain ⟨G, ns, k, v, rfl, kk, ⟨a, rfl, ha⟩, hl, k0, k1, q⟩ := h
    refine ⟨_, (pss_cons (ps_if (pt_cmpR (opEq hr) (pv 0) (pe_lst pa_nil) (nomark _)) (pss_one (ps_ret (pe_op opMul (pv 1) pe_int))) pss_nil)
  (pss_one (ps_ret (pe_op op_mod (pe_op opMul (pe_op opAdd (pe_op opAdd (pe_ix ix_seq (pv 0) (pe_op op_mod (pv 1) (pe_callB callLen (by rfl) T.z_len PySem.boot_len (pa_cons (pv 0) pa_nil))) (fun _ _ => rfl)) pe_int) (pv 1)) (pe_op opAdd pe_int (pe_op opMul pe_int (pv 1)))) pe_int)))), ?_⟩
    walk_at "rd"
    refine w_lstK kk rfl fun p1 G1 H1 s1 hp1 _ => ?_
    have haH := sql_same ha (s1.g.trans s1.k)
    refine g_eqE (.lst haH (dp_ints ns)) (shp_ints ns) (SqL.of (s1.k _ _ hp1)) ?_
    walk_at "rd"
    have e : decide (ns.map PyData.int = []) = decide (ns = []) := by cases ns <;> simp
    rw [e]
    refine w_ite (fun c => ?_) (fun c => ?_)
    · walk_at "rd"
      refine g_mul (.inr (by omega)) ?_
      exact q _ G1 H1 (by omega) (by omega) s1
    · have hpos : 0 < ns.length := List.length_pos_iff.mpr c
      walk_at "rd"
      refine w_lenL haH ?_
      refine g_mod (by simp; omega) ?_
      have hj : (k % ((ns.map V.int).length : Nat)).toNat < ns.length := by
        have h1 : 0 ≤ k % ((ns.map V.int).length : Nat) := Int.emod_nonneg _ (by simp; omega)
        have h2 : k % ((ns.map V.int).length : Nat) < ((ns.map V.int).length : Nat) := Int.emod_lt_of_pos _ (by simp; omega)
        rw [List.length_map] at h1 h2 ⊢
        omega
      have hx : (ns.map V.int)[(k % ((ns.map V.int).length : Nat)).toNat]? = some (.int ns[(k % ((ns.map V.int).length : Nat)).toNat]) := by
        rw [List.getElem?_map, List.getElem?_eq_getElem hj]
        rfl
      have hat := atI_nat hx
      rw [Int.toNat_of_nonneg (Int.emod_nonneg _ (by simp; omega))] at hat
      refine g_ixL haH hat ?_
      walk_at "rd"
      refine g_mul (.inl (by omega)) ?_
      walk_at "rd"
      refine g_mul (.inr (by omega)) ?_
      refine g_mod (by omega) ?_
      exact q _ G1 H1 (Int.emod_nonneg _ (by omega)) (Int.emod_lt_of_pos _ (by omega)) s1
def spLLay : Sp := fun vs H Q _ => ∃ (G : Hp) (c : Int), vs = [.int c] ∧ Same G H ∧ 0 ≤ c ∧ ∀ v' y G' H', Stp G H G' H' → OkLay y → RLay G' v' y → Q v' H'
theorem min_le {a b : Int} : (if b < a then b else a) ≤ a ∧ (if b < a then b else a) ≤ b := by split <;> omega
theorem min_or {a b : Int} : (if b < a then b else a) = a ∨ (if b < a then b else a) = b := by split <;> simp
theorem okLay_mk {u w l b : Int} (h1 : 0 ≤ u) (h2 : u ≤ 6) (h3 : 1 ≤ w) (h4 : w ≤ 20) (h5 : 0 ≤ l) (h6 : l ≤ 24) (h7 : 2 ≤ b) (h8 : b ≤ 25) (h9 : u = 0 → w = 1) (h10 : 0 < u → w - 1 ≤ l) (h11 : b - 1 ≤ u * w + l) : OkLay ⟨u, w, l, b⟩ := ⟨h1, h2, h3, h4, h5, h6, h7, h8, h9, h10, h11⟩
theorem ok_l_layout (T : Bas K mg) (D : Std K mg "_law_layout" "_law_layout" "_law_layout" s_l_layout ["_law_cell"]) : Cal P w K mg base CX0 "_law_layout" ["_law_cell"] 1 spLLay := by
  refine D.cal sc_l_layout (fun vs H Q E h => ?_) (fun f cdv A outer s H vs Q E hr h => ?_)
  · obtain ⟨G, c, rfl, _⟩ := h; rfl
  · obtain ⟨G, c, rfl, k, c0, q⟩ := h
    refine ⟨_, (pss_cons (ps_if (pt_cmpR (opEq hr) (pe_op op_mod (pv 0) pe_int) pe_int (nomark _)) (pss_cons (ps_set (i := 1) sc_l_layout.nd rfl (by first | exact Or.inl rfl | exact Or.inr rfl) (pe_op opAdd pe_int (pe_op op_mod (pe_op op_fdiv (pv 0) pe_int) pe_int)))
  (pss_one (ps_ret (pe_tup (pa_cons pe_int (pa_cons pe_int (pa_cons (pe_callB (callMin rfl) (by rfl) T.z_min boot_min (pa_cons pe_int (pa_cons (pe_op opAdd (pe_op op_sub (pv 1) pe_int) (pe_op op_mod (pe_op op_fdiv (pv 0) pe_int) pe_int)) pa_nil))) (pa_cons (pv 1) pa_nil)))))))) pss_nil)
  (pss_cons (ps_set (i := 2) sc_l_layout.nd rfl (by first | exact Or.inl rfl | exact Or.inr rfl) (pe_op opAdd pe_int (pe_op op_mod (pe_op op_fdiv (pv 0) pe_int) pe_int)))
  (pss_cons (ps_set (i := 3) sc_l_layout.nd rfl (by first | exact Or.inl rfl | exact Or.inr rfl) (pe_ix ix_seq (pe_lst (pa_cons pe_int (pa_cons (pe_op opAdd pe_int (pe_op op_mod (pe_op op_fdiv (pv 0) pe_int) pe_int)) pa_nil))) (pe_op op_mod (pe_op op_fdiv (pv 0) pe_int) pe_int) (fun _ _ => rfl)))
  (pss_cons (ps_set (i := 4) sc_l_layout.nd rfl (by first | exact Or.inl rfl | exact Or.inr rfl) (pe_op opAdd (pe_op op_sub (pv 3) pe_int) (pe_op op_mod (pe_op op_fdiv (pv 0) pe_int) pe_int)))
  (pss_cons (ps_set (i := 5) sc_l_layout.nd rfl (by first | exact Or.inl rfl | exact Or.inr rfl) (pe_callB (callMin rfl) (by rfl) T.z_min boot_min (pa_cons pe_int (pa_cons (pe_op opAdd (pe_op opAdd (pe_op opMul (pv 2) (pv 3)) (pv 4)) pe_int) pa_nil))))
  (pss_one (ps_ret (pe_tup (pa_cons (pv 2) (pa_cons (pv 3) (pa_cons (pv 4) (pa_cons (pe_op opAdd pe_int (pe_op op_mod (pe_op op_fdiv (pv 0) pe_int) (pe_op op_sub (pv 5) pe_int))) pa_nil)))))))))))), ?_⟩
    walk_at "rd"
    refine g_mod (by omega) ?_
    walk_at "rd"
    refine w_ite (fun c1 => ?_) (fun c1 => ?_)
    · walk_at "rd"
      refine g_fdiv ⟨by omega, by omega⟩ ?_
      walk_at "rd"
      refine g_mod (by omega) ?_
      walk_at "rd"
      refine g_fdiv ⟨by omega, by omega⟩ ?_
      walk_at "rd"
      refine g_mod (by omega) ?_
      walk_at "rd"
      have m1 := @min_le 24 (2 + c / 3 % 24 - 1 + c / 72 % 4)
      have m2 := @min_or 24 (2 + c / 3 % 24 - 1 + c / 72 % 4)
      generalize hm : (if 2 + c / 3 % 24 - 1 + c / 72 % 4 < 24 then 2 + c / 3 % 24 - 1 + c / 72 % 4 else 24) = lo at m1 m2 ⊢
      refine w_tupK k rfl fun p1 G1 H1 s1 hp1 _ => ?_
      exact q _ ⟨0, 1, lo, 2 + c / 3 % 24⟩ G1 H1 s1 (okLay_mk (by omega) (by omega) (by omega) (by omega) (by omega) (by omega) (by omega) (by omega) (by omega) (by omega) (by omega)) ⟨p1, rfl, hp1⟩
    · walk_at "rd"
      refine g_fdiv ⟨by omega, by omega⟩ ?_
      walk_at "rd"
      refine g_mod (by omega) ?_
      walk_at "rd"
      refine g_fdiv ⟨by omega, by omega⟩ ?_
      walk_at "rd"
      refine g_mod (by omega) ?_
      walk_at "rd"
      refine w_lstK k rfl fun p1 G1 H1 s1 hp1 _ => ?_
      walk_at "rd"
      refine g_fdiv ⟨by omega, by omega⟩ ?_
      walk_at "rd"
      refine g_mod (by omega) ?_
      obtain ⟨wt, w0, w1, hat⟩ : ∃ wt : Int, 1 ≤ wt ∧ wt ≤ 20 ∧ atI [V.int 5, V.int (1 + c / 18 % 20)] (c / 360 % 2) = some (.int wt) := by
        rcases (show c / 360 % 2 = 0 ∨ c / 360 % 2 = 1 by omega) with e | e
        · exact ⟨5, by omega, by omega, by rw [e]; rfl⟩
        · exact ⟨1 + c / 18 % 20, by omega, by omega, by rw [e]; rfl⟩
      refine g_ixL (by walk_at "L") hat ?_
      walk_at "rd"
      refine g_fdiv ⟨by omega, by omega⟩ ?_
      walk_at "rd"
      refine g_mod (by omega) ?_
      walk_at "rd"
      refine g_mul (.inr (by omega)) ?_
      walk_at "rd"
      generalize hp : (1 + c / 3 % 6) * wt = pr
      have hpr : 1 ≤ pr := by
        rw [← hp]
        have h1 : 0 < (1 + c / 3 % 6) := by omega
        have := Int.mul_pos h1 (show 0 < wt by omega)
        omega
      have m1 := @min_le 25 (pr + (wt - 1 + c / 720 % 6) + 1)
      have m2 := @min_or 25 (pr + (wt - 1 + c / 720 % 6) + 1)
      refine g_fdiv ⟨by omega, by omega⟩ ?_
      walk_at "rd"
      refine g_mod (by omega) ?_
      walk_at "rd"
      generalize hm : (if pr + (wt - 1 + c / 720 % 6) + 1 < 25 then pr + (wt - 1 + c / 720 % 6) + 1 else 25) = mo at m1 m2 ⊢
      have b0 : 0 ≤ c / 4320 % (mo - 1) := Int.emod_nonneg _ (by omega)
      have b1 : c / 4320 % (mo - 1) < mo - 1 := Int.emod_lt_of_pos _ (by omega)
      generalize c / 4320 % (mo - 1) = bb at b0 b1 ⊢
      refine w_tupK s1.k rfl fun p2 G2 H2 s2 hp2 _ => ?_
      exact q _ ⟨1 + c / 3 % 6, wt, wt - 1 + c / 720 % 6, 2 + bb⟩ G2 H2 (s1.trans s2) (okLay_mk (by omega) (by omega) (by omega) (by omega) (by omega) (by omega) (by omega) (by omega) (by omega) (by omega) (by rw [hp]; omega)) ⟨p2, rfl, hp2⟩
end
end BF
namespace BF
open PySem PySem.Spec PyProof.Rows L2 TL HotX
local macro_rules | `(tactic| walk_at "rd") => `(tactic| repeat (first
  | with_reducible refine w_var rfl ?_ | with_reducible refine w_c ?_ | with_reducible refine w_seq ?_ | with_reducible refine w_op ?_
  | with_reducible refine w_asg ?_ | with_reducible refine w_name ?_ | with_reducible refine w_ret ?_ | with_reducible refine w_drop ?_ | with_reducible refine w_next ?_
  | with_reducible refine w_if ?_ | with_reducible refine w_test ?_ | with_reducible refine w_B ?_ | with_reducible refine w_bl ?_ | with_reducible refine w_not ?_
  | with_reducible refine w_and ?_ | with_reducible refine w_or ?_ | with_reducible refine w_nil ?_ | with_reducible refine w_cons ?_ | with_reducible refine w_cb ?_
  | with_reducible refine w_chain ?_ | with_reducible refine w_call ?_ | with_reducible refine w_un ?_ | with_reducible refine w_neg ?_
  | with_reducible refine w_andV ?_ | with_reducible refine w_orV ?_ | with_reducible refine w_notV ?_ | with_reducible refine w_iteT ?_ | with_reducible refine w_iteF ?_ | with_reducible refine w_ntT ?_ | with_reducible refine w_ntF ?_
  | with_reducible refine g_add ?_ | with_reducible refine g_sub ?_ | with_reducible refine g_cmp ?_ | with_reducible refine g_eqI ?_ | with_reducible refine g_neI ?_ | with_reducible refine g_eqS ?_ | with_reducible refine g_neS ?_
  | with_reducible refine w_min ?_ | with_reducible refine w_max ?_ | with_reducible refine w_isN ?_ | with_reducible refine w_notN ?_ | with_reducible refine w_notSg ?_ | with_reducible refine w_gcons ?_ | with_reducible refine w_gnil ?_ | with_reducible refine w_sl ?_ | with_reducible refine w_noP ?_ | with_reducible refine w_part ?_ | with_reducible refine w_int1 ?_ | with_reducible refine w_tup ?_ | with_reducible refine w_lst ?_ | with_reducible refine g_intB ?_ | with_reducible refine w_fld ?_ | with_reducible refine w_meth ?_ | with_reducible refine w_make ?_
  | with_reducible refine w_lc ?_ | with_reducible refine w_for ?_ | with_reducible refine w_iL ?_ | with_reducible refine w_iT ?_ | with_reducible refine w_iS ?_ | with_reducible refine w_iRev ?_ | with_reducible refine w_iEn ?_ | with_reducible refine w_iZip ?_ | with_reducible refine w_iR1 ?_
  | with_reducible refine w_bm ?_ | with_reducible refine w_bm0 ?_ | with_reducible refine w_M1 ?_ | with_reducible refine w_isStr ?_
  | dsimp only))
local macro_rules | `(tactic| walk_at "same") => `(tactic| first | exact Same.refl _ | assumption | exact Stp.g (by assumption) | (refine Same.trans (Stp.g (by assumption)) ?_; walk_at "same"))
local macro_rules | `(tactic| walk_at "k") => `(tactic| first | assumption | exact Stp.k (by assumption) | exact Acc.k (by assumption))
local macro_rules | `(tactic| walk_at "stp") => `(tactic| first | assumption | exact Stp.refl (by walk_at "k") | (refine Stp.trans (by assumption) ?_; walk_at "stp"))
local macro_rules | `(tactic| walk_at "up") => `(tactic| first | assumption | exact up (by assumption) (by walk_at "same"))
local macro_rules | `(tactic| walk_at "gh") => `(tactic| first | assumption | exact Stp.k (by assumption) | (refine Same.trans (Stp.g (by assumption)) ?_; walk_at "gh"))
local macro_rules | `(tactic| walk_at "at") => `(tactic| first | assumption | exact at_ (by assumption) (by walk_at "gh"))
local macro_rules | `(tactic| walk_at "L") => `(tactic| exact SqL.of (by walk_at "at"))
local macro_rules | `(tactic| walk_at "T") => `(tactic| exact SqT.of (by walk_at "at"))
local macro_rules | `(tactic| walk_at "o1") => `(tactic| first | with_reducible refine w_yes (by first | assumption | omega) ?_ | with_reducible refine w_no (by first | assumption | omega) ?_ | with_reducible refine w_yesN (by first | assumption | omega) ?_ | with_reducible refine w_noN (by first | assumption | omega) ?_)
local macro_rules | `(tactic| walk_at "o") => `(tactic| (walk_at "rd"; repeat (walk_at "o1"; walk_at "rd")))

theorem sum_le {n : Nat} : ∀ l : List Str, (∀ p ∈ l, p.length ≤ n) → (l.map (·.length)).sum ≤ l.length * n := fun l => by
  induction l with
  | nil => intro _; simp
  | cons a l ih =>
    intro h
    have h1 := h a (by simp)
    have h2 := ih fun p hp => h p (List.mem_cons_of_mem _ hp)
    simp only [List.map_cons, List.sum_cons, List.length_cons, Nat.succ_mul]
    omega
theorem rev_at {α β : Type} {xs : List α} {l : List β} {F : α → β → Prop} {i : Nat} {x : α} (hl : xs.length = l.length) (h : xs.reverse[i]? = some x) (g : ∀ (j : Nat) (x : α) (b : β), xs[j]? = some x → l[j]? = some b → F x b) : ∃ b, l.reverse[i]? = some b ∧ F x b := by
  have hi : i < xs.length := by
    have := (List.getElem?_eq_some_iff.mp h).1
    simpa using this
  rw [List.getElem?_reverse hi] at h
  have hj : xs.length - 1 - i < l.length := by omega
  refine ⟨l[xs.length - 1 - i], ?_, g _ x _ h (List.getElem?_eq_getElem hj)⟩
  rw [List.getElem?_reverse (by omega), show l.length - 1 - i = xs.length - 1 - i by omega]
  exact List.getElem?_eq_getElem hj
section
variable {P : Program} {w : World} {K : PySem.W.Frag} {mg : Str → Option Value} {base : Heap} {A : Adr} {fI : Addr} {fd : FuncData}
def spLFrame (K : PySem.W.Frag) : Sp := fun vs H Q _ => ∃ (G : Hp) (ns : List Int) (v : V), vs = [v, .int 3, .int 5] ∧ Same G H ∧ RScr K G v ns ∧ ns.length ≤ 63 ∧ ∀ v' fr G' H', Stp G H G' H' → RFrame G' v' fr → 1 ≤ fr.length → fr.length ≤ 5 → (∀ y ∈ fr, OkLay y) → Q v' H'
theorem ok_l_frame (T : Bas K mg) (f__law_mixed : Cal P w K mg base CX0 "_law_mixed" ["_law_script", "_law_k"] 1 (spMixed K)) (f__law_layout : Cal P w K mg base CX0 "_law_layout" ["_law_cell"] 1 spLLay)
    (D : Std K mg "_law_frame" "_law_frame" "_law_frame" s_l_frame ["_law_script", "_law_at", "_law_most"]) : Cal P w K mg base CX0 "_law_frame" ["_law_script", "_law_at", "_law_most"] 2 (spLFrame K) := by
  refine D.cal sc_l_frame (fun vs H Q E h => ?_) (fun f cdv A0 outer s H vs Q E hr h => ?_)
  · obtain ⟨G, ns, v, rfl, _⟩ := h; rfl
  · obtain ⟨G, ns, v, rfl, k, hs, hl, q⟩ := h
    refine ⟨_, (pss_one (ps_ret (pe_lc (own := [("_law_k", 3)]) (g := gName 3) (tt := tYes) rfl sc_l_frame.nd (pi_range1 (by rfl) T.z_range (pa_cons (pe_op opAdd pe_int (pe_op op_mod (pe_cal f__law_mixed hr (by decide) pass0 (pa_cons (pv 0) (pa_cons (pv 1) pa_nil))) (pv 2))) pa_nil)) (blkOk_by (own := [("_law_k", 3)]) (N := N_l_frame) (sc := defScope s_l_frame) (by decide +kernel)) (fun _ _ _ _ _ => (pg_name (i := 3) sc_l_frame.nd rfl (by first | exact Or.inl rfl | exact Or.inr rfl))) (fun _ _ _ _ _ => pts_nil) (fun _ _ _ _ _ => (pe_cal f__law_layout hr (by decide) pass0 (pa_cons (pe_cal f__law_mixed hr (by decide) pass0 (pa_cons (pv 0) (pa_cons (pe_op opAdd (pe_op opAdd (pv 1) pe_int) (pv 3)) pa_nil))) pa_nil)))))), ?_⟩
    walk_at "rd"
    refine ⟨G, ns, 3, _, rfl, k, hs, hl, by omega, by omega, ?_⟩
    intro c G1 H1 c0 c1 s1
    walk_at "rd"
    refine g_mod (by omega) ?_
    walk_at "rd"
    have e1 : 0 ≤ c % 5 := by omega
    have e2 : c % 5 < 5 := by omega
    generalize c % 5 = m at e1 e2
    refine ⟨_, rfl, by omega, by omega, ?_⟩
    refine lc_any (R := RLay) (walk_range (lo := 0) (n := (1 + m).toNat)) s1.k OkLay (by omega) (fun _ _ _ _ => True.intro) (fun i x G2 H2 H3 C hi g2 k2 hY hC => ?_) (fun p xs l G' H' s' hp hl' hpr rr => ?_)
    · obtain ⟨rfl, rfl⟩ := hY
      walk_at "rd"
      refine ⟨wipe1, ?_⟩
      walk_at "rd"
      refine ⟨G2, ns, _, _, rfl, k2, up (R := RScr K) hs (s1.g.trans g2), hl, by omega, by omega, ?_⟩
      intro c2 G3 H3 c20 c21 s3
      walk_at "rd"
      refine ⟨G3, c2, rfl, s3.k, c20, ?_⟩
      intro v4 y G4 H4 s4 oy ry
      exact hC v4 y G4 H4 oy (s3.trans s4) ry
    · exact q _ l G' H' (s1.trans s') ⟨p, xs, rfl, hp, rr⟩ (by omega) (by omega) hpr
def spLWritten : Sp := fun vs H Q _ => ∃ (G : Hp) (fr : List Lay) (v : V), vs = [v] ∧ Same G H ∧ RFrame G v fr ∧ (∀ y ∈ fr, OkLay y) ∧ fr.length ≤ 100 ∧ ∀ G' H', Stp G H G' H' → Q (.str (writtenT fr)) H'
theorem ok_l_written (T : Bas K mg) (D : Std K mg "_law_written" "_law_written" "_law_written" s_l_written ["_law_frame_here"]) : Cal P w K mg base CX0 "_law_written" ["_law_frame_here"] 1 spLWritten := by
  refine D.cal sc_l_written (fun vs H Q E h => ?_) (fun f cdv A0 outer s H vs Q E hr h => ?_)
  · obtain ⟨G, fr, v, rfl, _⟩ := h; rfl
  · obtain ⟨G, fr, v, rfl, k, ⟨pf, xf, rfl, hf, rf⟩, ol, hl, q⟩ := h
    have lf := paired_len rf
    refine ⟨_, (pss_cons (ps_set (i := 1) sc_l_written.nd rfl (by first | exact Or.inl rfl | exact Or.inr rfl) (pe_lst pa_nil))
  (pss_cons (ps_for PassesOwn.never rfl (pi_list (pe_revL (pv 0))) (pg_tup rfl (pgs_cons (pg_name (i := 2) sc_l_written.nd rfl (by first | exact Or.inl rfl | exact Or.inr rfl)) (pgs_cons (pg_name (i := 3) sc_l_written.nd rfl (by first | exact Or.inl rfl | exact Or.inr rfl)) (pgs_cons (pg_name (i := 4) sc_l_written.nd rfl (by first | exact Or.inl rfl | exact Or.inr rfl)) (pgs_cons (pg_name (i := 5) sc_l_written.nd rfl (by first | exact Or.inl rfl | exact Or.inr rfl)) pgs_nil)))))
  (pss_one (ps_expr (pe_bm PySem.F.plainAttrs_list PySem.F.slot_list_append PySem.F.type_list_append mt_append (pv 1) (pa_cons (pe_op opAdd (pe_op opAdd (pe_op opAdd (pe_op opAdd (pe_op opAdd (pe_op opAdd (pe_callTy callStr (by rfl) T.z_str boot_str (pa_cons (pv 2) pa_nil)) pe_str) (pe_callTy callStr (by rfl) T.z_str boot_str (pa_cons (pv 3) pa_nil))) pe_str) (pe_callTy callStr (by rfl) T.z_str boot_str (pa_cons (pv 4) pa_nil))) pe_str) (pe_callTy callStr (by rfl) T.z_str boot_str (pa_cons (pv 5) pa_nil))) pa_nil)))))
  (pss_one (ps_ret (peJoin pe_str (pv 1)))))), ?_⟩
    walk_at "rd"
    refine w_acc k fun DD H1 a1 => ?_
    walk_at "rd"
    refine w_revL ?_
    walk_at "rd"
    refine ⟨pf, xf, rfl, SqL.of (a1.k _ _ hf), fun pr hpr => ?_⟩
    have s2 := Stp.new (o := HO.lst xf.reverse) a1.k hpr
    have a2 := a1.step s2
    have h2 : (upd G pr (.lst xf.reverse)) pr = some (.lst xf.reverse) := upd_same
    refine ⟨pr, rfl, ⟨_, SqL.of upd_same⟩, ?_⟩
    refine for_go (walk_list (xs := xf.reverse)) (fun i σ H' => ∃ (G' : Hp) (o2 o3 o4 o5 : Option V), Acc G H DD (((fr.reverse.map Lay.text).take i).map V.str) G' H' ∧ Same (upd G pr (.lst xf.reverse)) G' ∧ σ = [some (.ref pf), some (.ref DD), o2, o3, o4, o5]) ?_ ?_ ?_ ?_
    · exact ⟨_, none, none, none, none, a2, Same.refl _, rfl⟩
    · rintro i σ H' _ ⟨G', o2, o3, o4, o5, a', g', _⟩
      exact SqL.of (a'.k _ _ (g' _ _ h2))
    · rintro i x σ H3 H3' hi ⟨G3, o2, o3, o4, o5, a3, g3, rfl⟩ ⟨rfl, hx⟩
      have g0 : Same G G3 := s2.g.trans g3
      obtain ⟨y, ey, p0, rfl, h0⟩ := rev_at (F := RLay G) lf hx fun j x b h1 h2 => by
        obtain ⟨b', e1, e2⟩ := paired_get rf h1
        rw [h2] at e1
        cases e1
        exact e2
      have oy : OkLay y := ol y (List.mem_reverse.mp (List.mem_of_getElem? ey))
      obtain ⟨u0, u1, w0, w1, l0, l1, b0, b1, _, _, _⟩ := oy
      have n1 := num_len (n := y.u) u0 (by omega)
      have n2 := num_len (n := y.w) (by omega) (by omega)
      have n3 := num_len (n := y.l) l0 (by omega)
      have n4 := num_len (n := y.b) (by omega) (by omega)
      have lx : ("x" : Str).length = 1 := by decide +kernel
      have lp : ("+" : Str).length = 1 := by decide +kernel
      have lc : (":" : Str).length = 1 := by decide +kernel
      have la : (fr.reverse.map Lay.text)[i]? = some y.text := by rw [List.getElem?_map, ey]; rfl
      have ht : ((fr.reverse.map Lay.text).take (i + 1)).map V.str = ((fr.reverse.map Lay.text).take i).map V.str ++ [.str y.text] := by
        rw [List.take_succ, la, List.map_append]
        rfl
      walk_at "rd"
      refine w_gtup (SqT.of (a3.k _ _ (g0 _ _ h0))) rfl ?_
      unfold layV
      walk_at "rd"
      refine w_tyL a3.at_ ?_
      walk_at "rd"
      refine w_strI (num_log u0 (by omega)) ?_
      walk_at "rd"
      refine g_addS (by rw [sizeLine_eq]; omega) ?_
      walk_at "rd"
      refine w_strI (num_log (by omega) (by omega)) ?_
      refine g_addS (by rw [app_len, sizeLine_eq]; omega) ?_
      walk_at "rd"
      refine g_addS (by rw [app_len, app_len, sizeLine_eq]; omega) ?_
      walk_at "rd"
      refine w_strI (num_log l0 (by omega)) ?_
      refine g_addS (by rw [app_len, app_len, app_len, sizeLine_eq]; omega) ?_
      walk_at "rd"
      refine g_addS (by rw [app_len, app_len, app_len, app_len, sizeLine_eq]; omega) ?_
      walk_at "rd"
      refine w_strI (num_log (by omega) (by omega)) ?_
      refine g_addS (by rw [app_len, app_len, app_len, app_len, app_len, sizeLine_eq]; omega) ?_
      walk_at "rd"
      refine w_app a3 (by simp; omega) fun a4 => ?_
      walk_at "rd"
      refine ⟨G3, _, _, _, _, ?_, g3, rfl⟩
      rw [ht]
      exact a4
    · rintro σ H' ⟨G3, o2, o3, o4, o5, a3, g3, rfl⟩
      walk_at "rd"
      have e : (fr.reverse.map Lay.text).take xf.reverse.length = fr.reverse.map Lay.text := List.take_of_length_le (by simp; omega)
      rw [e] at a3
      refine w_join (ys := fr.reverse.map Lay.text) (SqL.of a3.at_) ?_ ?_
      · have h1 := sum_le (n := 100) (fr.reverse.map Lay.text) fun p hp => by
          obtain ⟨y, hy, rfl⟩ := List.mem_map.mp hp
          exact lay_len (ol y (List.mem_reverse.mp hy))
        rw [len_blank]
        simp only [List.length_map, List.length_reverse] at h1 ⊢
        omega
      · exact q _ _ a3.done
def spLName (K : PySem.W.Frag) : Sp := fun vs H Q _ => ∃ (G : Hp) (ns : List Int) (v : V), vs = [v, .int 3] ∧ Same G H ∧ RScr K G v ns ∧ ns.length ≤ 63 ∧ ∀ nm G' H', Stp G H G' H' → OkName nm → Q (.str nm) H'
theorem mem_rep {c : Nat} {x : Str} {n : Nat} (h : c ∈ tl (repT x n)) : c ∈ tl x := by
  have h' : c ∈ (List.replicate n (tl x)).flatten := h
  obtain ⟨l, hl, hc⟩ := List.mem_flatten.mp h'
  rw [List.eq_of_mem_replicate hl] at hc
  exact hc
theorem ok_l_name (T : Bas K mg) (f__law_mixed : Cal P w K mg base CX0 "_law_mixed" ["_law_script", "_law_k"] 1 (spMixed K)) (D : Std K mg "_law_name" "_law_name" "_law_name" s_l_name ["_law_script", "_law_k"]) :
    Cal P w K mg base CX0 "_law_name" ["_law_script", "_law_k"] 2 (spLName K) := by
  refine D.cal sc_l_name (fun vs H Q E h => ?_) (fun f cdv A0 outer s H vs Q E hr h => ?_)
  · obtain ⟨G, ns, v, rfl, _⟩ := h; rfl
  · obtain ⟨G, ns, v, rfl, k, hs, hl, q⟩ := h
    refine ⟨_, (pss_cons (ps_set (i := 2) sc_l_name.nd rfl (by first | exact Or.inl rfl | exact Or.inr rfl) (pe_cal f__law_mixed hr (by decide) pass0 (pa_cons (pv 0) (pa_cons pe_int pa_nil))))
  (pss_one (ps_ret (pe_op opAdd (pe_op opAdd (pe_op opMul pe_str (pe_op op_mod (pv 2) pe_int)) (pe_ix ix_seq pe_str (pe_op op_mod (pv 1) pe_int) (fun _ _ => rfl))) (pe_op opMul pe_str (pe_op op_mod (pe_op op_fdiv (pv 2) pe_int) pe_int)))))), ?_⟩
    walk_at "rd"
    refine ⟨G, ns, 0, _, rfl, k, hs, hl, by omega, by omega, ?_⟩
    intro c G1 H1 c0 c1 s1
    walk_at "rd"
    refine g_mod (by omega) ?_
    have lq : ("q" : Str).length = 1 := by decide +kernel
    have lz : ("z" : Str).length = 1 := by decide +kernel
    refine g_mulS (by omega) (by omega) (by omega) ?_
    walk_at "rd"
    refine g_mod (by omega) ?_
    have la : ("abcdefghijklmnop" : Str).length = 16 := by decide +kernel
    refine g_ixS (by rw [la, sizeLine_eq]; omega) (c := 100) (by decide +kernel) ?_
    have l1 : (repT "q" (c % 4).toNat).length = (c % 4).toNat := by rw [rep_len, lq, Nat.mul_one]
    have l2 : (repT "z" (c / 4 % 5).toNat).length = (c / 4 % 5).toNat := by rw [rep_len, lz, Nat.mul_one]
    have l3 : (⟨#[100]⟩ : Str).length = 1 := rfl
    refine g_addS (by rw [l1, l3, sizeLine_eq]; omega) ?_
    walk_at "rd"
    refine g_fdiv ⟨by omega, by omega⟩ ?_
    walk_at "rd"
    refine g_mod (by omega) ?_
    refine g_mulS (by omega) (by omega) (by omega) ?_
    refine g_addS (by rw [app_len, l1, l2, l3, sizeLine_eq]; omega) ?_
    refine q _ G1 H1 s1 ⟨by rw [app_len, app_len, l1, l2, l3]; omega, by rw [app_len, app_len, l1, l2, l3]; omega, fun c hc => ?_⟩
    rw [tl_append, tl_append] at hc
    rcases List.mem_append.mp hc with hc | hc
    · rcases List.mem_append.mp hc with hc | hc
      · have h1 : ∀ c ∈ tl ("q" : Str), c ∈ tl ("abcdefghijklmnopqrstuvwxyz" : Str) := by decide +kernel
        exact h1 c (mem_rep hc)
      · have h1 : ∀ c ∈ tl (⟨#[100]⟩ : Str), c ∈ tl ("abcdefghijklmnopqrstuvwxyz" : Str) := by decide +kernel
        exact h1 c hc
    · have h1 : ∀ c ∈ tl ("z" : Str), c ∈ tl ("abcdefghijklmnopqrstuvwxyz" : Str) := by decide +kernel
      exact h1 c (mem_rep hc)
theorem ok_l_shown (T : Bas K mg) (D : Std K mg "_law_shown" "_law_shown" "_law_shown" s_l_shown ["_law_standing"]) : Cal P w K mg base CX0 "_law_shown" ["_law_standing"] 1 spShown := by
  refine D.cal sc_l_shown (fun vs H Q E h => ?_) (fun f cdv A0 outer s H vs Q E hr h => ?_)
  · obtain ⟨G, st, v, rfl, _⟩ := h; rfl
  · obtain ⟨G, st, v, rfl, k, ⟨ps, xs, rfl, hs, rs⟩, o, hl, q⟩ := h
    have lx := paired_len rs
    refine ⟨_, (pss_one (ps_ret (peJoin pe_str (pe_lc (own := [("_law_high", 1), ("_law_low", 2)]) (g := gTup K 2 (gCons (gName 1) (gCons (gName 2) gNil))) (tt := tYes) rfl sc_l_shown.nd (pi_list (pe_revL (pv 0))) (blkOk_by (own := [("_law_high", 1), ("_law_low", 2)]) (N := N_l_shown) (sc := defScope s_l_shown) (by decide +kernel)) (fun _ _ _ _ _ => (pg_tup rfl (pgs_cons (pg_name (i := 1) sc_l_shown.nd rfl (by first | exact Or.inl rfl | exact Or.inr rfl)) (pgs_cons (pg_name (i := 2) sc_l_shown.nd rfl (by first | exact Or.inl rfl | exact Or.inr rfl)) pgs_nil)))) (fun _ _ _ _ _ => pts_nil) (fun _ _ _ _ _ => (pe_op opAdd (pe_op opAdd (pe_callTy callStr (by rfl) T.z_str boot_str (pa_cons (pv 1) pa_nil)) pe_str) (pe_callTy callStr (by rfl) T.z_str boot_str (pa_cons (pv 2) pa_nil)))))))), ?_⟩
    walk_at "rd"
    refine w_revL ?_
    walk_at "rd"
    refine ⟨ps, xs, rfl, by walk_at "L", fun pr hpr => ?_⟩
    have s2 := Stp.new (o := HO.lst xs.reverse) k hpr
    have h2 : (upd G pr (.lst xs.reverse)) pr = some (.lst xs.reverse) := upd_same
    refine ⟨pr, rfl, ⟨_, SqL.of upd_same⟩, ?_⟩
    refine lc_map (R := RV V.str) (walk_list (xs := xs.reverse)) s2.k (fun i => rodT (st.reverse.getD i (0, 0))) (by simp; omega) (fun G' H' g k' => SqL.of (k' _ _ (g _ _ h2))) (fun i x G5 H5 H6 C hi g5 k5 hY hC => ?_) (fun pr2 xr G7 H7 s7 hpr2 rr => ?_)
    · obtain ⟨rfl, hx⟩ := hY
      obtain ⟨s0, es, p0, rfl, h0⟩ := rev_at (F := RRod G) lx hx fun j x b h1 h2 => by
        obtain ⟨b', e1, e2⟩ := paired_get rs h1
        rw [h2] at e1
        cases e1
        exact e2
      have e0 : st.reverse.getD i (0, 0) = s0 := by
        rw [List.getD_eq_getElem?_getD, es]
        rfl
      have oS : OkRod s0 := o s0 (List.mem_reverse.mp (List.mem_of_getElem? es))
      obtain ⟨o1, o2, o3, o4⟩ := oS
      have l1 := num_len o1 o2
      have l2 := num_len o3 o4
      refine w_gtup (SqT.of (k5 _ _ (g5 _ _ (s2.g _ _ h0)))) rfl ?_
      unfold rodV
      walk_at "rd"
      refine ⟨wipe2 (by decide), ?_⟩
      walk_at "rd"
      refine w_strI (num_log o1 (by omega)) ?_
      walk_at "rd"
      refine g_addS (by rw [len_dot, sizeLine_eq]; omega) ?_
      walk_at "rd"
      refine w_strI (num_log o3 (by omega)) ?_
      refine g_addS (by rw [app_len, len_dot, sizeLine_eq]; omega) ?_
      refine hC _ _ _ (Stp.refl k5) ?_
      show V.str _ = V.str (rodT _)
      rw [e0]
      rfl
    · have e : (List.range xs.reverse.length).map (fun i => rodT (st.reverse.getD i (0, 0))) = st.reverse.map rodT := by
        have := map_range st.reverse (0, 0) rodT
        rw [show xs.reverse.length = st.reverse.length by simp; omega]
        exact this
      rw [e] at rr
      have er := paired_fl rr
      refine w_join (ys := st.reverse.map rodT) (SqL.of (s7.k _ _ (by rw [hpr2, er]))) ?_ ?_
      · have h1 := sum_le (n := 5) (st.reverse.map rodT) fun p hp => by
          obtain ⟨s1, hs1, rfl⟩ := List.mem_map.mp hp
          exact (rod_len (o s1 (List.mem_reverse.mp hs1))).1
        rw [len_blank]
        simp only [List.length_map, List.length_reverse] at h1 ⊢
        omega
      · exact q G7 H7 (s2.trans s7)
end
end BF
namespace BF
open PySem PySem.Spec PyProof.Rows L2 TL HotX
local macro_rules | `(tactic| walk_at "rd") => `(tactic| repeat (first
  | with_reducible refine w_var rfl ?_ | with_reducible refine w_c ?_ | with_reducible refine w_seq ?_ | with_reducible refine w_op ?_
  | with_reducible refine w_asg ?_ | with_reducible refine w_name ?_ | with_reducible refine w_ret ?_ | with_reducible refine w_drop ?_ | with_reducible refine w_next ?_
  | with_reducible refine w_if ?_ | with_reducible refine w_test ?_ | with_reducible refine w_B ?_ | with_reducible refine w_bl ?_ | with_reducible refine w_not ?_
  | with_reducible refine w_and ?_ | with_reducible refine w_or ?_ | with_reducible refine w_nil ?_ | with_reducible refine w_cons ?_ | with_reducible refine w_cb ?_
  | with_reducible refine w_chain ?_ | with_reducible refine w_call ?_ | with_reducible refine w_un ?_ | with_reducible refine w_neg ?_
  | with_reducible refine w_andV ?_ | with_reducible refine w_orV ?_ | with_reducible refine w_notV ?_ | with_reducible refine w_iteT ?_ | with_reducible refine w_iteF ?_ | with_reducible refine w_ntT ?_ | with_reducible refine w_ntF ?_
  | with_reducible refine g_add ?_ | with_reducible refine g_sub ?_ | with_reducible refine g_cmp ?_ | with_reducible refine g_eqI ?_ | with_reducible refine g_neI ?_ | with_reducible refine g_eqS ?_ | with_reducible refine g_neS ?_
  | with_reducible refine w_min ?_ | with_reducible refine w_max ?_ | with_reducible refine w_isN ?_ | with_reducible refine w_notN ?_ | with_reducible refine w_notSg ?_ | with_reducible refine w_gcons ?_ | with_reducible refine w_gnil ?_ | with_reducible refine w_sl ?_ | with_reducible refine w_noP ?_ | with_reducible refine w_part ?_ | with_reducible refine w_int1 ?_ | with_reducible refine w_tup ?_ | with_reducible refine w_lst ?_ | with_reducible refine g_intB ?_ | with_reducible refine w_fld ?_ | with_reducible refine w_meth ?_ | with_reducible refine w_make ?_
  | with_reducible refine w_lc ?_ | with_reducible refine w_for ?_ | with_reducible refine w_iL ?_ | with_reducible refine w_iT ?_ | with_reducible refine w_iS ?_ | with_reducible refine w_iRev ?_ | with_reducible refine w_iEn ?_ | with_reducible refine w_iZip ?_ | with_reducible refine w_iR1 ?_
  | with_reducible refine w_bm ?_ | with_reducible refine w_bm0 ?_ | with_reducible refine w_M1 ?_ | with_reducible refine w_isStr ?_
  | dsimp only))
local macro_rules | `(tactic| walk_at "same") => `(tactic| first | exact Same.refl _ | assumption | exact Stp.g (by assumption) | (refine Same.trans (Stp.g (by assumption)) ?_; walk_at "same"))
local macro_rules | `(tactic| walk_at "k") => `(tactic| first | assumption | exact Stp.k (by assumption) | exact Acc.k (by assumption))
local macro_rules | `(tactic| walk_at "stp") => `(tactic| first | assumption | exact Stp.refl (by walk_at "k") | (refine Stp.trans (by assumption) ?_; walk_at "stp"))
local macro_rules | `(tactic| walk_at "up") => `(tactic| first | assumption | exact up (by assumption) (by walk_at "same"))
local macro_rules | `(tactic| walk_at "gh") => `(tactic| first | assumption | exact Stp.k (by assumption) | (refine Same.trans (Stp.g (by assumption)) ?_; walk_at "gh"))
local macro_rules | `(tactic| walk_at "at") => `(tactic| first | assumption | exact at_ (by assumption) (by walk_at "gh"))
local macro_rules | `(tactic| walk_at "L") => `(tactic| exact SqL.of (by walk_at "at"))
local macro_rules | `(tactic| walk_at "T") => `(tactic| exact SqT.of (by walk_at "at"))
local macro_rules | `(tactic| walk_at "o1") => `(tactic| first | with_reducible refine w_yes (by first | assumption | omega) ?_ | with_reducible refine w_no (by first | assumption | omega) ?_ | with_reducible refine w_yesN (by first | assumption | omega) ?_ | with_reducible refine w_noN (by first | assumption | omega) ?_)
local macro_rules | `(tactic| walk_at "o") => `(tactic| (walk_at "rd"; repeat (walk_at "o1"; walk_at "rd")))

section
variable {P : Program} {w : World} {K : PySem.W.Frag} {mg : Str → Option Value} {base : Heap} {A : Adr} {fI : Addr} {fd : FuncData}
def spLDrawn (K : PySem.W.Frag) : Sp := fun vs H Q _ => ∃ (G : Hp) (ns : List Int) (at_ : Int) (fr : List Lay) (v vf : V), vs = [v, .int at_, vf] ∧ Same G H ∧ RScr K G v ns ∧ ns.length ≤ 63 ∧ 0 ≤ at_ ∧ at_ ≤ 9000 ∧ RFrame G vf fr ∧ fr.length ≤ 100 ∧ (∀ y ∈ fr, OkLay y) ∧ ∀ v' st G' H', Stp G H G' H' → Fit fr st → RStd G' v' st → Q v' H'
theorem ok_l_drawn (T : Bas K mg) (f__law_mixed : Cal P w K mg base CX0 "_law_mixed" ["_law_script", "_law_k"] 1 (spMixed K)) (D : Std K mg "_law_drawn" "_law_drawn" "_law_drawn" s_l_drawn ["_law_script", "_law_at", "_law_frame_here"]) :
    Cal P w K mg base CX0 "_law_drawn" ["_law_script", "_law_at", "_law_frame_here"] 2 (spLDrawn K) := by
  refine D.cal sc_l_drawn (fun vs H Q E h => ?_) (fun f cdv A0 outer s H vs Q E hr h => ?_)
  · obtain ⟨G, ns, at_, fr, v, vf, rfl, _⟩ := h; rfl
  · obtain ⟨G, ns, at_, fr, v, vf, rfl, k, hs, hl, a0, a1, ⟨pf, xf, rfl, hf, rf⟩, hz, ol, q⟩ := h
    have lf := paired_len rf
    refine ⟨_, (pss_cons (ps_set (i := 3) sc_l_drawn.nd rfl (by first | exact Or.inl rfl | exact Or.inr rfl) (pe_lst pa_nil))
  (pss_cons (ps_for PassesOwn.never rfl (pi_enum (by rfl) T.z_enumerate (pa_cons (pv 2) pa_nil)) (pg_tup rfl (pgs_cons (pg_name (i := 4) sc_l_drawn.nd rfl (by first | exact Or.inl rfl | exact Or.inr rfl)) (pgs_cons (pg_name (i := 5) sc_l_drawn.nd rfl (by first | exact Or.inl rfl | exact Or.inr rfl)) pgs_nil)))
  (pss_cons (ps_set (i := 6) sc_l_drawn.nd rfl (by first | exact Or.inl rfl | exact Or.inr rfl) (pe_cal f__law_mixed hr (by decide) pass0 (pa_cons (pv 0) (pa_cons (pe_op opAdd (pv 1) (pv 4)) pa_nil))))
  (pss_one (ps_expr (pe_bm PySem.F.plainAttrs_list PySem.F.slot_list_append PySem.F.type_list_append mt_append (pv 3) (pa_cons (pe_tup (pa_cons (pe_op op_mod (pv 6) (pe_op opAdd (pe_ix ix_seq (pv 5) pe_int (fun _ _ => rfl)) pe_int)) (pa_cons (pe_op op_mod (pe_op op_fdiv (pv 6) pe_int) (pe_op opAdd (pe_ix ix_seq (pv 5) pe_int (fun _ _ => rfl)) pe_int)) pa_nil))) pa_nil))))))
  (pss_one (ps_ret (pv 3))))), ?_⟩
    walk_at "rd"
    refine w_acc k fun DD H1 ac1 => ?_
    walk_at "rd"
    refine ⟨pf, xf, rfl, SqL.of (ac1.k _ _ hf), ?_⟩
    refine for_go (walk_enum (xs := xf)) (fun i σ H' => ∃ (G' : Hp) (xs : List V) (l : List Rod) (o4 o5 o6 : Option V), Acc G H DD xs G' H' ∧ Paired (RRod G') xs l ∧ l.length = i ∧ (∀ (j : Nat) (y : Lay) (s : Rod), fr[j]? = some y → l[j]? = some s → fits y s) ∧
      σ = [some v, some (.int at_), some (.ref pf), some (.ref DD), o4, o5, o6]) ?_ ?_ ?_ ?_
    · exact ⟨G, [], [], none, none, none, ac1, .nil, rfl, fun j y s _ h => by simp at h, rfl⟩
    · rintro i σ H' _ ⟨G', xs, l, o4, o5, o6, a', _⟩
      exact SqL.of (a'.k _ _ (a'.g _ _ hf))
    · rintro i x σ H2 H2' hi ⟨G2, xs, l, o4, o5, o6, a2, r2, l2, ft, rfl⟩ hY
      obtain ⟨T2, va, vb, G3, rfl, s3, hT, e1, e2⟩ := y_pair a2.k hY
      cases e1
      have a3 := a2.step s3
      obtain ⟨y, ey, py, rfl, hy⟩ := paired_get (paired_up a3.g rf) e2
      obtain ⟨u0, u1, w0, w1, l0, l1, b0, b1, _, _, _⟩ := ol y (List.mem_of_getElem? ey)
      walk_at "rd"
      refine w_gtup (by walk_at "T") rfl ?_
      walk_at "rd"
      refine ⟨G3, ns, at_ + i, _, rfl, s3.k, up (R := RScr K) hs a3.g, hl, by omega, by omega, ?_⟩
      intro c G4 H4 c0 c1 s4
      have a4 := a3.step s4
      walk_at "rd"
      refine w_tyL a4.at_ ?_
      walk_at "rd"
      have hy4 := s4.k _ _ (s4.g _ _ hy)
      refine w_ixT (i := 0) (SqT.of hy4) rfl ?_
      walk_at "rd"
      refine g_mod (by omega) ?_
      walk_at "rd"
      refine g_fdiv ⟨by omega, by omega⟩ ?_
      walk_at "rd"
      refine w_ixT (i := 2) (SqT.of hy4) rfl ?_
      walk_at "rd"
      refine g_mod (by omega) ?_
      walk_at "rd"
      refine w_tupK s4.k rfl fun p5 G5 H5 s5 hp5 _ => ?_
      walk_at "rd"
      have ll := paired_len r2
      refine w_app (a4.step s5) (by omega) fun a6 => ?_
      walk_at "rd"
      refine ⟨G5, _, l ++ [(c % (y.u + 1), c / 7 % (y.l + 1))], _, _, _, a6, paired_app (paired_up ((s3.trans s4).trans s5).g r2) (.cons ⟨p5, rfl, hp5⟩ .nil), by simp [l2], ?_, rfl⟩
      intro j y' s' h1 h2
      by_cases hj : j < l.length
      · rw [List.getElem?_append_left hj] at h2
        exact ft j y' s' h1 h2
      · have hji : j = i := by
          have := (List.getElem?_eq_some_iff.mp h2).1
          simp at this
          omega
        subst hji
        rw [ey] at h1
        cases h1
        rw [List.getElem?_append_right (by omega), l2, Nat.sub_self] at h2
        cases h2
        have m1 : 0 ≤ c % (y.u + 1) := Int.emod_nonneg _ (by omega)
        have m2 : c % (y.u + 1) < y.u + 1 := Int.emod_lt_of_pos _ (by omega)
        have m3 : 0 ≤ c / 7 % (y.l + 1) := Int.emod_nonneg _ (by omega)
        have m4 : c / 7 % (y.l + 1) < y.l + 1 := Int.emod_lt_of_pos _ (by omega)
        exact ⟨⟨m1, by omega⟩, m3, by omega⟩
    · rintro σ H' ⟨G2, xs, l, o4, o5, o6, a2, r2, l2, ft, rfl⟩
      walk_at "rd"
      exact q _ l _ _ a2.done ⟨by omega, ft⟩ (a2.lst r2)
def spLAll : Sp := fun vs H Q _ => ∃ (G : Hp) (fr : List Lay) (st : List Rod) (ms : List Mv) (vf vst vm : V), vs = [vf, vst, vm] ∧ Same G H ∧ RFrame G vf fr ∧ RStd G vst st ∧ RRowT G vm ms ∧ st.length = fr.length ∧ fr.length ≤ 100 ∧ (∀ m ∈ ms, m.beads ≤ 1000) ∧ ∀ v' G' H', Stp G H G' H' → ROpt RStd G' v' (allM fr st ms) → Q v' H'
theorem ok_l_all (T : Bas K mg) (f__law_push : Cal P w K mg base CX0 "_law_push" ["_law_frame_here", "_law_standing", "_law_word", "_law_rod", "_law_beads"] 1 spPush)
    (D : Std K mg "_law_all" "_law_all" "_law_all" s_l_all ["_law_frame_here", "_law_standing", "_law_moves_here"]) : Cal P w K mg base CX0 "_law_all" ["_law_frame_here", "_law_standing", "_law_moves_here"] 2 spLAll := by
  refine D.cal sc_l_all (fun vs H Q E h => ?_) (fun f cdv A0 outer s H vs Q E hr h => ?_)
  · obtain ⟨G, fr, st, ms, vf, vst, vm, rfl, _⟩ := h; rfl
  · obtain ⟨G, fr, st, ms, vf, vst, vm, rfl, k, hf, hs, ⟨pm, xm, rfl, hm, rm⟩, hl, hz, hb, q⟩ := h
    have lm := paired_len rm
    refine ⟨_, (pss_cons (ps_for PassesOwn.never rfl (pi_list (pv 2)) (pg_tup rfl (pgs_cons (pg_name (i := 3) sc_l_all.nd rfl (by first | exact Or.inl rfl | exact Or.inr rfl)) (pgs_cons (pg_name (i := 4) sc_l_all.nd rfl (by first | exact Or.inl rfl | exact Or.inr rfl)) (pgs_cons (pg_name (i := 5) sc_l_all.nd rfl (by first | exact Or.inl rfl | exact Or.inr rfl)) pgs_nil))))
  (pss_cons (ps_set (i := 1) sc_l_all.nd rfl (by first | exact Or.inl rfl | exact Or.inr rfl) (pe_cal f__law_push hr (by decide) pass0 (pa_cons (pv 0) (pa_cons (pv 1) (pa_cons (pv 3) (pa_cons (pv 4) (pa_cons (pv 5) pa_nil)))))))
  (pss_one (ps_if (pt_cmpR opIs (pv 1) pe_non (nomark _)) (pss_one (ps_ret pe_non)) pss_nil))))
  (pss_one (ps_ret (pv 1)))), ?_⟩
    walk_at "rd"
    refine ⟨pm, rfl, ⟨_, by walk_at "L"⟩, ?_⟩
    refine for_go (walk_list (xs := xm)) (fun i σ H' => ∃ (G' : Hp) (cur : List Rod) (v1 : V) (o3 o4 o5 : Option V), Stp G H G' H' ∧ RStd G' v1 cur ∧ cur.length = fr.length ∧ allM fr st ms = allM fr cur (ms.drop i) ∧ σ = [some vf, some v1, some (.ref pm), o3, o4, o5]) ?_ ?_ ?_ ?_
    · exact ⟨G, st, vst, none, none, none, Stp.refl k, hs, hl, rfl, rfl⟩
    · rintro i σ H' _ ⟨G', cur, v1, o3, o4, o5, s', _⟩
      exact SqL.of (s'.k _ _ (s'.g _ _ hm))
    · rintro i x σ H1 H1' hi ⟨G1, cur, v1, o3, o4, o5, s1, r1, l1, ea, rfl⟩ ⟨rfl, hx⟩
      obtain ⟨mm, em, pt, rfl, ht⟩ := paired_get (paired_up s1.g rm) hx
      have hdrop : ms.drop i = mm :: ms.drop (i + 1) := by
        have hlt : i < ms.length := (List.getElem?_eq_some_iff.mp em).1
        rw [List.drop_eq_getElem_cons hlt]
        congr 1
        exact (List.getElem?_eq_some_iff.mp em).2
      rw [hdrop] at ea
      walk_at "rd"
      refine w_gtup (SqT.of (s1.k _ _ ht)) rfl ?_
      unfold mvV
      walk_at "rd"
      refine ⟨G1, fr, cur, mm, _, _, rfl, s1.k, up (R := RFrame) hf s1.g, r1, l1, hz, hb mm (List.mem_of_getElem? em), ?_⟩
      intro v2 G2 H2 s2 r2
      walk_at "rd"
      cases ep : push fr cur mm with
      | none =>
        rw [ep] at r2
        cases (show v2 = .non from r2)
        refine w_yes rfl ?_
        walk_at "rd"
        refine q _ G2 H2 (s1.trans s2) ?_
        have e0 : allM fr st ms = none := by
          rw [ea]
          show (match push fr cur mm with | some s => allM fr s _ | none => none) = _
          rw [ep]
        rw [e0]
        rfl
      | some s' =>
        rw [ep] at r2
        have r2' : RStd G2 v2 s' := r2
        obtain ⟨p2, x2, rfl, h2, rr2⟩ := id r2'
        refine w_no (by simp) ?_
        walk_at "rd"
        refine ⟨G2, s', _, _, _, _, s1.trans s2, r2', by rw [push_len ep, l1], ?_, rfl⟩
        rw [ea]
        show (match push fr cur mm with | some s => _ | none => none) = _
        rw [ep]
    · rintro σ H' ⟨G1, cur, v1, o3, o4, o5, s1, r1, l1, ea, rfl⟩
      walk_at "rd"
      have hd : ms.drop xm.length = [] := by
        rw [List.drop_eq_nil_iff]
        omega
      rw [hd] at ea
      refine q _ G1 H' s1 ?_
      rw [ea]
      exact r1
def spLText : Sp := fun vs H Q _ => ∃ (G : Hp) (ms : List Mv) (vm : V), vs = [vm] ∧ Same G H ∧ RRowT G vm ms ∧ ms.length ≤ 100 ∧ (∀ m ∈ ms, OkMv m) ∧ ∀ G' H', Stp G H G' H' → Q (.str (rowT ms)) H'
theorem ok_l_text (T : Bas K mg) (D : Std K mg "_law_text" "_law_text" "_law_text" s_l_text ["_law_moves_here"]) : Cal P w K mg base CX0 "_law_text" ["_law_moves_here"] 1 spLText := by
  refine D.cal sc_l_text (fun vs H Q E h => ?_) (fun f cdv A0 outer s H vs Q E hr h => ?_)
  · obtain ⟨G, ms, vm, rfl, _⟩ := h; rfl
  · obtain ⟨G, ms, vm, rfl, k, ⟨pm, xm, rfl, hm, rm⟩, hl, om, q⟩ := h
    have lm := paired_len rm
    refine ⟨_, (pss_one (ps_ret (peJoin pe_str (pe_lc (own := [("_law_word", 1), ("_law_rod", 2), ("_law_beads", 3)]) (g := gTup K 3 (gCons (gName 1) (gCons (gName 2) (gCons (gName 3) gNil)))) (tt := tYes) rfl sc_l_text.nd (pi_list (pv 0)) (blkOk_by (own := [("_law_word", 1), ("_law_rod", 2), ("_law_beads", 3)]) (N := N_l_text) (sc := defScope s_l_text) (by decide +kernel)) (fun _ _ _ _ _ => (pg_tup rfl (pgs_cons (pg_name (i := 1) sc_l_text.nd rfl (by first | exact Or.inl rfl | exact Or.inr rfl)) (pgs_cons (pg_name (i := 2) sc_l_text.nd rfl (by first | exact Or.inl rfl | exact Or.inr rfl)) (pgs_cons (pg_name (i := 3) sc_l_text.nd rfl (by first | exact Or.inl rfl | exact Or.inr rfl)) pgs_nil))))) (fun _ _ _ _ _ => pts_nil) (fun _ _ _ _ _ => (pe_op opAdd (pe_op opAdd (pe_op opAdd (pe_op opAdd (pv 1) pe_str) (pe_callTy callStr (by rfl) T.z_str boot_str (pa_cons (pv 2) pa_nil))) pe_str) (pe_callTy callStr (by rfl) T.z_str boot_str (pa_cons (pv 3) pa_nil)))))))), ?_⟩
    walk_at "rd"
    refine ⟨pm, rfl, ⟨_, by walk_at "L"⟩, ?_⟩
    refine lc_map (R := RV V.str) (walk_list (xs := xm)) k (fun i => (ms.getD i ⟨.up, 0, 0⟩).text) (by omega) (fun G' H' g k' => SqL.of (k' _ _ (g _ _ hm))) (fun i x G5 H5 H6 C hi g5 k5 hY hC => ?_) (fun pr xr G7 H7 s7 hpr rr => ?_)
    · obtain ⟨rfl, hx⟩ := hY
      obtain ⟨mm, em, pt, rfl, ht⟩ := paired_get rm hx
      have e0 : ms.getD i ⟨.up, 0, 0⟩ = mm := by rw [List.getD_eq_getElem?_getD, em]; rfl
      have o := om mm (List.mem_of_getElem? em)
      have hr1 := o.rod
      have hb1 := o.b1
      have l1 := num_len (n := mm.rod) (by omega) (by omega)
      have l2 := num_len (n := mm.beads) (by omega) (by omega)
      have l3 := (word_free mm.k).2.2.1
      refine w_gtup (SqT.of (k5 _ _ (g5 _ _ ht))) rfl ?_
      unfold mvV
      walk_at "rd"
      refine ⟨wipe3, ?_⟩
      walk_at "rd"
      refine g_addS (by rw [len_blank, sizeLine_eq]; omega) ?_
      walk_at "rd"
      refine w_strI (num_log (by omega) (by omega)) ?_
      refine g_addS (by rw [app_len, len_blank, sizeLine_eq]; omega) ?_
      walk_at "rd"
      refine g_addS (by rw [app_len, app_len, len_blank, sizeLine_eq]; omega) ?_
      walk_at "rd"
      refine w_strI (num_log (by omega) (by omega)) ?_
      refine g_addS (by rw [app_len, app_len, app_len, len_blank, sizeLine_eq]; omega) ?_
      refine hC _ _ _ (Stp.refl k5) ?_
      show V.str _ = V.str (Mv.text _)
      rw [e0]
      rfl
    · have e : (List.range xm.length).map (fun i => (ms.getD i ⟨.up, 0, 0⟩).text) = ms.map Mv.text := by
        have := map_range ms ⟨.up, 0, 0⟩ Mv.text
        rw [lm]
        exact this
      rw [e] at rr
      have er := paired_fl rr
      refine w_join (ys := ms.map Mv.text) (SqL.of (s7.k _ _ (by rw [hpr, er]))) ?_ ?_
      · have h1 := sum_le (n := 10) (ms.map Mv.text) fun p hp => by
          obtain ⟨m1, hs1, rfl⟩ := List.mem_map.mp hp
          exact (mv_len (om m1 hs1)).1
        rw [len_semi]
        simp only [List.length_map] at h1 ⊢
        omega
      · exact q G7 H7 s7
end
end BF
namespace BF
open PySem PySem.Spec PyProof.Rows L2 TL HotX
local macro_rules | `(tactic| walk_at "rd") => `(tactic| repeat (first
  | with_reducible refine w_var rfl ?_ | with_reducible refine w_c ?_ | with_reducible refine w_seq ?_ | with_reducible refine w_op ?_
  | with_reducible refine w_asg ?_ | with_reducible refine w_name ?_ | with_reducible refine w_ret ?_ | with_reducible refine w_drop ?_ | with_reducible refine w_next ?_
  | with_reducible refine w_if ?_ | with_reducible refine w_test ?_ | with_reducible refine w_B ?_ | with_reducible refine w_bl ?_ | with_reducible refine w_not ?_
  | with_reducible refine w_and ?_ | with_reducible refine w_or ?_ | with_reducible refine w_nil ?_ | with_reducible refine w_cons ?_ | with_reducible refine w_cb ?_
  | with_reducible refine w_chain ?_ | with_reducible refine w_call ?_ | with_reducible refine w_un ?_ | with_reducible refine w_neg ?_
  | with_reducible refine w_andV ?_ | with_reducible refine w_orV ?_ | with_reducible refine w_notV ?_ | with_reducible refine w_iteT ?_ | with_reducible refine w_iteF ?_ | with_reducible refine w_ntT ?_ | with_reducible refine w_ntF ?_
  | with_reducible refine g_add ?_ | with_reducible refine g_sub ?_ | with_reducible refine g_cmp ?_ | with_reducible refine g_eqI ?_ | with_reducible refine g_neI ?_ | with_reducible refine g_eqS ?_ | with_reducible refine g_neS ?_
  | with_reducible refine w_min ?_ | with_reducible refine w_max ?_ | with_reducible refine w_isN ?_ | with_reducible refine w_notN ?_ | with_reducible refine w_notSg ?_ | with_reducible refine w_gcons ?_ | with_reducible refine w_gnil ?_ | with_reducible refine w_sl ?_ | with_reducible refine w_noP ?_ | with_reducible refine w_part ?_ | with_reducible refine w_int1 ?_ | with_reducible refine w_tup ?_ | with_reducible refine w_lst ?_ | with_reducible refine g_intB ?_ | with_reducible refine w_fld ?_ | with_reducible refine w_meth ?_ | with_reducible refine w_make ?_
  | with_reducible refine w_lc ?_ | with_reducible refine w_for ?_ | with_reducible refine w_iL ?_ | with_reducible refine w_iT ?_ | with_reducible refine w_iS ?_ | with_reducible refine w_iRev ?_ | with_reducible refine w_iEn ?_ | with_reducible refine w_iZip ?_ | with_reducible refine w_iR1 ?_
  | with_reducible refine w_bm ?_ | with_reducible refine w_bm0 ?_ | with_reducible refine w_M1 ?_ | with_reducible refine w_isStr ?_
  | dsimp only))
local macro_rules | `(tactic| walk_at "same") => `(tactic| first | exact Same.refl _ | assumption | exact Stp.g (by assumption) | (refine Same.trans (Stp.g (by assumption)) ?_; walk_at "same"))
local macro_rules | `(tactic| walk_at "k") => `(tactic| first | assumption | exact Stp.k (by assumption) | exact Acc.k (by assumption))
local macro_rules | `(tactic| walk_at "stp") => `(tactic| first | assumption | exact Stp.refl (by walk_at "k") | (refine Stp.trans (by assumption) ?_; walk_at "stp"))
local macro_rules | `(tactic| walk_at "up") => `(tactic| first | assumption | exact up (by assumption) (by walk_at "same"))
local macro_rules | `(tactic| walk_at "gh") => `(tactic| first | assumption | exact Stp.k (by assumption) | (refine Same.trans (Stp.g (by assumption)) ?_; walk_at "gh"))
local macro_rules | `(tactic| walk_at "at") => `(tactic| first | assumption | exact at_ (by assumption) (by walk_at "gh"))
local macro_rules | `(tactic| walk_at "L") => `(tactic| exact SqL.of (by walk_at "at"))
local macro_rules | `(tactic| walk_at "T") => `(tactic| exact SqT.of (by walk_at "at"))
local macro_rules | `(tactic| walk_at "o1") => `(tactic| first | with_reducible refine w_yes (by first | assumption | omega) ?_ | with_reducible refine w_no (by first | assumption | omega) ?_ | with_reducible refine w_yesN (by first | assumption | omega) ?_ | with_reducible refine w_noN (by first | assumption | omega) ?_)
local macro_rules | `(tactic| walk_at "o") => `(tactic| (walk_at "rd"; repeat (walk_at "o1"; walk_at "rd")))

/-- a slip of the law's: place, word, the row with it -/
def RLs (G : Hp) (v : V) (a : Nat × Str × List Mv) : Prop := ∃ p x, v = .ref p ∧ G p = some (.tup [.int a.1, .str a.2.1, x]) ∧ RRowT G x a.2.2
instance : Mono RLs := ⟨fun s ⟨p, x, e, h, r⟩ => ⟨p, x, e, s _ _ h, up (R := RRowT) r s⟩⟩
def toL (ms : List Mv) (s : Slip) : Nat × Str × List Mv := (s.at_, s.word, s.row ms)
def LWs (m : Mv) : List (Str × Option (Int × Int)) := [("fewer", some (m.rod, m.beads - 1)), ("last", some (m.rod - 1, m.beads)), ("left", none), ("more", some (m.rod, m.beads + 1)), ("next", some (m.rod + 1, m.beads))]
def goodW (n : Nat) : Option (Int × Int) → Bool
  | none => true
  | some q => decide (q.2 > 0) && (decide (0 ≤ q.1) && decide (q.1 < n))
def mkW (k : K4) (o : Option (Int × Int)) : Option Mv := o.map fun q => ⟨k, q.1.toNat, q.2.toNat⟩
def slW (i : Nat) (k : K4) (q : Str × Option (Int × Int)) : Slip := ⟨i, q.1, mkW k q.2⟩
theorem lws_at {n i : Nat} {m : Mv} (h1 : 1 ≤ m.beads) (h2 : m.rod < n) : ((LWs m).filter fun q => goodW n q.2).map (slW i m.k) = slipsAt n i m := by
  obtain ⟨k, r, b⟩ := m
  simp only at h1 h2
  have e1 : goodW n (some ((r : Int), (b : Int) - 1)) = decide (1 < b) := by
    by_cases h : 1 < b
    · simp only [goodW, h]; simp; omega
    · simp only [goodW, h]; simp; omega
  have e2 : goodW n (some ((r : Int) - 1, (b : Int))) = decide (0 < r) := by
    by_cases h : 0 < r
    · simp only [goodW, h]; simp; omega
    · simp only [goodW, h]; simp; omega
  have e3 : goodW n (some ((r : Int), (b : Int) + 1)) = true := by
    simp only [goodW]; simp; omega
  have e4 : goodW n (some ((r : Int) + 1, (b : Int))) = decide (r + 1 < n) := by
    by_cases h : r + 1 < n
    · simp only [goodW, h]; simp; omega
    · simp only [goodW, h]; simp; omega
  have t1 : ((b : Int) - 1).toNat = b - 1 := by omega
  have t2 : ((r : Int) - 1).toNat = r - 1 := by omega
  have t3 : ((b : Int) + 1).toNat = b + 1 := by omega
  have t4 : ((r : Int) + 1).toNat = r + 1 := by omega
  unfold LWs slipsAt ways wayFewer wayLast wayNext
  have e0 : goodW n none = true := rfl
  simp only [List.filter_cons, e0, e1, e2, e3, e4, List.filter_nil]
  by_cases c1 : 1 < b <;> by_cases c2 : 0 < r <;> by_cases c3 : r + 1 < n <;> simp [c1, c2, c3, slW, mkW, t1, t2, t3, t4]
def RWay (k : K4) (G : Hp) (v : V) (q : Str × Option (Int × Int)) : Prop := ∃ p po xs, v = .ref p ∧ G p = some (.tup [.str q.1, .ref po]) ∧ G po = some (.lst xs) ∧ match q.2 with
  | none => xs = []
  | some c => ∃ pt, xs = [.ref pt] ∧ G pt = some (.tup [.str k.word, .int c.1, .int c.2])
instance {k : K4} : Mono (RWay k) := ⟨fun {G G' v a} s ⟨p, po, xs, e, h1, h2, h3⟩ => ⟨p, po, xs, e, s _ _ h1, s _ _ h2, by
  obtain ⟨a1, a2⟩ := a
  cases a2 with
  | none => exact h3
  | some c =>
    obtain ⟨pt, e1, e2⟩ := h3
    exact ⟨pt, e1, s _ _ e2⟩⟩⟩
section
variable {P : Program} {w : World} {K : PySem.W.Frag} {mg : Str → Option Value} {base : Heap} {A : Adr} {fI : Addr} {fd : FuncData}
def spLSlips : Sp := fun vs H Q _ => ∃ (G : Hp) (fr : List Lay) (ms : List Mv) (vf vm : V), vs = [vf, vm] ∧ Same G H ∧ RFrame G vf fr ∧ RRowT G vm ms ∧ fr.length ≤ 100 ∧ ms.length ≤ 90 ∧ (∀ m ∈ ms, 1 ≤ m.beads ∧ m.rod < fr.length) ∧
  ∀ v' G' H', Stp G H G' H' → RLst RLs G' v' ((slipsAll fr.length ms).map (toL ms)) → Q v' H'
theorem ok_l_slips (T : Bas K mg) (D : Std K mg "_law_slips" "_law_slips" "_law_slips" s_l_slips ["_law_frame_here", "_law_moves_here"]) : Cal P w K mg base CX0 "_law_slips" ["_law_frame_here", "_law_moves_here"] 1 spLSlips := by
  refine D.cal sc_l_slips (fun vs H Q E h => ?_) (fun f cdv A0 outer s H vs Q E hr h => ?_)
  · obtain ⟨G, fr, ms, vf, vm, rfl, _⟩ := h; rfl
  · obtain ⟨G, fr, ms, vf, vm, rfl, k, ⟨pf, xf, rfl, hf, rf⟩, ⟨pm, xm, rfl, hm, rm⟩, hz, hl, hb, q⟩ := h
    have lf := paired_len rf
    have lm := paired_len rm
    refine ⟨_, (pss_cons (ps_set (i := 2) sc_l_slips.nd rfl (by first | exact Or.inl rfl | exact Or.inr rfl) (pe_lst pa_nil))
  (pss_cons (ps_for PassesOwn.never rfl (pi_enum (by rfl) T.z_enumerate (pa_cons (pv 1) pa_nil)) (pg_tup rfl (pgs_cons (pg_name (i := 3) sc_l_slips.nd rfl (by first | exact Or.inl rfl | exact Or.inr rfl)) (pgs_cons (pg_name (i := 4) sc_l_slips.nd rfl (by first | exact Or.inl rfl | exact Or.inr rfl)) pgs_nil)))
  (pss_cons (ps_asg (pv 4) (pg_tup rfl (pgs_cons (pg_name (i := 5) sc_l_slips.nd rfl (by first | exact Or.inl rfl | exact Or.inr rfl)) (pgs_cons (pg_name (i := 6) sc_l_slips.nd rfl (by first | exact Or.inl rfl | exact Or.inr rfl)) (pgs_cons (pg_name (i := 7) sc_l_slips.nd rfl (by first | exact Or.inl rfl | exact Or.inr rfl)) pgs_nil)))))
  (pss_cons (ps_set (i := 8) sc_l_slips.nd rfl (by first | exact Or.inl rfl | exact Or.inr rfl) (pe_lst (pa_cons (pe_tup (pa_cons pe_str (pa_cons (pe_lst (pa_cons (pe_tup (pa_cons (pv 5) (pa_cons (pv 6) (pa_cons (pe_op op_sub (pv 7) pe_int) pa_nil)))) pa_nil)) pa_nil))) (pa_cons (pe_tup (pa_cons pe_str (pa_cons (pe_lst (pa_cons (pe_tup (pa_cons (pv 5) (pa_cons (pe_op op_sub (pv 6) pe_int) (pa_cons (pv 7) pa_nil)))) pa_nil)) pa_nil))) (pa_cons (pe_tup (pa_cons pe_str (pa_cons (pe_lst pa_nil) pa_nil))) pa_nil)))))
  (pss_cons (ps_set (i := 8) sc_l_slips.nd rfl (by first | exact Or.inl rfl | exact Or.inr rfl) (pe_op opAdd (pv 8) (pe_lst (pa_cons (pe_tup (pa_cons pe_str (pa_cons (pe_lst (pa_cons (pe_tup (pa_cons (pv 5) (pa_cons (pv 6) (pa_cons (pe_op opAdd (pv 7) pe_int) pa_nil)))) pa_nil)) pa_nil))) (pa_cons (pe_tup (pa_cons pe_str (pa_cons (pe_lst (pa_cons (pe_tup (pa_cons (pv 5) (pa_cons (pe_op opAdd (pv 6) pe_int) (pa_cons (pv 7) pa_nil)))) pa_nil)) pa_nil))) pa_nil)))))
  (pss_one (ps_for PassesOwn.never rfl (pi_list (pv 8)) (pg_tup rfl (pgs_cons (pg_name (i := 9) sc_l_slips.nd rfl (by first | exact Or.inl rfl | exact Or.inr rfl)) (pgs_cons (pg_name (i := 10) sc_l_slips.nd rfl (by first | exact Or.inl rfl | exact Or.inr rfl)) pgs_nil)))
  (pss_cons (ps_set (i := 11) sc_l_slips.nd rfl (by first | exact Or.inl rfl | exact Or.inr rfl) pe_bl)
  (pss_cons (ps_for PassesOwn.never rfl (pi_list (pv 10)) (pg_tup rfl (pgs_cons (pg_name (i := 12) sc_l_slips.nd rfl (by first | exact Or.inl rfl | exact Or.inr rfl)) (pgs_cons (pg_name (i := 13) sc_l_slips.nd rfl (by first | exact Or.inl rfl | exact Or.inr rfl)) (pgs_cons (pg_name (i := 14) sc_l_slips.nd rfl (by first | exact Or.inl rfl | exact Or.inr rfl)) pgs_nil))))
  (pss_one (ps_set (i := 11) sc_l_slips.nd rfl (by first | exact Or.inl rfl | exact Or.inr rfl) (pe_and (pe_cmpR op_gt (pv 14) pe_int (nomark _)) (pe_one (pe_chain op_le op_lt pe_int (pv 13) (pe_callB callLen (by rfl) T.z_len PySem.boot_len (pa_cons (pv 0) pa_nil))))))))
  (pss_one (ps_if (pt_val (pv 11)) (pss_one (ps_expr (pe_bm PySem.F.plainAttrs_list PySem.F.slot_list_append PySem.F.type_list_append mt_append (pv 2) (pa_cons (pe_tup (pa_cons (pv 3) (pa_cons (pv 9) (pa_cons (pe_op opAdd (pe_op opAdd (pe_slice sl_list (pv 1) po_none (po_some (pv 3))) (pv 10)) (pe_slice sl_list (pv 1) (po_some (pe_op opAdd (pv 3) pe_int)) po_none)) pa_nil)))) pa_nil)))) pss_nil))))))))))
  (pss_one (ps_ret (pv 2))))), ?_⟩
    walk_at "rd"
    refine w_acc k fun DD H1 a1 => ?_
    walk_at "rd"
    refine ⟨pm, xm, rfl, SqL.of (a1.k _ _ hm), ?_⟩
    refine for_go (walk_enum (xs := xm)) (fun i σ H' => ∃ (G' : Hp) (xs : List V) (told : List Slip) (o3 o4 o5 o6 o7 o8 o9 o10 o11 o12 o13 o14 : Option V), Acc G H DD xs G' H' ∧ Paired (RLs G') xs (told.map (toL ms)) ∧ told.length ≤ 5 * i ∧ slipsAll fr.length ms = told ++ slipsFrom fr.length i (ms.drop i) ∧
      σ = [some (.ref pf), some (.ref pm), some (.ref DD), o3, o4, o5, o6, o7, o8, o9, o10, o11, o12, o13, o14]) ?_ ?_ ?_ ?_
    · exact ⟨G, [], [], none, none, none, none, none, none, none, none, none, none, none, none, a1, .nil, by simp, rfl, rfl⟩
    · rintro i σ H' _ ⟨G', xs, told, o3, o4, o5, o6, o7, o8, o9, o10, o11, o12, o13, o14, a', _⟩
      exact SqL.of (a'.k _ _ (a'.g _ _ hm))
    · rintro i x σ H2 H2' hi ⟨G2, xs, told, o3, o4, o5, o6, o7, o8, o9, o10, o11, o12, o13, o14, a2, r2, l2, e2, rfl⟩ hY
      obtain ⟨T2, va, vb, G3, rfl, s3, hT, e1, e3⟩ := y_pair a2.k hY
      cases e1
      have a3 := a2.step s3
      obtain ⟨mm, em, pt, rfl, ht⟩ := paired_get (paired_up a3.g rm) e3
      have hi' : i < ms.length := (List.getElem?_eq_some_iff.mp em).1
      have hdrop : ms.drop i = mm :: ms.drop (i + 1) := by
        rw [List.drop_eq_getElem_cons hi']
        congr 1
        exact (List.getElem?_eq_some_iff.mp em).2
      obtain ⟨hb1, hb2⟩ := hb mm (List.mem_of_getElem? em)
      walk_at "rd"
      refine w_gtup (by walk_at "T") rfl ?_
      walk_at "rd"
      refine w_gtup (SqT.of (s3.k _ _ ht)) rfl ?_
      unfold mvV
      walk_at "rd"
      refine w_tupK s3.k rfl fun q1 B1 C1 t1 hq1 _ => ?_
      walk_at "rd"
      refine w_lstK t1.k rfl fun q2 B2 C2 t2 hq2 _ => ?_
      walk_at "rd"
      refine w_tupK t2.k rfl fun q3 B3 C3 t3 hq3 _ => ?_
      walk_at "rd"
      refine w_tupK t3.k rfl fun q4 B4 C4 t4 hq4 _ => ?_
      walk_at "rd"
      refine w_lstK t4.k rfl fun q5 B5 C5 t5 hq5 _ => ?_
      walk_at "rd"
      refine w_tupK t5.k rfl fun q6 B6 C6 t6 hq6 _ => ?_
      walk_at "rd"
      refine w_lstK t6.k rfl fun q7 B7 C7 t7 hq7 _ => ?_
      walk_at "rd"
      refine w_tupK t7.k rfl fun q8 B8 C8 t8 hq8 _ => ?_
      walk_at "rd"
      refine w_lstK t8.k rfl fun q9 B9 C9 t9 hq9 _ => ?_
      walk_at "rd"
      refine w_tupK t9.k rfl fun q10 B10 C10 t10 hq10 _ => ?_
      walk_at "rd"
      refine w_lstK t10.k rfl fun q11 B11 C11 t11 hq11 _ => ?_
      walk_at "rd"
      refine w_tupK t11.k rfl fun q12 B12 C12 t12 hq12 _ => ?_
      walk_at "rd"
      refine w_tupK t12.k rfl fun q13 B13 C13 t13 hq13 _ => ?_
      walk_at "rd"
      refine w_lstK t13.k rfl fun q14 B14 C14 t14 hq14 _ => ?_
      walk_at "rd"
      refine w_tupK t14.k rfl fun q15 B15 C15 t15 hq15 _ => ?_
      walk_at "rd"
      refine w_lstK t15.k rfl fun q16 B16 C16 t16 hq16 _ => ?_
      have g9 : Same B9 B16 := t10.g.trans (t11.g.trans (t12.g.trans (t13.g.trans (t14.g.trans (t15.g.trans t16.g)))))
      refine w_cat t16.k (t16.k _ _ (g9 _ _ hq9)) (t16.k _ _ hq16) (by simp) fun pw GW HW tw hpw _ => ?_
      walk_at "rd"
      have g16 : Same B16 GW := tw.g
      have u15 := t16.g.trans g16
      have u14 := t15.g.trans u15
      have u13 := t14.g.trans u14
      have u12 := t13.g.trans u13
      have u11 := t12.g.trans u12
      have u10 := t11.g.trans u11
      have u9 := t10.g.trans u10
      have u8 := t9.g.trans u9
      have u7 := t8.g.trans u8
      have u6 := t7.g.trans u7
      have u5 := t6.g.trans u6
      have u4 := t5.g.trans u5
      have u3 := t4.g.trans u4
      have u2 := t3.g.trans u3
      have u1 := t2.g.trans u2
      have sW : Stp G3 H2' GW HW := t1.trans (t2.trans (t3.trans (t4.trans (t5.trans (t6.trans (t7.trans (t8.trans (t9.trans (t10.trans (t11.trans (t12.trans (t13.trans (t14.trans (t15.trans (t16.trans tw)))))))))))))))
      have rW : Paired (RWay mm.k GW) ([V.ref q3, V.ref q6, V.ref q8] ++ [V.ref q12, V.ref q15]) (LWs mm) := by
        refine .cons ⟨q3, q2, _, rfl, u3 _ _ hq3, u2 _ _ hq2, q1, rfl, u1 _ _ hq1⟩ (.cons ⟨q6, q5, _, rfl, u6 _ _ hq6, u5 _ _ hq5, q4, rfl, u4 _ _ hq4⟩ (.cons ⟨q8, q7, _, rfl, u8 _ _ hq8, u7 _ _ hq7, rfl⟩ (.cons ⟨q12, q11, _, rfl, u12 _ _ hq12, u11 _ _ hq11, q10, rfl, u10 _ _ hq10⟩ (.cons ⟨q15, q14, _, rfl, u15 _ _ hq15, u14 _ _ hq14, q13, rfl, u13 _ _ hq13⟩ .nil))))
      have aW := a3.step sW
      clear u15 u14 u13 u12 u11 u10 u9 u8 u7 u6 u5 u4 u3 u2 u1 g9 g16 t1 t2 t3 t4 t5 t6 t7 t8 t9 t10 t11 t12 t13 t14 t15 t16 tw hq1 hq2 hq3 hq4 hq5 hq6 hq7 hq8 hq9 hq10 hq11 hq12 hq13 hq14 hq15 hq16
      refine ⟨pw, rfl, ⟨_, SqL.of (sW.k _ _ hpw)⟩, ?_⟩
      refine for_go (walk_list (xs := [V.ref q3, V.ref q6, V.ref q8] ++ [V.ref q12, V.ref q15])) (fun j σ H' => ∃ (G' : Hp) (xs : List V) (told' : List Slip) (o9 o10 o11 o12 o13 o14 : Option V), Acc G H DD xs G' H' ∧ Same GW G' ∧ Paired (RLs G') xs (told'.map (toL ms)) ∧ told'.length ≤ 5 * i + j ∧
        told' = told ++ (((LWs mm).take j).filter fun q => goodW fr.length q.2).map (slW i mm.k) ∧ σ = [some (.ref pf), some (.ref pm), some (.ref DD), some (.int (i : Nat)), some (.ref pt), some (.str mm.k.word), some (.int mm.rod), some (.int mm.beads), some (.ref pw), o9, o10, o11, o12, o13, o14]) ?_ ?_ ?_ ?_
      · exact ⟨GW, xs, told, _, _, _, _, _, _, aW, Same.refl _, paired_up (s3.g.trans sW.g) r2, by omega, by simp, rfl⟩
      · rintro j σ H' _ ⟨G', xs', told', p9, p10, p11, p12, p13, p14, a', g', _⟩
        exact SqL.of (a'.k _ _ (g' _ _ hpw))
      · rintro j x σ H4 H4' hj ⟨G4, xs4, told4, p9, p10, p11, p12, p13, p14, a4, g4, r4, l4, e4, rfl⟩ ⟨rfl, hx⟩
        obtain ⟨⟨wd, wo⟩, ew, pp, po, ys, rfl, hpp, hpo, hys⟩ := paired_get (paired_up g4 rW) hx
        have hj5 : j < 5 := by simpa using hj
        have htk : (LWs mm).take (j + 1) = (LWs mm).take j ++ [(wd, wo)] := by rw [List.take_succ, ew]; rfl
        walk_at "rd"
        refine w_gtup (SqT.of (a4.k _ _ hpp)) rfl ?_
        walk_at "rd"
        refine ⟨po, rfl, ⟨_, SqL.of (a4.k _ _ hpo)⟩, ?_⟩
        refine for_go (walk_list (xs := ys)) (fun n σ H' => H' = H4' ∧ ∃ (p12 p13 p14 : Option V), σ = [some (.ref pf), some (.ref pm), some (.ref DD), some (.int (i : Nat)), some (.ref pt), some (.str mm.k.word), some (.int mm.rod), some (.int mm.beads), some (.ref pw), some (.str wd), some (.ref po), some (.bl (if n = 0 then true else goodW fr.length wo)), p12, p13, p14]) ?_ ?_ ?_ ?_
        · exact ⟨rfl, _, _, _, rfl⟩
        · rintro n σ H' _ ⟨rfl, _⟩
          exact SqL.of (a4.k _ _ hpo)
        · rintro n x σ H5 H5' hn ⟨rfl, p12, p13, p14, rfl⟩ ⟨rfl, hx2⟩
          cases wo with
          | none =>
            cases (show ys = [] from hys)
            simp at hn
          | some c =>
            obtain ⟨pt2, rfl, ht2⟩ := (show ∃ pt, ys = [.ref pt] ∧ G4 pt = some (.tup [.str mm.k.word, .int c.1, .int c.2]) from hys)
            have hn0 : n = 0 := by simpa using hn
            subst hn0
            cases hx2
            walk_at "rd"
            refine w_gtup (SqT.of (a4.k _ _ ht2)) rfl ?_
            walk_at "rd"
            refine w_ite (fun c1 => ?_) (fun c1 => ?_)
            · walk_at "rd"
              try refine w_bl ?_
              refine w_ite (fun c2 => ?_) (fun c2 => ?_)
              · walk_at "rd"
                refine w_lenL (SqL.of (a4.k _ _ (a4.g _ _ hf))) ?_
                walk_at "rd"
                refine ⟨rfl, some (.str mm.k.word), some (.int c.1), some (.int c.2), ?_⟩
                have eg : goodW fr.length (some c) = decide (c.1 < (xf.length : Nat)) := by
                  show (decide (c.2 > 0) && (decide (0 ≤ c.1) && decide (c.1 < (fr.length : Nat)))) = _
                  rw [decide_eq_true c1, decide_eq_true c2, lf]
                  rfl
                rw [if_neg (by decide : ¬ (0 + 1 = 0)), eg]
                rfl
              · walk_at "rd"
                refine ⟨rfl, some (.str mm.k.word), some (.int c.1), some (.int c.2), ?_⟩
                have eg : goodW fr.length (some c) = false := by
                  show (decide (c.2 > 0) && (decide (0 ≤ c.1) && decide (c.1 < (fr.length : Nat)))) = _
                  rw [decide_eq_false c2]
                  simp
                rw [if_neg (by decide : ¬ (0 + 1 = 0)), eg]
                rfl
            · walk_at "rd"
              refine ⟨rfl, some (.str mm.k.word), some (.int c.1), some (.int c.2), ?_⟩
              have eg : goodW fr.length (some c) = false := by
                show (decide (c.2 > 0) && (decide (0 ≤ c.1) && decide (c.1 < (fr.length : Nat)))) = _
                rw [decide_eq_false c1]
                rfl
              rw [if_neg (by decide : ¬ (0 + 1 = 0)), eg]
              rfl
        · rintro σ H5 ⟨rfl, p12, p13, p14, rfl⟩
          have eg : (if ys.length = 0 then true else goodW fr.length wo) = goodW fr.length wo := by
            cases wo with
            | none =>
              cases (show ys = [] from hys)
              rfl
            | some c =>
              obtain ⟨pt2, rfl, ht2⟩ := (show ∃ pt, ys = [.ref pt] ∧ G4 pt = some (.tup [.str mm.k.word, .int c.1, .int c.2]) from hys)
              rfl
          rw [eg]
          walk_at "rd"
          refine w_iteB (fun c => ?_) (fun c => ?_)
          · walk_at "rd"
            refine w_tyL a4.at_ ?_
            walk_at "rd"
            have hm4 := a4.g _ _ hm
            refine w_slTake a4.k (SqL.of (a4.k _ _ hm4)) (by omega) fun p5 G5 H5 s5 hp5 _ => ?_
            walk_at "rd"
            have ly : ys.length ≤ 1 := by
              cases wo with
              | none =>
                cases (show ys = [] from hys)
                simp
              | some cc =>
                obtain ⟨pt2, rfl, ht2⟩ := (show ∃ pt, ys = [.ref pt] ∧ G4 pt = some (.tup [.str mm.k.word, .int cc.1, .int cc.2]) from hys)
                simp
            refine w_cat s5.k (s5.k _ _ hp5) (s5.k _ _ (s5.g _ _ hpo)) (by simp; omega) fun p6 G6 H6 s6 hp6 _ => ?_
            walk_at "rd"
            refine w_slDrop (i := i + 1) s6.k (SqL.of (s6.k _ _ (s6.g _ _ (s5.g _ _ hm4)))) (by omega) fun p7 G7 H7 s7 hp7 _ => ?_
            walk_at "rd"
            refine w_cat s7.k (s7.k _ _ (s7.g _ _ hp6)) (s7.k _ _ hp7) (by simp; omega) fun p8 G8 H8 s8 hp8 _ => ?_
            walk_at "rd"
            refine w_tupK s8.k rfl fun p9' G9 H9 s9 hp9 _ => ?_
            walk_at "rd"
            have s59 := s5.trans (s6.trans (s7.trans (s8.trans s9)))
            have ll := paired_len r4
            rw [List.length_map] at ll
            refine w_app (a4.step s59) (by omega) fun a9 => ?_
            walk_at "rd"
            have rMs : Paired (RMvT G9) xm ms := paired_up (a4.g.trans s59.g) rm
            have rY : Paired (RMvT G9) ys (mkW mm.k wo).toList := by
              cases wo with
              | none =>
                cases (show ys = [] from hys)
                exact .nil
              | some cc =>
                obtain ⟨pt2, rfl, ht2⟩ := (show ∃ pt, ys = [.ref pt] ∧ G4 pt = some (.tup [.str mm.k.word, .int cc.1, .int cc.2]) from hys)
                have cg : (decide (cc.2 > 0) && (decide (0 ≤ cc.1) && decide (cc.1 < (fr.length : Nat)))) = true := c
                rw [Bool.and_eq_true, Bool.and_eq_true, decide_eq_true_iff, decide_eq_true_iff] at cg
                refine .cons ⟨pt2, rfl, ?_⟩ .nil
                show G9 pt2 = some (.tup [.str mm.k.word, .int (cc.1.toNat : Int), .int (cc.2.toNat : Int)])
                rw [Int.toNat_of_nonneg cg.2.1, Int.toNat_of_nonneg (by omega)]
                exact s59.g _ _ ht2
            refine ⟨G9, _, told4 ++ [slW i mm.k (wd, wo)], _, _, _, _, _, _, a9, g4.trans s59.g, ?_, by simp; omega, ?_, rfl⟩
            · rw [List.map_append]
              refine paired_app (paired_up s59.g r4) (.cons ⟨p9', .ref p8, rfl, hp9, p8, _, rfl, s9.g _ _ hp8, ?_⟩ .nil)
              exact paired_app (paired_app (paired_take _ rMs) rY) (paired_drop _ rMs)
            · rw [htk, List.filter_append, e4, List.map_append, List.filter_cons_of_pos (by exact c)]
              simp
          · walk_at "rd"
            refine ⟨G4, xs4, told4, _, _, _, _, _, _, a4, g4, r4, by omega, ?_, rfl⟩
            rw [htk, List.filter_append, e4, List.filter_cons_of_neg (by rw [show goodW fr.length (wd, wo).2 = false from c]; exact Bool.false_ne_true)]
            simp
      · rintro σ H5 ⟨G4, xs4, told4, p9, p10, p11, p12, p13, p14, a4, g4, r4, l4, e4, rfl⟩
        have ht : (LWs mm).take ([V.ref q3, V.ref q6, V.ref q8] ++ [V.ref q12, V.ref q15]).length = LWs mm := List.take_of_length_le (by simp [LWs])
        rw [ht, lws_at hb1 hb2] at e4
        refine ⟨G4, xs4, told4, _, _, _, _, _, _, _, _, _, _, _, _, a4, r4, by simp at l4; omega, ?_, rfl⟩
        rw [e2, hdrop, e4]
        show told ++ (slipsAt fr.length i mm ++ slipsFrom fr.length (i + 1) (ms.drop (i + 1))) = _
        rw [List.append_assoc]
    · rintro σ H' ⟨G2, xs, told, o3, o4, o5, o6, o7, o8, o9, o10, o11, o12, o13, o14, a2, r2, l2, e2, rfl⟩
      walk_at "rd"
      have hd : ms.drop xm.length = [] := by
        rw [List.drop_eq_nil_iff]
        omega
      rw [hd] at e2
      have e3 : slipsAll fr.length ms = told := by
        rw [e2]
        show told ++ [] = told
        rw [List.append_nil]
      refine q _ _ _ a2.done ?_
      rw [e3]
      exact a2.lst r2
end
end BF
namespace BF
open PySem PySem.Spec PyProof.Rows L2 TL HotX
local macro_rules | `(tactic| walk_at "rd") => `(tactic| repeat (first
  | with_reducible refine w_var rfl ?_ | with_reducible refine w_c ?_ | with_reducible refine w_seq ?_ | with_reducible refine w_op ?_
  | with_reducible refine w_asg ?_ | with_reducible refine w_name ?_ | with_reducible refine w_ret ?_ | with_reducible refine w_drop ?_ | with_reducible refine w_next ?_
  | with_reducible refine w_if ?_ | with_reducible refine w_test ?_ | with_reducible refine w_B ?_ | with_reducible refine w_bl ?_ | with_reducible refine w_not ?_
  | with_reducible refine w_and ?_ | with_reducible refine w_or ?_ | with_reducible refine w_nil ?_ | with_reducible refine w_cons ?_ | with_reducible refine w_cb ?_
  | with_reducible refine w_chain ?_ | with_reducible refine w_call ?_ | with_reducible refine w_un ?_ | with_reducible refine w_neg ?_
  | with_reducible refine w_andV ?_ | with_reducible refine w_orV ?_ | with_reducible refine w_notV ?_ | with_reducible refine w_iteT ?_ | with_reducible refine w_iteF ?_ | with_reducible refine w_ntT ?_ | with_reducible refine w_ntF ?_
  | with_reducible refine g_add ?_ | with_reducible refine g_sub ?_ | with_reducible refine g_cmp ?_ | with_reducible refine g_eqI ?_ | with_reducible refine g_neI ?_ | with_reducible refine g_eqS ?_ | with_reducible refine g_neS ?_
  | with_reducible refine w_min ?_ | with_reducible refine w_max ?_ | with_reducible refine w_isN ?_ | with_reducible refine w_notN ?_ | with_reducible refine w_notSg ?_ | with_reducible refine w_gcons ?_ | with_reducible refine w_gnil ?_ | with_reducible refine w_sl ?_ | with_reducible refine w_noP ?_ | with_reducible refine w_part ?_ | with_reducible refine w_int1 ?_ | with_reducible refine w_tup ?_ | with_reducible refine w_lst ?_ | with_reducible refine g_intB ?_ | with_reducible refine w_fld ?_ | with_reducible refine w_meth ?_ | with_reducible refine w_make ?_
  | with_reducible refine w_lc ?_ | with_reducible refine w_for ?_ | with_reducible refine w_iL ?_ | with_reducible refine w_iT ?_ | with_reducible refine w_iS ?_ | with_reducible refine w_iRev ?_ | with_reducible refine w_iEn ?_ | with_reducible refine w_iZip ?_ | with_reducible refine w_iR1 ?_
  | with_reducible refine w_bm ?_ | with_reducible refine w_bm0 ?_ | with_reducible refine w_M1 ?_ | with_reducible refine w_isStr ?_
  | dsimp only))
local macro_rules | `(tactic| walk_at "same") => `(tactic| first | exact Same.refl _ | assumption | exact Stp.g (by assumption) | (refine Same.trans (Stp.g (by assumption)) ?_; walk_at "same"))
local macro_rules | `(tactic| walk_at "k") => `(tactic| first | assumption | exact Stp.k (by assumption) | exact Acc.k (by assumption))
local macro_rules | `(tactic| walk_at "stp") => `(tactic| first | assumption | exact Stp.refl (by walk_at "k") | (refine Stp.trans (by assumption) ?_; walk_at "stp"))
local macro_rules | `(tactic| walk_at "up") => `(tactic| first | assumption | exact up (by assumption) (by walk_at "same"))
local macro_rules | `(tactic| walk_at "gh") => `(tactic| first | assumption | exact Stp.k (by assumption) | (refine Same.trans (Stp.g (by assumption)) ?_; walk_at "gh"))
local macro_rules | `(tactic| walk_at "at") => `(tactic| first | assumption | exact at_ (by assumption) (by walk_at "gh"))
local macro_rules | `(tactic| walk_at "L") => `(tactic| exact SqL.of (by walk_at "at"))
local macro_rules | `(tactic| walk_at "T") => `(tactic| exact SqT.of (by walk_at "at"))
local macro_rules | `(tactic| walk_at "o1") => `(tactic| first | with_reducible refine w_yes (by first | assumption | omega) ?_ | with_reducible refine w_no (by first | assumption | omega) ?_ | with_reducible refine w_yesN (by first | assumption | omega) ?_ | with_reducible refine w_noN (by first | assumption | omega) ?_)
local macro_rules | `(tactic| walk_at "o") => `(tactic| (walk_at "rd"; repeat (walk_at "o1"; walk_at "rd")))

/-! ### plain: pushes, standings that fit -/
theorem push_at {fr : List Lay} {st : List Rod} {m : Mv} {y : Lay} {s : Rod} (h1 : fr[m.rod]? = some y) (h2 : st[m.rod]? = some s) (h3 : fits y (reach m.k s m.beads)) : push fr st m = some (st.take m.rod ++ [reach m.k s m.beads] ++ st.drop (m.rod + 1)) := by
  unfold push
  rw [h1, h2]
  show (if _ then _ else _) = _
  rw [if_pos h3]
theorem push_inv {fr : List Lay} {st s' : List Rod} {m : Mv} (h : push fr st m = some s') : ∃ y s, fr[m.rod]? = some y ∧ st[m.rod]? = some s ∧ fits y (reach m.k s m.beads) ∧ s' = st.take m.rod ++ [reach m.k s m.beads] ++ st.drop (m.rod + 1) := by
  unfold push at h
  split at h
  · rename_i ly s e1 e2
    split at h
    · rename_i hf
      cases h
      exact ⟨ly, s, e1, e2, hf, rfl⟩
    · cases h
  · cases h
theorem mid_at {st : List Rod} {r : Nat} {x : Rod} (hr : r < st.length) (j : Nat) : (st.take r ++ [x] ++ st.drop (r + 1))[j]? = if j = r then some x else st[j]? := by
  have e : st.take r ++ [x] ++ st.drop (r + 1) = st.set r x := by
    rw [List.set_eq_take_append_cons_drop, if_pos hr]
    simp
  rw [e, List.getElem?_set]
  by_cases h : j = r
  · subst h
    simp [hr]
  · rw [if_neg (Ne.symm h), if_neg h]
theorem fit_push {fr : List Lay} {st s' : List Rod} {m : Mv} (hf : Fit fr st) (h : push fr st m = some s') : Fit fr s' := by
  refine ⟨by rw [push_len h]; exact hf.1, fun j y s e1 e2 => ?_⟩
  obtain ⟨y0, s0, h1, h2, h3, rfl⟩ := push_inv h
  have hr : m.rod < st.length := (List.getElem?_eq_some_iff.mp h2).1
  rw [mid_at hr] at e2
  by_cases hj : j = m.rod
  · subst hj
    rw [if_pos rfl] at e2
    cases e2
    rw [h1] at e1
    cases e1
    exact h3
  · rw [if_neg hj] at e2
    exact hf.2 j y s e1 e2
theorem fit_all {fr : List Lay} : ∀ {ms : List Mv} {st s' : List Rod}, Fit fr st → allM fr st ms = some s' → Fit fr s'
  | [], st, s', hf, h => by cases h; exact hf
  | m :: ms, st, s', hf, h => by
    unfold allM at h
    split at h
    · rename_i s e
      exact fit_all (fit_push hf e) h
    · cases h
theorem allM_app {fr : List Lay} : ∀ {a b : List Mv} {st : List Rod}, allM fr st (a ++ b) = (allM fr st a).bind fun s => allM fr s b
  | [], b, st => rfl
  | m :: a, b, st => by
    show (match push fr st m with | some s => allM fr s (a ++ b) | none => none) = (match push fr st m with | some s => allM fr s a | none => none).bind _
    cases push fr st m with
    | none => rfl
    | some s => exact allM_app
theorem allM_one {fr : List Lay} {st : List Rod} {m : Mv} : allM fr st [m] = push fr st m := by
  show (match push fr st m with | some s => allM fr s [] | none => none) = _
  cases push fr st m <;> rfl
theorem ok_rods {fr : List Lay} {st : List Rod} (ol : ∀ y ∈ fr, OkLay y) (hf : Fit fr st) : ∀ s ∈ st, OkRod s := by
  intro s hs
  obtain ⟨j, hj, e⟩ := List.getElem_of_mem hs
  have hj2 : j < fr.length := by rw [← hf.1]; exact hj
  have ft := hf.2 j fr[j] s (List.getElem?_eq_getElem hj2) (by rw [List.getElem?_eq_getElem hj, e])
  obtain ⟨u0, u1, w0, w1, l0, l1, b0, b1, _, _, _⟩ := ol _ (List.getElem_mem hj2)
  obtain ⟨⟨f1, f2⟩, f3, f4⟩ := ft
  exact ⟨f1, by omega, f3, by omega⟩
/-- so many beads can be pushed so -/
def roomOf (k : K4) (y : Lay) (s : Rod) : Int := match k with
  | .up => y.l - s.2
  | .down => s.2
  | .put => y.u - s.1
  | .take => s.1
theorem reach_fits {k : K4} {y : Lay} {s : Rod} {b : Nat} (h : fits y s) (h2 : (b : Int) ≤ roomOf k y s) : fits y (reach k s b) := by
  obtain ⟨⟨f1, f2⟩, f3, f4⟩ := h
  cases k <;> (unfold roomOf at h2; simp only at h2; refine ⟨⟨?_, ?_⟩, ?_, ?_⟩ <;> simp only [reach] <;> omega)
theorem room_le {k : K4} {y : Lay} {s : Rod} (o : OkLay y) (h : fits y s) : roomOf k y s ≤ 24 := by
  obtain ⟨⟨f1, f2⟩, f3, f4⟩ := h
  obtain ⟨u0, u1, w0, w1, l0, l1, b0, b1, _, _, _⟩ := o
  cases k <;> (unfold roomOf; simp only; omega)
section
variable {P : Program} {w : World} {K : PySem.W.Frag} {mg : Str → Option Value} {base : Heap} {A : Adr} {fI : Addr} {fd : FuncData}
def spLMoves (K : PySem.W.Frag) : Sp := fun vs H Q _ => ∃ (G : Hp) (ns : List Int) (kk : Int) (fr : List Lay) (st : List Rod) (v vf vst : V), vs = [v, .int kk, vf, vst] ∧ Same G H ∧ RScr K G v ns ∧ ns.length ≤ 63 ∧ 0 ≤ kk ∧ kk ≤ 100 ∧ RFrame G vf fr ∧ RStd G vst st ∧ 1 ≤ fr.length ∧ fr.length ≤ 20 ∧ (∀ y ∈ fr, OkLay y) ∧ Fit fr st ∧
  ∀ v' ms st' G' H', Stp G H G' H' → RRowT G' v' ms → ms.length ≤ 6 → (∀ m ∈ ms, OkMv m ∧ m.rod < fr.length) → allM fr st ms = some st' → Q v' H'
theorem ok_l_moves (T : Bas K mg) (f__law_mixed : Cal P w K mg base CX0 "_law_mixed" ["_law_script", "_law_k"] 1 (spMixed K)) (f__law_push : Cal P w K mg base CX0 "_law_push" ["_law_frame_here", "_law_standing", "_law_word", "_law_rod", "_law_beads"] 1 spPush)
    (D : Std K mg "_law_moves" "_law_moves" "_law_moves" s_l_moves ["_law_script", "_law_k", "_law_frame_here", "_law_standing"]) : Cal P w K mg base CX0 "_law_moves" ["_law_script", "_law_k", "_law_frame_here", "_law_standing"] 2 (spLMoves K) := by
  refine D.cal sc_l_moves (fun vs H Q E h => ?_) (fun f cdv A0 outer s H vs Q E hr h => ?_)
  · obtain ⟨G, ns, kk, fr, st, v, vf, vst, rfl, _⟩ := h; rfl
  · obtain ⟨G, ns, kk, fr, st, v, vf, vst, rfl, k, hs, hl, k0, k1, ⟨pf, xf, rfl, hf, rf⟩, hst, z1, z2, ol, fit, q⟩ := h
    have lf := paired_len rf
    refine ⟨_, (pss_cons (ps_set (i := 4) sc_l_moves.nd rfl (by first | exact Or.inl rfl | exact Or.inr rfl) (pe_lst pa_nil))
  (pss_cons (ps_for PassesOwn.never rfl (pi_range1 (by rfl) T.z_range (pa_cons (pe_op opAdd pe_int (pe_op op_mod (pe_cal f__law_mixed hr (by decide) pass0 (pa_cons (pv 0) (pa_cons (pe_op opAdd pe_int (pv 1)) pa_nil))) pe_int)) pa_nil)) (pg_name (i := 5) sc_l_moves.nd rfl (by first | exact Or.inl rfl | exact Or.inr rfl))
  (pss_cons (ps_set (i := 6) sc_l_moves.nd rfl (by first | exact Or.inl rfl | exact Or.inr rfl) (pe_cal f__law_mixed hr (by decide) pass0 (pa_cons (pv 0) (pa_cons (pe_op opAdd (pe_op opAdd pe_int (pe_op opMul pe_int (pv 1))) (pv 5)) pa_nil))))
  (pss_cons (ps_set (i := 7) sc_l_moves.nd rfl (by first | exact Or.inl rfl | exact Or.inr rfl) (pe_op op_mod (pv 6) (pe_callB callLen (by rfl) T.z_len PySem.boot_len (pa_cons (pv 2) pa_nil))))
  (pss_cons (ps_asg (pe_ix ix_seq (pv 2) (pv 7) (fun _ _ => rfl)) (pg_tup rfl (pgs_cons (pg_name (i := 8) sc_l_moves.nd rfl (by first | exact Or.inl rfl | exact Or.inr rfl)) (pgs_cons (pg_name (i := 9) sc_l_moves.nd rfl (by first | exact Or.inl rfl | exact Or.inr rfl)) (pgs_cons (pg_name (i := 10) sc_l_moves.nd rfl (by first | exact Or.inl rfl | exact Or.inr rfl)) (pgs_cons (pg_name (i := 11) sc_l_moves.nd rfl (by first | exact Or.inl rfl | exact Or.inr rfl)) pgs_nil))))))
  (pss_cons (ps_asg (pe_ix ix_seq (pv 3) (pv 7) (fun _ _ => rfl)) (pg_tup rfl (pgs_cons (pg_name (i := 12) sc_l_moves.nd rfl (by first | exact Or.inl rfl | exact Or.inr rfl)) (pgs_cons (pg_name (i := 13) sc_l_moves.nd rfl (by first | exact Or.inl rfl | exact Or.inr rfl)) pgs_nil))))
  (pss_cons (ps_set (i := 14) sc_l_moves.nd rfl (by first | exact Or.inl rfl | exact Or.inr rfl) (pe_lst (pa_cons (pe_op op_sub (pv 10) (pv 13)) (pa_cons (pv 13) (pa_cons (pe_op op_sub (pv 8) (pv 12)) (pa_cons (pv 12) pa_nil))))))
  (pss_cons (ps_set (i := 15) sc_l_moves.nd rfl (by first | exact Or.inl rfl | exact Or.inr rfl) (pe_op op_mod (pe_op op_fdiv (pv 6) pe_int) pe_int))
  (pss_one (ps_if (pt_cmpR op_gt (pe_ix ix_seq (pv 14) (pv 15) (fun _ _ => rfl)) pe_int (nomark _)) (pss_cons (ps_set (i := 16) sc_l_moves.nd rfl (by first | exact Or.inl rfl | exact Or.inr rfl) (pe_ix ix_seq (pe_lst (pa_cons pe_str (pa_cons pe_str (pa_cons pe_str (pa_cons pe_str pa_nil))))) (pv 15) (fun _ _ => rfl)))
  (pss_cons (ps_set (i := 17) sc_l_moves.nd rfl (by first | exact Or.inl rfl | exact Or.inr rfl) (pe_op opAdd pe_int (pe_op op_mod (pe_op op_fdiv (pv 6) pe_int) (pe_callB (callMin rfl) (by rfl) T.z_min boot_min (pa_cons pe_int (pa_cons (pe_ix ix_seq (pv 14) (pv 15) (fun _ _ => rfl)) pa_nil))))))
  (pss_cons (ps_set (i := 3) sc_l_moves.nd rfl (by first | exact Or.inl rfl | exact Or.inr rfl) (pe_cal f__law_push hr (by decide) pass0 (pa_cons (pv 2) (pa_cons (pv 3) (pa_cons (pv 16) (pa_cons (pv 7) (pa_cons (pv 17) pa_nil)))))))
  (pss_one (ps_expr (pe_bm PySem.F.plainAttrs_list PySem.F.slot_list_append PySem.F.type_list_append mt_append (pv 4) (pa_cons (pe_tup (pa_cons (pv 16) (pa_cons (pv 7) (pa_cons (pv 17) pa_nil)))) pa_nil))))))) pss_nil)))))))))
  (pss_one (ps_ret (pv 4))))), ?_⟩
    walk_at "rd"
    refine w_acc k fun DD H1 a1 => ?_
    walk_at "rd"
    refine ⟨G, ns, _, _, rfl, a1.k, hs, hl, by omega, by omega, ?_⟩
    intro c G1 H2 c0 c1 s1
    have a2 := a1.step s1
    walk_at "rd"
    refine g_mod (by omega) ?_
    walk_at "rd"
    have e1 : 0 ≤ c % 6 := by omega
    have e2 : c % 6 < 6 := by omega
    generalize c % 6 = mo at e1 e2
    refine ⟨_, rfl, by omega, by omega, ?_⟩
    refine for_go (walk_range (lo := 0) (n := (1 + mo).toNat)) (fun i σ H' => ∃ (G' : Hp) (xs : List V) (ms : List Mv) (cur : List Rod) (v3 : V) (o5 o6 o7 o8 o9 o10 o11 o12 o13 o14 o15 o16 o17 : Option V), Acc G H DD xs G' H' ∧ Paired (RMvT G') xs ms ∧ ms.length ≤ i ∧ (∀ m ∈ ms, OkMv m ∧ m.rod < fr.length) ∧
      RStd G' v3 cur ∧ Fit fr cur ∧ allM fr st ms = some cur ∧ σ = [some v, some (.int kk), some (.ref pf), some v3, some (.ref DD), o5, o6, o7, o8, o9, o10, o11, o12, o13, o14, o15, o16, o17]) ?_ (fun _ _ _ _ _ => True.intro) ?_ ?_
    · exact ⟨G1, [], [], st, vst, none, none, none, none, none, none, none, none, none, none, none, none, none, a2, .nil, Nat.le_refl _, fun m h => (by cases h), up (R := RStd) hst s1.g, fit, rfl, rfl⟩
    · rintro i x σ H3 H3' hi ⟨G3, xs, ms, cur, v3, o5, o6, o7, o8, o9, o10, o11, o12, o13, o14, o15, o16, o17, a3, r3, l3, om, rc, fc, ea, rfl⟩ ⟨rfl, rfl⟩
      walk_at "rd"
      refine g_mul (.inl (by omega)) ?_
      walk_at "rd"
      refine ⟨G3, ns, _, _, rfl, a3.k, up (R := RScr K) hs a3.g, hl, by omega, by omega, ?_⟩
      intro cl G4 H4 cl0 cl1 s4
      have a4 := a3.step s4
      walk_at "rd"
      refine w_lenL (SqL.of (a4.k _ _ (a4.g _ _ hf))) ?_
      rw [lf]
      refine g_mod (by omega) ?_
      walk_at "rd"
      obtain ⟨r, er, hr1⟩ : ∃ r : Nat, cl % (fr.length : Int) = (r : Int) ∧ r < fr.length := by
        have h1 : 0 ≤ cl % (fr.length : Int) := Int.emod_nonneg _ (by omega)
        have h2 : cl % (fr.length : Int) < (fr.length : Int) := Int.emod_lt_of_pos _ (by omega)
        exact ⟨(cl % (fr.length : Int)).toNat, by omega, by omega⟩
      rw [er]
      have ey : fr[r]? = some fr[r] := List.getElem?_eq_getElem hr1
      have hr2 : r < cur.length := by rw [fc.1]; exact hr1
      have es : cur[r]? = some cur[r] := List.getElem?_eq_getElem hr2
      have oy : OkLay fr[r] := ol _ (List.getElem_mem hr1)
      have fs : fits fr[r] cur[r] := fc.2 r _ _ ey es
      generalize fr[r] = y at ey oy fs
      generalize cur[r] = s0 at es fs
      obtain ⟨p3, x3, rfl, h3, rx3⟩ := id rc
      obtain ⟨_, ex, py, rfl, hy⟩ := paired_at (paired_up a4.g rf) ey
      obtain ⟨_, ex2, ps0, rfl, hs0⟩ := paired_at (paired_up s4.g rx3) es
      refine w_ixL (SqL.of (a4.k _ _ (a4.g _ _ hf))) ex ?_
      walk_at "rd"
      refine w_gtup (SqT.of (s4.k _ _ hy)) rfl ?_
      unfold layV
      walk_at "rd"
      refine w_ixL (SqL.of (s4.k _ _ (s4.g _ _ h3))) ex2 ?_
      walk_at "rd"
      refine w_gtup (SqT.of (s4.k _ _ hs0)) rfl ?_
      unfold rodV
      walk_at "rd"
      refine w_lstK s4.k rfl fun p5 G5 H5 s5 hp5 _ => ?_
      walk_at "rd"
      refine g_fdiv ⟨by omega, by omega⟩ ?_
      walk_at "rd"
      refine g_mod (by omega) ?_
      walk_at "rd"
      obtain ⟨kd, erm, ewd⟩ : ∃ kd : K4, atI [V.int (y.l - s0.2), .int s0.2, .int (y.u - s0.1), .int s0.1] (cl / 20 % 4) = some (.int (roomOf kd y s0)) ∧ atI [V.str "up", .str "down", .str "put", .str "take"] (cl / 20 % 4) = some (.str kd.word) := by
        rcases (show cl / 20 % 4 = 0 ∨ cl / 20 % 4 = 1 ∨ cl / 20 % 4 = 2 ∨ cl / 20 % 4 = 3 by omega) with e | e | e | e
        · exact ⟨.up, by rw [e]; rfl, by rw [e]; rfl⟩
        · exact ⟨.down, by rw [e]; rfl, by rw [e]; rfl⟩
        · exact ⟨.put, by rw [e]; rfl, by rw [e]; rfl⟩
        · exact ⟨.take, by rw [e]; rfl, by rw [e]; rfl⟩
      refine g_ixL (SqL.of (s5.k _ _ hp5)) erm ?_
      walk_at "rd"
      have a5 := a4.step s5
      refine w_ite (fun c2 => ?_) (fun c2 => ?_)
      · walk_at "rd"
        refine w_lstK s5.k rfl fun p6 G6 H6 s6 hp6 _ => ?_
        walk_at "rd"
        refine g_ixL (SqL.of (s6.k _ _ hp6)) ewd ?_
        walk_at "rd"
        refine g_fdiv ⟨by omega, by omega⟩ ?_
        walk_at "rd"
        refine g_ixL (SqL.of (s6.k _ _ (s6.g _ _ hp5))) erm ?_
        walk_at "rd"
        have hrm := room_le (k := kd) oy fs
        have m1 := @min_le 3 (roomOf kd y s0)
        have m2 := @min_or 3 (roomOf kd y s0)
        generalize (if roomOf kd y s0 < 3 then roomOf kd y s0 else 3) = mn at m1 m2 ⊢
        refine g_mod (by omega) ?_
        walk_at "rd"
        obtain ⟨b, eb, hb0, hb1⟩ : ∃ b : Nat, 1 + cl / 80 % mn = (b : Int) ∧ 1 ≤ b ∧ (b : Int) ≤ mn := by
          have h1 : 0 ≤ cl / 80 % mn := Int.emod_nonneg _ (by omega)
          have h2 : cl / 80 % mn < mn := Int.emod_lt_of_pos _ (by omega)
          exact ⟨(1 + cl / 80 % mn).toNat, by omega, by omega, by omega⟩
        rw [eb]
        have s56 := s5.trans s6
        have a6 := a4.step s56
        have ep := push_at (fr := fr) (st := cur) (m := ⟨kd, r, b⟩) ey es (reach_fits (k := kd) (b := b) fs (by omega))
        refine ⟨G6, fr, cur, ⟨kd, r, b⟩, _, _, rfl, s6.k, ⟨pf, xf, rfl, a6.g _ _ hf, paired_up a6.g rf⟩, ⟨p3, x3, rfl, (s4.trans s56).g _ _ h3, paired_up (s4.trans s56).g rx3⟩, fc.1, by omega, by show b ≤ 1000; omega, ?_⟩
        intro v7 G7 H7 s7 r7
        rw [ep] at r7
        walk_at "rd"
        have a7 := a6.step s7
        refine w_tyL a7.at_ ?_
        walk_at "rd"
        refine w_tupK s7.k rfl fun p8 G8 H8 s8 hp8 _ => ?_
        walk_at "rd"
        have ll := paired_len r3
        refine w_app (a7.step s8) (by omega) fun a9 => ?_
        walk_at "rd"
        have s48 := s4.trans (s56.trans (s7.trans s8))
        refine ⟨G8, _, ms ++ [⟨kd, r, b⟩], _, v7, _, _, _, _, _, _, _, _, _, _, _, _, _, a9, paired_app (paired_up s48.g r3) (.cons (show RMvT G8 (.ref p8) ⟨kd, r, b⟩ from ⟨p8, rfl, hp8⟩) .nil), by simp; omega, fun m hm => ?_, up (R := RStd) (show RStd G7 v7 _ from r7) s8.g, fit_push fc ep, ?_, rfl⟩
        · rcases List.mem_append.mp hm with h | h
          · exact om m h
          · cases List.mem_singleton.mp h
            exact ⟨⟨by show r < 100; omega, hb0, by show b < 100; omega⟩, hr1⟩
        · rw [allM_app, ea]
          show allM fr cur [⟨kd, r, b⟩] = _
          rw [allM_one, ep]
      · walk_at "rd"
        have s45 := s4.trans s5
        exact ⟨G5, xs, ms, cur, _, _, _, _, _, _, _, _, _, _, _, _, _, _, a5, paired_up s45.g r3, by omega, om, ⟨p3, x3, rfl, s45.g _ _ h3, paired_up s45.g rx3⟩, fc, ea, rfl⟩
    · rintro σ H' ⟨G3, xs, ms, cur, v3, o5, o6, o7, o8, o9, o10, o11, o12, o13, o14, o15, o16, o17, a3, r3, l3, om, rc, fc, ea, rfl⟩
      walk_at "rd"
      exact q _ ms cur _ _ a3.done (a3.lst r3) (by omega) om ea
end
end BF
namespace BF
open PySem PySem.Spec PyProof.Rows L2 TL HotX
local macro_rules | `(tactic| walk_at "rd") => `(tactic| repeat (first
  | with_reducible refine w_var rfl ?_ | with_reducible refine w_c ?_ | with_reducible refine w_seq ?_ | with_reducible refine w_op ?_
  | with_reducible refine w_asg ?_ | with_reducible refine w_name ?_ | with_reducible refine w_ret ?_ | with_reducible refine w_drop ?_ | with_reducible refine w_next ?_
  | with_reducible refine w_if ?_ | with_reducible refine w_test ?_ | with_reducible refine w_B ?_ | with_reducible refine w_bl ?_ | with_reducible refine w_not ?_
  | with_reducible refine w_and ?_ | with_reducible refine w_or ?_ | with_reducible refine w_nil ?_ | with_reducible refine w_cons ?_ | with_reducible refine w_cb ?_
  | with_reducible refine w_chain ?_ | with_reducible refine w_call ?_ | with_reducible refine w_un ?_ | with_reducible refine w_neg ?_
  | with_reducible refine w_andV ?_ | with_reducible refine w_orV ?_ | with_reducible refine w_notV ?_ | with_reducible refine w_iteT ?_ | with_reducible refine w_iteF ?_ | with_reducible refine w_ntT ?_ | with_reducible refine w_ntF ?_
  | with_reducible refine g_add ?_ | with_reducible refine g_sub ?_ | with_reducible refine g_cmp ?_ | with_reducible refine g_eqI ?_ | with_reducible refine g_neI ?_ | with_reducible refine g_eqS ?_ | with_reducible refine g_neS ?_
  | with_reducible refine w_min ?_ | with_reducible refine w_max ?_ | with_reducible refine w_isN ?_ | with_reducible refine w_notN ?_ | with_reducible refine w_notSg ?_ | with_reducible refine w_gcons ?_ | with_reducible refine w_gnil ?_ | with_reducible refine w_sl ?_ | with_reducible refine w_noP ?_ | with_reducible refine w_part ?_ | with_reducible refine w_int1 ?_ | with_reducible refine w_tup ?_ | with_reducible refine w_lst ?_ | with_reducible refine g_intB ?_ | with_reducible refine w_fld ?_ | with_reducible refine w_meth ?_ | with_reducible refine w_make ?_
  | with_reducible refine w_lc ?_ | with_reducible refine w_for ?_ | with_reducible refine w_iL ?_ | with_reducible refine w_iT ?_ | with_reducible refine w_iS ?_ | with_reducible refine w_iRev ?_ | with_reducible refine w_iEn ?_ | with_reducible refine w_iZip ?_ | with_reducible refine w_iR1 ?_
  | with_reducible refine w_bm ?_ | with_reducible refine w_bm0 ?_ | with_reducible refine w_M1 ?_ | with_reducible refine w_isStr ?_
  | dsimp only))
local macro_rules | `(tactic| walk_at "same") => `(tactic| first | exact Same.refl _ | assumption | exact Stp.g (by assumption) | (refine Same.trans (Stp.g (by assumption)) ?_; walk_at "same"))
local macro_rules | `(tactic| walk_at "k") => `(tactic| first | assumption | exact Stp.k (by assumption) | exact Acc.k (by assumption))
local macro_rules | `(tactic| walk_at "stp") => `(tactic| first | assumption | exact Stp.refl (by walk_at "k") | (refine Stp.trans (by assumption) ?_; walk_at "stp"))
local macro_rules | `(tactic| walk_at "up") => `(tactic| first | assumption | exact up (by assumption) (by walk_at "same"))
local macro_rules | `(tactic| walk_at "gh") => `(tactic| first | assumption | exact Stp.k (by assumption) | (refine Same.trans (Stp.g (by assumption)) ?_; walk_at "gh"))
local macro_rules | `(tactic| walk_at "at") => `(tactic| first | assumption | exact at_ (by assumption) (by walk_at "gh"))
local macro_rules | `(tactic| walk_at "L") => `(tactic| exact SqL.of (by walk_at "at"))
local macro_rules | `(tactic| walk_at "T") => `(tactic| exact SqT.of (by walk_at "at"))
local macro_rules | `(tactic| walk_at "o1") => `(tactic| first | with_reducible refine w_yes (by first | assumption | omega) ?_ | with_reducible refine w_no (by first | assumption | omega) ?_ | with_reducible refine w_yesN (by first | assumption | omega) ?_ | with_reducible refine w_noN (by first | assumption | omega) ?_)
local macro_rules | `(tactic| walk_at "o") => `(tactic| (walk_at "rd"; repeat (walk_at "o1"; walk_at "rd")))

/-! ### plain: slips' rows -/
theorem slip_mv {n i : Nat} {m : Mv} {s : Slip} {b : Nat} (hb : m.beads ≤ b) (h : s ∈ slipsAt n i m) : ∀ x ∈ s.mv.toList, x.beads ≤ b + 1 := by
  unfold slipsAt at h
  obtain ⟨q, hq, rfl⟩ := List.mem_map.mp h
  unfold ways wayFewer wayLast wayNext at hq
  simp only [List.mem_append] at hq
  rcases hq with (((hq | hq) | hq) | hq) | hq
  · split at hq
    · cases List.mem_singleton.mp hq
      intro x hx
      simp at hx
      subst hx
      simp only
      omega
    · cases hq
  · split at hq
    · cases List.mem_singleton.mp hq
      intro x hx
      simp at hx
      subst hx
      simp only
      omega
    · cases hq
  · cases List.mem_singleton.mp hq
    intro x hx
    simp at hx
  · cases List.mem_singleton.mp hq
    intro x hx
    simp at hx
    subst hx
    simp only
    omega
  · split at hq
    · cases List.mem_singleton.mp hq
      intro x hx
      simp at hx
      subst hx
      simp only
      omega
    · cases hq
theorem slips_mv {n b : Nat} {s : Slip} : ∀ {ms : List Mv} {i : Nat}, (∀ m ∈ ms, m.beads ≤ b) → s ∈ slipsFrom n i ms → ∀ x ∈ s.mv.toList, x.beads ≤ b + 1
  | [], i, hb, h => by cases h
  | m :: ms, i, hb, h => by
    rcases List.mem_append.mp (show s ∈ slipsAt n i m ++ slipsFrom n (i + 1) ms from h) with h | h
    · exact slip_mv (hb m (by simp)) h
    · exact slips_mv (fun z hz => hb z (List.mem_cons_of_mem _ hz)) h
theorem row_beads {n : Nat} {s : Slip} {ms : List Mv} (o : ∀ m ∈ ms, OkMv m) (h : s ∈ slipsAll n ms) : ∀ x ∈ s.row ms, x.beads ≤ 1000 := by
  intro x hx
  unfold Slip.row at hx
  have hb : ∀ m ∈ ms, m.beads ≤ 100 := fun m hm => by have := (o m hm).b1; omega
  rcases List.mem_append.mp hx with hx | hx
  · rcases List.mem_append.mp hx with hx | hx
    · have := hb x (List.mem_of_mem_take hx)
      omega
    · have := slips_mv hb h x hx
      omega
  · have := hb x (List.mem_of_mem_drop hx)
    omega
section
variable {P : Program} {w : World} {K : PySem.W.Frag} {mg : Str → Option Value} {base : Heap} {A : Adr} {fI : Addr} {fd : FuncData}
theorem say_slips {nm t row : Str} : "slips " ++ nm ++ " " ++ t ++ " " ++ row = "slips" ++ (" " ++ (nm ++ (" " ++ (t ++ (" " ++ row))))) := by
  have e : ("slips " : Str) = "slips" ++ " " := by decide +kernel
  rw [e]
  simp only [app_assoc]
def spLRight (A : Adr) : Sp := fun vs H Q _ => ∃ (G : Hp) (D dd ak pl : Addr) (nm : Str) (fr : List Lay) (st other : List Rod) (done ms : List Mv) (vf vst vm vo : V), vs = [.ref D, .str nm, vf, vst, vm, vo] ∧ Dk A D dd ak pl nm fr st done G H ∧ OkName nm ∧ RFrame G vf fr ∧ RStd G vst st ∧ RRowT G vm ms ∧ RStd G vo other ∧
  1 ≤ fr.length ∧ fr.length ≤ 20 ∧ (∀ y ∈ fr, OkLay y) ∧ Fit fr st ∧ Fit fr other ∧ ms.length ≤ 20 ∧ (∀ m ∈ ms, OkMv m ∧ m.rod < fr.length) ∧ ∀ G' H', Stp G H G' H' → Q (.bl true) H'
theorem ok_l_right (T : Bas K mg) (TC : Cla K mg A) (f__law_slips : Cal P w K mg base CX0 "_law_slips" ["_law_frame_here", "_law_moves_here"] 1 spLSlips) (f__law_all : Cal P w K mg base CX0 "_law_all" ["_law_frame_here", "_law_standing", "_law_moves_here"] 2 spLAll)
    (f__law_shown : Cal P w K mg base CX0 "_law_shown" ["_law_standing"] 1 spShown) (f__law_text : Cal P w K mg base CX0 "_law_text" ["_law_moves_here"] 1 spLText) (t_say : Met P w K mg base CX0 A.desk "say" ["self", "row"] 8 (spSay A))
    (D : Std K mg "_law_right" "_law_right" "_law_right" s_l_right ["_law_desk", "_law_name_here", "_law_frame_here", "_law_standing", "_law_moves_here", "_law_other_here"]) : Cal P w K mg base CX0 "_law_right" ["_law_desk", "_law_name_here", "_law_frame_here", "_law_standing", "_law_moves_here", "_law_other_here"] 9 (spLRight A) := by
  refine D.cal sc_l_right (fun vs H Q E h => ?_) (fun f cdv A0 outer s H vs Q E hr h => ?_)
  · obtain ⟨G, D, dd, ak, pl, nm, fr, st, other, done, ms, vf, vst, vm, vo, rfl, _⟩ := h; rfl
  · obtain ⟨G, D, dd, ak, pl, nm, fr, st, other, done, ms, vf, vst, vm, vo, rfl, dk, o, hf, hst, hm, ho, z1, z2, ol, fit, fito, hl, om, q⟩ := h
    have k := dk.kp.k
    have omv : ∀ m ∈ ms, OkMv m := fun m h => (om m h).1
    have oo := ok_rods ol fito
    have lo := fito.1
    have lst := fit.1
    refine ⟨_, (pss_cons (ps_set (i := 6) sc_l_right.nd rfl (by first | exact Or.inl rfl | exact Or.inr rfl) (pe_lst pa_nil))
  (pss_cons (ps_for PassesOwn.never rfl (pi_list (pe_cal f__law_slips hr (by decide) pass0 (pa_cons (pv 2) (pa_cons (pv 4) pa_nil)))) (pg_tup rfl (pgs_cons (pg_name (i := 7) sc_l_right.nd rfl (by first | exact Or.inl rfl | exact Or.inr rfl)) (pgs_cons (pg_name (i := 8) sc_l_right.nd rfl (by first | exact Or.inl rfl | exact Or.inr rfl)) (pgs_cons (pg_name (i := 9) sc_l_right.nd rfl (by first | exact Or.inl rfl | exact Or.inr rfl)) pgs_nil))))
  (pss_one (ps_if (pt_cmpR (opEq hr) (pe_cal f__law_all hr (by decide) pass0 (pa_cons (pv 2) (pa_cons (pv 3) (pa_cons (pv 9) pa_nil)))) (pv 5) (nomark _)) (pss_one (ps_expr (pe_bm PySem.F.plainAttrs_list PySem.F.slot_list_append PySem.F.type_list_append mt_append (pv 6) (pa_cons (pe_op opAdd (pe_op opAdd (pe_callTy callStr (by rfl) T.z_str boot_str (pa_cons (pv 7) pa_nil)) pe_str) (pv 8)) pa_nil)))) pss_nil)))
  (pss_cons (ps_set (i := 9) sc_l_right.nd rfl (by first | exact Or.inl rfl | exact Or.inr rfl) (pe_opB opAdd (pb_op opAdd (pb_op opAdd pb_str (pv 1)) pe_str) (CwR.pet_replC (pe_cal f__law_shown hr (by decide) pass0 (pa_cons (pv 5) pa_nil)))))
  (pss_one (ps_ret (pe_cmpR (opEq hr) (pe_met t_say hr (by decide) pass0 (pv 0) (pa_cons (pe_op opAdd (pe_op opAdd (pv 9) pe_str) (pe_cal f__law_text hr (by decide) pass0 (pa_cons (pv 4) pa_nil))) pa_nil)) (peJoin pe_str (pv 6)) (nomark _))))))), ?_⟩
    walk_at "rd"
    refine w_acc k fun DD H1 a1 => ?_
    walk_at "rd"
    refine ⟨G, fr, ms, _, _, rfl, a1.k, hf, hm, by omega, by omega, fun m h => ⟨(om m h).1.b0, (om m h).2⟩, ?_⟩
    rintro v2 G2 H2 s2 ⟨p2, x2, rfl, h2, r2⟩
    have a2 := a1.step s2
    have l2 := paired_len r2
    rw [List.length_map] at l2
    have lsl : (slipsAll fr.length ms).length ≤ 5 * ms.length := slips_len ms 0
    refine ⟨p2, rfl, ⟨_, SqL.of (s2.k _ _ h2)⟩, ?_⟩
    refine for_go (walk_list (xs := x2)) (fun i σ H' => ∃ (G' : Hp) (o7 o8 o9 : Option V), Acc G H DD (((((slipsAll fr.length ms).take i).filter fun s => decide (allM fr st (s.row ms) = some other)).map Slip.text).map V.str) G' H' ∧ Same G2 G' ∧
      σ = [some (.ref D), some (.str nm), some vf, some vst, some vm, some vo, some (.ref DD), o7, o8, o9]) ?_ ?_ ?_ ?_
    · exact ⟨G2, none, none, none, a2, Same.refl _, rfl⟩
    · rintro i σ H' _ ⟨G', o7, o8, o9, a', g', _⟩
      exact SqL.of (a'.k _ _ (g' _ _ h2))
    · rintro i x σ H3 H3' hi ⟨G3, o7, o8, o9, a3, g3, rfl⟩ ⟨rfl, hx⟩
      obtain ⟨tr, etr, p3, xr, rfl, hp3, rr3⟩ := paired_get (paired_up g3 r2) hx
      rw [List.getElem?_map] at etr
      obtain ⟨sl, esl, rfl⟩ : ∃ sl, (slipsAll fr.length ms)[i]? = some sl ∧ toL ms sl = tr := by
        cases e : (slipsAll fr.length ms)[i]? with
        | none => rw [e] at etr; cases etr
        | some sl => rw [e] at etr; exact ⟨sl, rfl, by simpa using etr⟩
      have hsl : sl ∈ slipsAll fr.length ms := List.mem_of_getElem? esl
      obtain ⟨b1, b2⟩ := slip_from hsl
      have htk : (slipsAll fr.length ms).take (i + 1) = (slipsAll fr.length ms).take i ++ [sl] := by rw [List.take_succ, esl]; rfl
      have g03 : Same G G3 := s2.g.trans g3
      walk_at "rd"
      refine w_gtup (SqT.of (a3.k _ _ hp3)) rfl ?_
      walk_at "rd"
      refine ⟨G3, fr, st, sl.row ms, _, _, _, rfl, a3.k, up (R := RFrame) hf g03, up (R := RStd) hst g03, rr3, lst, by omega, row_beads omv hsl, ?_⟩
      intro v4 G4 H4 s4 r4
      walk_at "rd"
      refine g_eqO s4.k r4 (up (R := RStd) ho (g03.trans s4.g)) ?_
      walk_at "rd"
      have a4 := a3.step s4
      refine w_ite (fun c => ?_) (fun c => ?_)
      · walk_at "rd"
        refine w_tyL a4.at_ ?_
        walk_at "rd"
        have l1 := num_len (n := sl.at_) (by omega) (by omega)
        refine w_strI (num_log (n := (sl.at_ : Int)) (by omega) (by omega)) ?_
        walk_at "rd"
        refine g_addS (by rw [len_blank]; show (numT (sl.at_ : Int)).length + 1 ≤ _; rw [sizeLine_eq]; omega) ?_
        walk_at "rd"
        refine g_addS (by rw [app_len, len_blank]; show (numT (sl.at_ : Int)).length + 1 + sl.word.length ≤ _; rw [sizeLine_eq]; omega) ?_
        walk_at "rd"
        refine w_app a4 ?_ fun a5 => ?_
        · have h1 := List.length_filter_le (fun s : Slip => decide (allM fr st (s.row ms) = some other)) ((slipsAll fr.length ms).take i)
          have h2 : ((slipsAll fr.length ms).take i).length ≤ (slipsAll fr.length ms).length := by rw [List.length_take]; omega
          simp only [List.length_map]
          omega
        walk_at "rd"
        refine ⟨G4, _, _, _, ?_, g3.trans s4.g, rfl⟩
        have e : ((((slipsAll fr.length ms).take (i + 1)).filter fun s => decide (allM fr st (s.row ms) = some other)).map Slip.text).map V.str = ((((slipsAll fr.length ms).take i).filter fun s => decide (allM fr st (s.row ms) = some other)).map Slip.text).map V.str ++ [.str (sl.text)] := by
          rw [htk, List.filter_append, List.filter_cons_of_pos (by simpa using c)]
          simp
        rw [e]
        exact a5
      · walk_at "rd"
        refine ⟨G4, _, _, _, ?_, g3.trans s4.g, rfl⟩
        have e : (((slipsAll fr.length ms).take (i + 1)).filter fun s => decide (allM fr st (s.row ms) = some other)) = (((slipsAll fr.length ms).take i).filter fun s => decide (allM fr st (s.row ms) = some other)) := by
          rw [htk, List.filter_append, List.filter_cons_of_neg (by simpa using c)]
          simp
        rw [e]
        exact a4
    · rintro σ H3 ⟨G3, o7, o8, o9, a3, g3, rfl⟩
      have e : (slipsAll fr.length ms).take x2.length = slipsAll fr.length ms := List.take_of_length_le (by omega)
      rw [e] at a3
      have sD := a3.done
      have hDD : (upd G3 DD (.lst (((slipsTo fr st ms other).map Slip.text).map V.str))) DD = some (.lst (((slipsTo fr st ms other).map Slip.text).map V.str)) := upd_same
      have lD := o.l1
      have lsh := slash_len oo
      have lr := row_len omv
      have lsp : ("slips " : Str).length = 6 := by decide +kernel
      walk_at "rd"
      refine g_addS (by rw [lsp, sizeLine_eq]; omega) ?_
      walk_at "rd"
      refine g_addS (by rw [app_len, lsp, len_blank, sizeLine_eq]; omega) ?_
      refine w_repl ?_
      walk_at "rd"
      refine ⟨_, other, _, rfl, sD.k, up (R := RStd) ho sD.g, oo, by omega, ?_⟩
      intro G4 H4 s4
      have lsn := std_len oo
      refine ⟨_, rfl, by rw [len_slash]; omega, ?_⟩
      rw [slash_to oo]
      refine g_addS (by rw [app_len, app_len, lsp, len_blank, sizeLine_eq]; omega) ?_
      walk_at "rd"
      have sD4 := sD.trans s4
      have dk4 := dk.step sD4
      obtain ⟨dx, hD4⟩ := dk4.dk
      refine ⟨D, dx, _, rfl, hD4, held_no (by decide +kernel), ?_⟩
      walk_at "rd"
      refine g_addS (by rw [app_len, app_len, app_len, lsp, len_blank, sizeLine_eq]; omega) ?_
      walk_at "rd"
      refine ⟨G4, ms, _, rfl, s4.k, up (R := RRowT) hm sD4.g, by omega, omv, ?_⟩
      intro G5 H5 s5
      refine g_addS (by rw [app_len, app_len, app_len, app_len, lsp, len_blank, sizeLine_eq]; omega) ?_
      walk_at "rd"
      refine ⟨D, _, rfl, .inr (.inr (.inl ⟨G5, dd, ak, pl, nm, fr, st, other, done, ms, say_slips, dk4.step s5, o, omv, by omega, lst, by omega, by omega, fito, oo, ?_⟩))⟩
      intro G6 H6 s6
      walk_at "rd"
      have s56 := s4.trans (s5.trans s6)
      refine w_join (ys := (slipsTo fr st ms other).map Slip.text) (SqL.of (s6.k _ _ (s56.g _ _ hDD))) ?_ ?_
      · have lt : (slipsTo fr st ms other).length ≤ 5 * ms.length := Nat.le_trans (List.length_filter_le _ _) lsl
        have h1 := sum_le (n := 8) ((slipsTo fr st ms other).map Slip.text) fun p hp => by
          obtain ⟨sl, hs1, rfl⟩ := List.mem_map.mp hp
          obtain ⟨b1, b2⟩ := slip_from (List.mem_filter.mp hs1).1
          have l1 := num_len (n := sl.at_) (by omega) (by omega)
          unfold Slip.text
          rw [app_len, app_len, len_blank]
          omega
        rw [len_semi]
        simp only [List.length_map] at h1 ⊢
        omega
      · refine g_eqS ?_
        rw [decide_eq_true (show slipsT (slipsTo fr st ms other) = Txt.join "; " ((slipsTo fr st ms other).map Slip.text) from rfl)]
        exact q G6 H6 (sD.trans s56)
end
end BF
namespace BF
open PySem PySem.Spec PyProof.Rows L2 TL HotX
local macro_rules | `(tactic| walk_at "rd") => `(tactic| repeat (first
  | with_reducible refine w_var rfl ?_ | with_reducible refine w_c ?_ | with_reducible refine w_seq ?_ | with_reducible refine w_op ?_
  | with_reducible refine w_asg ?_ | with_reducible refine w_name ?_ | with_reducible refine w_ret ?_ | with_reducible refine w_drop ?_ | with_reducible refine w_next ?_
  | with_reducible refine w_if ?_ | with_reducible refine w_test ?_ | with_reducible refine w_B ?_ | with_reducible refine w_bl ?_ | with_reducible refine w_not ?_
  | with_reducible refine w_and ?_ | with_reducible refine w_or ?_ | with_reducible refine w_nil ?_ | with_reducible refine w_cons ?_ | with_reducible refine w_cb ?_
  | with_reducible refine w_chain ?_ | with_reducible refine w_call ?_ | with_reducible refine w_un ?_ | with_reducible refine w_neg ?_
  | with_reducible refine w_andV ?_ | with_reducible refine w_orV ?_ | with_reducible refine w_notV ?_ | with_reducible refine w_iteT ?_ | with_reducible refine w_iteF ?_ | with_reducible refine w_ntT ?_ | with_reducible refine w_ntF ?_
  | with_reducible refine g_add ?_ | with_reducible refine g_sub ?_ | with_reducible refine g_cmp ?_ | with_reducible refine g_eqI ?_ | with_reducible refine g_neI ?_ | with_reducible refine g_eqS ?_ | with_reducible refine g_neS ?_
  | with_reducible refine w_min ?_ | with_reducible refine w_max ?_ | with_reducible refine w_isN ?_ | with_reducible refine w_notN ?_ | with_reducible refine w_notSg ?_ | with_reducible refine w_gcons ?_ | with_reducible refine w_gnil ?_ | with_reducible refine w_sl ?_ | with_reducible refine w_noP ?_ | with_reducible refine w_part ?_ | with_reducible refine w_int1 ?_ | with_reducible refine w_tup ?_ | with_reducible refine w_lst ?_ | with_reducible refine g_intB ?_ | with_reducible refine w_fld ?_ | with_reducible refine w_meth ?_ | with_reducible refine w_make ?_
  | with_reducible refine w_lc ?_ | with_reducible refine w_for ?_ | with_reducible refine w_iL ?_ | with_reducible refine w_iT ?_ | with_reducible refine w_iS ?_ | with_reducible refine w_iRev ?_ | with_reducible refine w_iEn ?_ | with_reducible refine w_iZip ?_ | with_reducible refine w_iR1 ?_
  | with_reducible refine w_bm ?_ | with_reducible refine w_bm0 ?_ | with_reducible refine w_M1 ?_ | with_reducible refine w_isStr ?_
  | dsimp only))
local macro_rules | `(tactic| walk_at "same") => `(tactic| first | exact Same.refl _ | assumption | exact Stp.g (by assumption) | (refine Same.trans (Stp.g (by assumption)) ?_; walk_at "same"))
local macro_rules | `(tactic| walk_at "k") => `(tactic| first | assumption | exact Stp.k (by assumption) | exact Acc.k (by assumption))
local macro_rules | `(tactic| walk_at "stp") => `(tactic| first | assumption | exact Stp.refl (by walk_at "k") | (refine Stp.trans (by assumption) ?_; walk_at "stp"))
local macro_rules | `(tactic| walk_at "up") => `(tactic| first | assumption | exact up (by assumption) (by walk_at "same"))
local macro_rules | `(tactic| walk_at "gh") => `(tactic| first | assumption | exact Stp.k (by assumption) | (refine Same.trans (Stp.g (by assumption)) ?_; walk_at "gh"))
local macro_rules | `(tactic| walk_at "at") => `(tactic| first | assumption | exact at_ (by assumption) (by walk_at "gh"))
local macro_rules | `(tactic| walk_at "L") => `(tactic| exact SqL.of (by walk_at "at"))
local macro_rules | `(tactic| walk_at "T") => `(tactic| exact SqT.of (by walk_at "at"))
local macro_rules | `(tactic| walk_at "o1") => `(tactic| first | with_reducible refine w_yes (by first | assumption | omega) ?_ | with_reducible refine w_no (by first | assumption | omega) ?_ | with_reducible refine w_yesN (by first | assumption | omega) ?_ | with_reducible refine w_noN (by first | assumption | omega) ?_)
local macro_rules | `(tactic| walk_at "o") => `(tactic| (walk_at "rd"; repeat (walk_at "o1"; walk_at "rd")))

section
variable {P : Program} {w : World} {K : PySem.W.Frag} {mg : Str → Option Value} {base : Heap} {A : Adr} {fI : Addr} {fd : FuncData}
def spLOther (K : PySem.W.Frag) : Sp := fun vs H Q _ => ∃ (G : Hp) (ns : List Int) (kk : Int) (fr : List Lay) (st st' : List Rod) (ms : List Mv) (v vf vst vm : V), vs = [v, .int kk, vf, vst, vm] ∧ Same G H ∧ RScr K G v ns ∧ ns.length ≤ 63 ∧ 0 ≤ kk ∧ kk ≤ 100 ∧ RFrame G vf fr ∧ RStd G vst st ∧ RRowT G vm ms ∧ 1 ≤ fr.length ∧ fr.length ≤ 20 ∧ (∀ y ∈ fr, OkLay y) ∧ Fit fr st ∧
  ms.length ≤ 20 ∧ (∀ m ∈ ms, OkMv m ∧ m.rod < fr.length) ∧ allM fr st ms = some st' ∧ ∀ v' other G' H', Stp G H G' H' → Fit fr other → RStd G' v' other → Q v' H'
theorem ok_l_other (T : Bas K mg) (f__law_mixed : Cal P w K mg base CX0 "_law_mixed" ["_law_script", "_law_k"] 1 (spMixed K)) (f__law_slips : Cal P w K mg base CX0 "_law_slips" ["_law_frame_here", "_law_moves_here"] 1 spLSlips) (f__law_all : Cal P w K mg base CX0 "_law_all" ["_law_frame_here", "_law_standing", "_law_moves_here"] 2 spLAll)
    (f__law_drawn : Cal P w K mg base CX0 "_law_drawn" ["_law_script", "_law_at", "_law_frame_here"] 2 (spLDrawn K))
    (D : Std K mg "_law_other" "_law_other" "_law_other" s_l_other ["_law_script", "_law_k", "_law_frame_here", "_law_standing", "_law_moves_here"]) : Cal P w K mg base CX0 "_law_other" ["_law_script", "_law_k", "_law_frame_here", "_law_standing", "_law_moves_here"] 3 (spLOther K) := by
  refine D.cal sc_l_other (fun vs H Q E h => ?_) (fun f cdv A0 outer s H vs Q E hr h => ?_)
  · obtain ⟨G, ns, kk, fr, st, st', ms, v, vf, vst, vm, rfl, _⟩ := h; rfl
  · obtain ⟨G, ns, kk, fr, st, st', ms, v, vf, vst, vm, rfl, k, hs, hl, k0, k1, hf, hst, hm, z1, z2, ol, fit, hml, om, ea, q⟩ := h
    have omv : ∀ m ∈ ms, OkMv m := fun m h => (om m h).1
    have lst := fit.1
    refine ⟨_, (pss_cons (ps_set (i := 5) sc_l_other.nd rfl (by first | exact Or.inl rfl | exact Or.inr rfl) (pe_cal f__law_mixed hr (by decide) pass0 (pa_cons (pv 0) (pa_cons (pe_op opAdd pe_int (pv 1)) pa_nil))))
  (pss_cons (ps_setLc (i := 6) (own := [("_law_at", 7), ("_law_said", 8), ("_law_row", 9)]) (g := gTup K 3 (gCons (gName 7) (gCons (gName 8) (gCons (gName 9) gNil)))) (tt := tYes) rfl sc_l_other.nd rfl rfl (sw_true rfl rfl rfl (by decide +kernel)) (pi_list (pe_cal f__law_slips hr (by decide) pass0 (pa_cons (pv 2) (pa_cons (pv 4) pa_nil)))) (blkOk_by (own := [("_law_at", 7), ("_law_said", 8), ("_law_row", 9)]) (N := N_l_other) (sc := defScope s_l_other) (by decide +kernel)) (fun _ _ _ _ _ => (pg_tup rfl (pgs_cons (pg_name (i := 7) sc_l_other.nd rfl (by first | exact Or.inl rfl | exact Or.inr rfl)) (pgs_cons (pg_name (i := 8) sc_l_other.nd rfl (by first | exact Or.inl rfl | exact Or.inr rfl)) (pgs_cons (pg_name (i := 9) sc_l_other.nd rfl (by first | exact Or.inl rfl | exact Or.inr rfl)) pgs_nil))))) (fun _ _ _ _ _ => pts_nil) (fun _ _ _ _ _ => (pe_cal f__law_all hr (by decide) pass0 (pa_cons (pv 2) (pa_cons (pv 3) (pa_cons (pv 9) pa_nil))))))
  (pss_cons (ps_setLc (i := 6) (own := [("_law_one", 10)]) (g := gName 10) rfl sc_l_other.nd rfl rfl (sw_true rfl rfl rfl (by decide +kernel)) (pi_list (pv 6)) (blkOk_by (own := [("_law_one", 10)]) (N := N_l_other) (sc := defScope s_l_other) (by decide +kernel)) (fun _ _ _ _ _ => (pg_name (i := 10) sc_l_other.nd rfl (by first | exact Or.inl rfl | exact Or.inr rfl))) (fun _ _ _ _ _ => (pts_one (pt_cmpR opIsNot (pv 10) pe_non (nomark _)))) (fun _ _ _ _ _ => (pv 10)))
  (pss_cons (ps_if (PW.pt (pw_and (pt_cmpR op_gt (pe_op op_mod (pv 5) pe_int) pe_int (nomark _)) (pw_and1 (pt_cmpR (opNe hr) (pv 6) (pe_lst pa_nil) (nomark _))))) (pss_one (ps_ret (pe_ix ix_seq (pv 6) (pe_op op_mod (pe_op op_fdiv (pv 5) pe_int) (pe_callB callLen (by rfl) T.z_len PySem.boot_len (pa_cons (pv 6) pa_nil))) (fun _ _ => rfl)))) pss_nil)
  (pss_cons (ps_if (pt_cmpR (opEq hr) (pe_op op_mod (pe_op op_fdiv (pv 5) pe_int) pe_int) pe_int (nomark _)) (pss_one (ps_ret (pe_cal f__law_all hr (by decide) pass0 (pa_cons (pv 2) (pa_cons (pv 3) (pa_cons (pv 4) pa_nil)))))) pss_nil)
  (pss_one (ps_ret (pe_cal f__law_drawn hr (by decide) pass0 (pa_cons (pv 0) (pa_cons (pe_op opAdd pe_int (pe_op opMul pe_int (pv 1))) (pa_cons (pv 2) pa_nil))))))))))), ?_⟩
    walk_at "rd"
    refine ⟨G, ns, _, _, rfl, k, hs, hl, by omega, by omega, ?_⟩
    intro c G1 H1 c0 c1 s1
    walk_at "rd"
    refine ⟨G1, fr, ms, _, _, rfl, s1.k, up (R := RFrame) hf s1.g, up (R := RRowT) hm s1.g, by omega, by omega, fun m h => ⟨(om m h).1.b0, (om m h).2⟩, ?_⟩
    rintro v2 G2 H2 s2 ⟨p2, x2, rfl, h2, r2⟩
    have l2 := paired_len r2
    rw [List.length_map] at l2
    have lsl : (slipsAll fr.length ms).length ≤ 5 * ms.length := slips_len ms 0
    have s12 := s1.trans s2
    refine ⟨p2, rfl, ⟨_, SqL.of (s2.k _ _ h2)⟩, ?_⟩
    refine lc_any (R := ROpt RStd) (walk_list (xs := x2)) s2.k (fun o => ∀ s', o = some s' → Fit fr s') (by omega) (fun G' H' g k' => SqL.of (k' _ _ (g _ _ h2))) (fun i x G3 H3 H3' C hi g3 k3 hY hC => ?_) (fun p4 xs4 l4 G4 H4 s4 hp4 hl4 hpr r4 => ?_)
    · obtain ⟨rfl, hx⟩ := hY
      obtain ⟨tr, etr, p3, xr, rfl, hp3, rr3⟩ := paired_get (paired_up g3 r2) hx
      rw [List.getElem?_map] at etr
      obtain ⟨sl, esl, rfl⟩ : ∃ sl, (slipsAll fr.length ms)[i]? = some sl ∧ toL ms sl = tr := by
        cases e : (slipsAll fr.length ms)[i]? with
        | none => rw [e] at etr; cases etr
        | some sl => rw [e] at etr; exact ⟨sl, rfl, by simpa using etr⟩
      have hsl : sl ∈ slipsAll fr.length ms := List.mem_of_getElem? esl
      have g03 : Same G G3 := s12.g.trans g3
      refine w_gtup (SqT.of (k3 _ _ hp3)) rfl ?_
      walk_at "rd"
      refine ⟨wipe3, ?_⟩
      walk_at "rd"
      exact ⟨G3, fr, st, sl.row ms, _, _, _, rfl, k3, up (R := RFrame) hf g03, up (R := RStd) hst g03, rr3, lst, by omega, row_beads omv hsl, fun v5 G5 H5 s5 r5 => hC v5 _ G5 H5 (fun s' e => fit_all fit e) s5 r5⟩
    · have s14 := s12.trans s4
      have ll4 := paired_len r4
      walk_at "rd"
      refine ⟨p4, rfl, ⟨_, SqL.of (s4.k _ _ hp4)⟩, ?_⟩
      refine lc_go (R := RStd) (walk_list (xs := xs4)) s4.k (fun i => l4.getD i none) (by omega) (fun G' H' g k' => SqL.of (k' _ _ (g _ _ hp4))) (fun i x G5 H5 H5' C C0 hi g5 k5 hY hC hC0 => ?_) (fun p6 xs6 G6 H6 s6 hp6 r6 => ?_)
      · obtain ⟨rfl, hx⟩ := hY
        obtain ⟨oo, eo, ro⟩ := paired_get (paired_up g5 r4) hx
        have e0 : l4.getD i none = oo := by rw [List.getD_eq_getElem?_getD, eo]; rfl
        walk_at "rd"
        refine ⟨wipe1, ?_⟩
        walk_at "rd"
        cases oo with
        | none =>
          cases (show x = .non from ro)
          refine w_noN rfl ?_
          exact hC0 _ _ e0 (Stp.refl k5)
        | some s' =>
          have ro' : RStd G5 x s' := ro
          obtain ⟨p7, x7, rfl, h7, r7⟩ := id ro'
          refine w_yesN (by simp) ?_
          walk_at "rd"
          exact hC _ s' _ _ e0 (Stp.refl k5) ro'
      · have s16 := s14.trans s6
        have fits6 : ∀ s' ∈ (List.range xs4.length).filterMap (fun i => l4.getD i none), Fit fr s' := by
          intro s' hs'
          obtain ⟨i, hi, e⟩ := List.mem_filterMap.mp hs'
          cases e2 : l4[i]? with
          | none =>
            rw [List.getD_eq_getElem?_getD, e2] at e
            cases e
          | some oo =>
            rw [List.getD_eq_getElem?_getD, e2] at e
            exact hpr oo (List.mem_of_getElem? e2) s' (by simpa using e)
        generalize (List.range xs4.length).filterMap (fun i => l4.getD i none) = l6 at r6 fits6
        have ll6 := paired_len r6
        have tail : ∀ (R1 : Hp) (R2 : Hp), Stp G H R1 R2 → ∀ (σ : L2.St), σ[2]? = some (some vf) → True := fun _ _ _ _ _ => trivial
        have rest1 : ∀ (G7 H7 : Hp), Stp G H G7 H7 → ∀ (C : V → Hp → Prop), (∀ v' G' H', Stp G H G' H' → RStd G' v' st' → C v' H') → spLAll [vf, vst, vm] H7 C E0 := fun G7 H7 s7 C hC =>
          ⟨G7, fr, st, ms, _, _, _, rfl, s7.k, up (R := RFrame) hf s7.g, up (R := RStd) hst s7.g, up (R := RRowT) hm s7.g, lst, by omega, fun m h => by have := (omv m h).b1; omega, fun v' G' H' s' r' => hC v' G' H' (s7.trans s') (by rw [ea] at r'; exact r')⟩
        have fin2 : ∀ (G7 H7 : Hp), Stp G H G7 H7 → ∀ (v' : V) (G' H' : Hp), Stp G H G' H' → RStd G' v' st' → Q v' H' := fun _ _ _ v' G' H' s' r' => q v' st' G' H' s' (fit_all fit ea) r'
        walk_at "rd"
        refine g_mod (by omega) ?_
        walk_at "rd"
        refine w_ite (fun c2 => ?_) (fun c2 => ?_)
        · walk_at "rd"
          refine w_lstK s6.k rfl fun p8 G8 H8 s8 hp8 _ => ?_
          have s18 := s16.trans s8
          refine g_neE (.lst (SqL.of (s8.k _ _ (s8.g _ _ hp6))) (dp_stds s8.k (paired_up s8.g r6))) (shp_stds l6) (SqL.of (s8.k _ _ hp8)) ?_
          walk_at "rd"
          have e : decide (l6.map stdD = []) = decide (l6 = []) := by cases l6 <;> simp
          rw [e]
          refine w_iteN (fun c3 => ?_) (fun c3 => ?_)
          · have hpos : 0 < l6.length := List.length_pos_iff.mpr c3
            walk_at "rd"
            refine g_fdiv ⟨by omega, by omega⟩ ?_
            walk_at "rd"
            refine w_lenL (SqL.of (s8.k _ _ (s8.g _ _ hp6))) ?_
            refine g_mod (by omega) ?_
            obtain ⟨j, ej, hj⟩ : ∃ j : Nat, c / 4 % (xs6.length : Int) = (j : Int) ∧ j < l6.length := by
              have h1 : 0 ≤ c / 4 % (xs6.length : Int) := Int.emod_nonneg _ (by omega)
              have h2 : c / 4 % (xs6.length : Int) < (xs6.length : Int) := Int.emod_lt_of_pos _ (by omega)
              exact ⟨(c / 4 % (xs6.length : Int)).toNat, by omega, by omega⟩
            rw [ej]
            obtain ⟨x9, e9, r9⟩ := paired_at (paired_up s8.g r6) (List.getElem?_eq_getElem hj)
            refine w_ixL (SqL.of (s8.k _ _ (s8.g _ _ hp6))) e9 ?_
            exact q x9 _ G8 H8 s18 (fits6 _ (List.getElem_mem hj)) r9
          · walk_at "rd"
            refine g_fdiv ⟨by omega, by omega⟩ ?_
            walk_at "rd"
            refine g_mod (by omega) ?_
            walk_at "rd"
            refine w_ite (fun c4 => ?_) (fun c4 => ?_)
            · walk_at "rd"
              exact rest1 G8 H8 s18 _ fun v' G' H' s' r' => fin2 G8 H8 s18 v' G' H' s' r'
            · walk_at "rd"
              refine g_mul (.inl (by omega)) ?_
              walk_at "rd"
              exact ⟨G8, ns, _, fr, _, _, rfl, s8.k, up (R := RScr K) hs s18.g, hl, by omega, by omega, up (R := RFrame) hf s18.g, by omega, ol, fun v' so G' H' s' ft r' => q v' so G' H' (s18.trans s') ft r'⟩
        · walk_at "rd"
          refine g_fdiv ⟨by omega, by omega⟩ ?_
          walk_at "rd"
          refine g_mod (by omega) ?_
          walk_at "rd"
          refine w_ite (fun c4 => ?_) (fun c4 => ?_)
          · walk_at "rd"
            exact rest1 G6 H6 s16 _ fun v' G' H' s' r' => fin2 G6 H6 s16 v' G' H' s' r'
          · walk_at "rd"
            refine g_mul (.inl (by omega)) ?_
            walk_at "rd"
            exact ⟨G6, ns, _, fr, _, _, rfl, s6.k, up (R := RScr K) hs s16.g, hl, by omega, by omega, up (R := RFrame) hf s16.g, by omega, ol, fun v' so G' H' s' ft r' => q v' so G' H' (s16.trans s') ft r'⟩
end
end BF
/-! plain: the standing is built by moves, the newest move taken back -/
namespace BF
open PySem PySem.Spec PyProof.Rows L2 TL HotX
def putM (i : Nat) (s : Rod) : List Mv := if 0 < s.1 then [⟨.put, i, s.1.toNat⟩] else []
def upM (i : Nat) (s : Rod) : List Mv := if 0 < s.2 then [⟨.up, i, s.2.toNat⟩] else []
def doneFrom : Nat → List Rod → List Mv
  | _, [] => []
  | i, s :: r => putM i s ++ upM i s ++ doneFrom (i + 1) r
theorem push_mid {fr : List Lay} {pre r : List Rod} {s0 : Rod} {k : K4} {b : Nat} {y : Lay} (h1 : fr[pre.length]? = some y) (h3 : fits y (reach k s0 b)) : push fr (pre ++ s0 :: r) ⟨k, pre.length, b⟩ = some (pre ++ reach k s0 b :: r) := by
  rw [push_at (m := ⟨k, pre.length, b⟩) h1 (by simp) h3]
  simp
theorem done_all_eq {fr : List Lay} : ∀ (rest pre : List Rod), Fit fr (pre ++ rest) → allM fr (pre ++ List.replicate rest.length (0, 0)) (doneFrom pre.length rest) = some (pre ++ rest)
  | [], pre, _ => by simp [doneFrom, allM]
  | s :: rest, pre, hf => by
    obtain ⟨h, l⟩ := s
    have hlt : pre.length < fr.length := by
      rw [← hf.1]
      simp
    have ey : fr[pre.length]? = some fr[pre.length] := List.getElem?_eq_getElem hlt
    have ft := hf.2 pre.length _ (h, l) ey (by simp)
    generalize fr[pre.length] = y at ey ft
    obtain ⟨⟨f1, f2⟩, f3, f4⟩ := ft
    simp only at f1 f2 f3 f4
    have e1 : allM fr (pre ++ (0, 0) :: List.replicate rest.length (0, 0)) (putM pre.length (h, l)) = some (pre ++ (h, 0) :: List.replicate rest.length (0, 0)) := by
      unfold putM
      by_cases c : 0 < h
      · rw [if_pos c, allM_one, push_mid ey (k := .put) (b := h.toNat) (by refine ⟨⟨?_, ?_⟩, ?_, ?_⟩ <;> simp only [reach] <;> omega)]
        simp only [reach]
        rw [Int.toNat_of_nonneg (by omega)]
        simp
      · rw [if_neg c]
        have : h = 0 := by omega
        subst this
        rfl
    have e2 : allM fr (pre ++ (h, 0) :: List.replicate rest.length (0, 0)) (upM pre.length (h, l)) = some (pre ++ (h, l) :: List.replicate rest.length (0, 0)) := by
      unfold upM
      by_cases c : 0 < l
      · rw [if_pos c, allM_one, push_mid ey (k := .up) (b := l.toNat) (by refine ⟨⟨?_, ?_⟩, ?_, ?_⟩ <;> simp only [reach] <;> omega)]
        simp only [reach]
        rw [Int.toNat_of_nonneg (by omega)]
        simp
      · rw [if_neg c]
        have : l = 0 := by omega
        subst this
        rfl
    have e3 := done_all_eq rest (pre ++ [(h, l)]) (by rw [List.append_assoc]; exact hf)
    show allM fr (pre ++ (0, 0) :: List.replicate rest.length (0, 0)) (putM pre.length (h, l) ++ upM pre.length (h, l) ++ doneFrom (pre.length + 1) rest) = _
    rw [allM_app, allM_app, e1]
    show ((allM fr _ (upM pre.length (h, l))).bind _) = _
    rw [e2]
    show allM fr (pre ++ (h, l) :: List.replicate rest.length (0, 0)) (doneFrom (pre.length + 1) rest) = _
    rw [show pre.length + 1 = (pre ++ [(h, l)]).length by simp, show pre ++ (h, l) :: List.replicate rest.length (0, 0) = (pre ++ [(h, l)]) ++ List.replicate rest.length (0, 0) by simp, e3]
    simp
theorem done_ok {n : Nat} : ∀ (rest : List Rod) (i : Nat), i + rest.length ≤ n → n ≤ 50 → (∀ s ∈ rest, OkRod s) → (∀ m ∈ doneFrom i rest, OkMv m) ∧ (doneFrom i rest).length ≤ 2 * rest.length
  | [], i, _, _, _ => ⟨fun m h => (by cases h), by simp [doneFrom]⟩
  | s :: rest, i, h1, h2, h3 => by
    obtain ⟨a, b⟩ := done_ok rest (i + 1) (by simp at h1; omega) h2 fun z hz => h3 z (List.mem_cons_of_mem _ hz)
    obtain ⟨o1, o2, o3, o4⟩ := h3 s (by simp)
    simp only [List.length_cons] at h1
    refine ⟨fun m hm => ?_, ?_⟩
    · rcases List.mem_append.mp (show m ∈ putM i s ++ upM i s ++ doneFrom (i + 1) rest from hm) with hm | hm
      · rcases List.mem_append.mp hm with hm | hm
        · unfold putM at hm
          split at hm
          · cases List.mem_singleton.mp hm
            exact ⟨by simp only; omega, by simp only; omega, by simp only; omega⟩
          · cases hm
        · unfold upM at hm
          split at hm
          · cases List.mem_singleton.mp hm
            exact ⟨by simp only; omega, by simp only; omega, by simp only; omega⟩
          · cases hm
      · exact a m hm
    · show (putM i s ++ upM i s ++ doneFrom (i + 1) rest).length ≤ _
      have p1 : (putM i s).length ≤ 1 := by unfold putM; split <;> simp
      have p2 : (upM i s).length ≤ 1 := by unfold upM; split <;> simp
      simp only [List.length_append, List.length_cons]
      omega
theorem reach_back {k : K4} {s : Rod} {b : Int} : reach k.contra (reach k s b) b = s := by
  obtain ⟨h, l⟩ := s
  cases k <;> (simp only [reach, K4.contra]; refine Prod.ext ?_ ?_ <;> simp only <;> omega)
theorem push_contra {fr : List Lay} {a b : List Rod} {m : Mv} (hf : Fit fr a) (h : push fr a m = some b) : push fr b m.contra = some a := by
  obtain ⟨y, s, h1, h2, h3, rfl⟩ := push_inv h
  have hr : m.rod < a.length := (List.getElem?_eq_some_iff.mp h2).1
  have e2 : (a.take m.rod ++ [reach m.k s m.beads] ++ a.drop (m.rod + 1))[m.contra.rod]? = some (reach m.k s m.beads) := by
    rw [show m.contra.rod = m.rod from rfl, mid_at hr, if_pos rfl]
  have e3 : reach m.contra.k (reach m.k s m.beads) m.contra.beads = s := reach_back
  rw [push_at (m := m.contra) (y := y) (s := reach m.k s m.beads) h1 e2 (by rw [e3]; exact hf.2 _ _ _ h1 h2), e3]
  congr 1
  show (a.take m.rod ++ [reach m.k s m.beads] ++ a.drop (m.rod + 1)).take m.rod ++ [s] ++ (a.take m.rod ++ [reach m.k s m.beads] ++ a.drop (m.rod + 1)).drop (m.rod + 1) = a
  have l1 : (a.take m.rod).length = m.rod := by rw [List.length_take]; omega
  have t1 : (a.take m.rod ++ [reach m.k s m.beads] ++ a.drop (m.rod + 1)).take m.rod = a.take m.rod := by
    rw [List.append_assoc, List.take_left' l1]
  have t2 : (a.take m.rod ++ [reach m.k s m.beads] ++ a.drop (m.rod + 1)).drop (m.rod + 1) = a.drop (m.rod + 1) := by
    rw [List.drop_left' (by simp; omega)]
  rw [t1, t2]
  have e4 : a[m.rod] = s := by
    rw [List.getElem?_eq_getElem hr] at h2
    simpa using h2
  rw [← e4]
  simp
theorem fit_zero {fr : List Lay} (ol : ∀ y ∈ fr, OkLay y) : Fit fr (List.replicate fr.length (0, 0)) := by
  refine ⟨by simp, fun i y s h1 h2 => ?_⟩
  have hi : i < fr.length := (List.getElem?_eq_some_iff.mp h1).1
  rw [List.getElem?_replicate] at h2
  rw [if_pos hi] at h2
  cases h2
  obtain ⟨u0, u1, w0, w1, l0, l1, b0, b1, _, _, _⟩ := ol y (List.mem_of_getElem? h1)
  exact ⟨⟨by simp, u0⟩, by simp, l0⟩
theorem cut_last {xs : List V} (h : 1 ≤ xs.length) : cutV xs none (some (-1)) = xs.take (xs.length - 1) := by
  unfold cutV
  rw [sIx_none]
  have e : HT.sIx xs.length xs.length (some (-1 : Int)) = xs.length - 1 := by
    show (if (-1 : Int) < 0 then ((-1 : Int) + (xs.length : Int)).toNat else min (-1 : Int).toNat xs.length) = xs.length - 1
    rw [if_pos (by decide)]
    omega
  rw [e]
  simp
theorem paired_rep {α : Type} {F : V → α → Prop} {v : V} {a : α} (h : F v a) : ∀ n : Nat, Paired F (List.replicate n [v]).flatten (List.replicate n a)
  | 0 => .nil
  | n + 1 => .cons h (paired_rep h n)
end BF
namespace BF
open PySem PySem.Spec PyProof.Rows L2 TL HotX
local macro_rules | `(tactic| walk_at "rd") => `(tactic| repeat (first
  | with_reducible refine w_var rfl ?_ | with_reducible refine w_c ?_ | with_reducible refine w_seq ?_ | with_reducible refine w_op ?_
  | with_reducible refine w_asg ?_ | with_reducible refine w_name ?_ | with_reducible refine w_ret ?_ | with_reducible refine w_drop ?_ | with_reducible refine w_next ?_
  | with_reducible refine w_if ?_ | with_reducible refine w_test ?_ | with_reducible refine w_B ?_ | with_reducible refine w_bl ?_ | with_reducible refine w_not ?_
  | with_reducible refine w_and ?_ | with_reducible refine w_or ?_ | with_reducible refine w_nil ?_ | with_reducible refine w_cons ?_ | with_reducible refine w_cb ?_
  | with_reducible refine w_chain ?_ | with_reducible refine w_call ?_ | with_reducible refine w_un ?_ | with_reducible refine w_neg ?_
  | with_reducible refine w_andV ?_ | with_reducible refine w_orV ?_ | with_reducible refine w_notV ?_ | with_reducible refine w_iteT ?_ | with_reducible refine w_iteF ?_ | with_reducible refine w_ntT ?_ | with_reducible refine w_ntF ?_
  | with_reducible refine g_add ?_ | with_reducible refine g_sub ?_ | with_reducible refine g_cmp ?_ | with_reducible refine g_eqI ?_ | with_reducible refine g_neI ?_ | with_reducible refine g_eqS ?_ | with_reducible refine g_neS ?_
  | with_reducible refine w_min ?_ | with_reducible refine w_max ?_ | with_reducible refine w_isN ?_ | with_reducible refine w_notN ?_ | with_reducible refine w_notSg ?_ | with_reducible refine w_gcons ?_ | with_reducible refine w_gnil ?_ | with_reducible refine w_sl ?_ | with_reducible refine w_noP ?_ | with_reducible refine w_part ?_ | with_reducible refine w_int1 ?_ | with_reducible refine w_tup ?_ | with_reducible refine w_lst ?_ | with_reducible refine g_intB ?_ | with_reducible refine w_fld ?_ | with_reducible refine w_meth ?_ | with_reducible refine w_make ?_
  | with_reducible refine w_lc ?_ | with_reducible refine w_for ?_ | with_reducible refine w_iL ?_ | with_reducible refine w_iT ?_ | with_reducible refine w_iS ?_ | with_reducible refine w_iRev ?_ | with_reducible refine w_iEn ?_ | with_reducible refine w_iZip ?_ | with_reducible refine w_iR1 ?_
  | with_reducible refine w_bm ?_ | with_reducible refine w_bm0 ?_ | with_reducible refine w_M1 ?_ | with_reducible refine w_isStr ?_
  | dsimp only))
local macro_rules | `(tactic| walk_at "same") => `(tactic| first | exact Same.refl _ | assumption | exact Stp.g (by assumption) | (refine Same.trans (Stp.g (by assumption)) ?_; walk_at "same"))
local macro_rules | `(tactic| walk_at "k") => `(tactic| first | assumption | exact Stp.k (by assumption) | exact Acc.k (by assumption))
local macro_rules | `(tactic| walk_at "stp") => `(tactic| first | assumption | exact Stp.refl (by walk_at "k") | (refine Stp.trans (by assumption) ?_; walk_at "stp"))
local macro_rules | `(tactic| walk_at "up") => `(tactic| first | assumption | exact up (by assumption) (by walk_at "same"))
local macro_rules | `(tactic| walk_at "gh") => `(tactic| first | assumption | exact Stp.k (by assumption) | (refine Same.trans (Stp.g (by assumption)) ?_; walk_at "gh"))
local macro_rules | `(tactic| walk_at "at") => `(tactic| first | assumption | exact at_ (by assumption) (by walk_at "gh"))
local macro_rules | `(tactic| walk_at "L") => `(tactic| exact SqL.of (by walk_at "at"))
local macro_rules | `(tactic| walk_at "T") => `(tactic| exact SqT.of (by walk_at "at"))
local macro_rules | `(tactic| walk_at "o1") => `(tactic| first | with_reducible refine w_yes (by first | assumption | omega) ?_ | with_reducible refine w_no (by first | assumption | omega) ?_ | with_reducible refine w_yesN (by first | assumption | omega) ?_ | with_reducible refine w_noN (by first | assumption | omega) ?_)
local macro_rules | `(tactic| walk_at "o") => `(tactic| (walk_at "rd"; repeat (walk_at "o1"; walk_at "rd")))

theorem say_frame {nm t : Str} : "frame " ++ nm ++ " " ++ t = "frame" ++ (" " ++ (nm ++ (" " ++ t))) := by
  have e : ("frame " : Str) = "frame" ++ " " := by decide +kernel
  rw [e]
  simp only [app_assoc]
theorem say_do {nm t : Str} : "do " ++ nm ++ " " ++ t = "do" ++ (" " ++ (nm ++ (" " ++ t))) := by
  have e : ("do " : Str) = "do" ++ " " := by decide +kernel
  rw [e]
  simp only [app_assoc]
theorem say_shows {nm : Str} : "shows " ++ nm = "shows" ++ (" " ++ nm) := by
  have e : ("shows " : Str) = "shows" ++ " " := by decide +kernel
  rw [e]
  simp only [app_assoc]
theorem say_back {nm : Str} : "back " ++ nm = "back" ++ (" " ++ nm) := by
  have e : ("back " : Str) = "back" ++ " " := by decide +kernel
  rw [e]
  simp only [app_assoc]
section
variable {P : Program} {w : World} {K : PySem.W.Frag} {mg : Str → Option Value} {base : Heap} {A : Adr} {fI : Addr} {fd : FuncData}
def spLaw (K : PySem.W.Frag) : Sp := fun vs H Q _ => ∃ (a : Addr) (ns : List Int), vs = [.ref a] ∧ SqL K H a (ns.map V.int) ∧ ns.length ≤ 63 ∧ ∀ H', Q (.bl true) H'
theorem fn_cal {g x q : Str} {st : Stmt} {N ps : List Str} {k : Nat} {sp : Sp} {f : Addr} {fd : FuncData} (F : FnP K x q st f fd) (S : FnScope N ps (defScope st)) (len : ∀ vs H Q E, sp vs H Q E → vs.length = ps.length)
    (hbody : ∀ (f : Addr) (cdv : Value) (A : Around) (outer : List Env) (s : Shared) (H : Hp) (vs : List V) (Q : VK) (E : XK), Room k (A.deeper (envOfC q (defScope st) s.heap.objs.size f cdv)) → sp vs H Q E →
      ∃ t, PSs (cxOf CX0 P w K mg base N q (defScope st) f cdv A outer s H E).nox (defBody st) t ∧ t { nx := fun _ H' => Q .non H', rt := Q } (start N vs) H) : FnOk P w K mg base CX0 (k + 1) f fd ps sp :=
  F.ok S len fun cdv A outer s H vs Q E hr h => by
    obtain ⟨t, h1, h2⟩ := hbody f cdv A outer s H vs Q E hr h
    exact ⟨t, h1.nox, h2⟩
theorem ok_law (T : Bas K mg) (TC : Cla K mg A) (m_Desk : Mkr P w K mg base CX0 "Desk" A.desk ["self"] 1 (spDeskI A)) (f__law_name : Cal P w K mg base CX0 "_law_name" ["_law_script", "_law_k"] 2 (spLName K)) (f__law_frame : Cal P w K mg base CX0 "_law_frame" ["_law_script", "_law_at", "_law_most"] 2 (spLFrame K))
    (f__law_written : Cal P w K mg base CX0 "_law_written" ["_law_frame_here"] 1 spLWritten) (f__law_drawn : Cal P w K mg base CX0 "_law_drawn" ["_law_script", "_law_at", "_law_frame_here"] 2 (spLDrawn K)) (f__law_text : Cal P w K mg base CX0 "_law_text" ["_law_moves_here"] 1 spLText)
    (f__law_shown : Cal P w K mg base CX0 "_law_shown" ["_law_standing"] 1 spShown) (f__law_moves : Cal P w K mg base CX0 "_law_moves" ["_law_script", "_law_k", "_law_frame_here", "_law_standing"] 2 (spLMoves K))
    (f__law_other : Cal P w K mg base CX0 "_law_other" ["_law_script", "_law_k", "_law_frame_here", "_law_standing", "_law_moves_here"] 3 (spLOther K))
    (f__law_right : Cal P w K mg base CX0 "_law_right" ["_law_desk", "_law_name_here", "_law_frame_here", "_law_standing", "_law_moves_here", "_law_other_here"] 9 (spLRight A))
    (f__law_all : Cal P w K mg base CX0 "_law_all" ["_law_frame_here", "_law_standing", "_law_moves_here"] 2 spLAll) (t_say : Met P w K mg base CX0 A.desk "say" ["self", "row"] 8 (spSay A))
    {fL : Addr} {fdL : FuncData} (F : FnP K "law" "law" s_law fL fdL) : FnOk P w K mg base CX0 10 fL fdL ["_law_script"] (spLaw K) := by
  refine fn_cal (g := "law") F sc_law (fun vs H Q E h => ?_) (fun f cdv A0 outer s H vs Q E hr h => ?_)
  · obtain ⟨a, ns, rfl, _⟩ := h; rfl
  · obtain ⟨a, ns, rfl, hsq, hns, q⟩ := h
    have hscr : RScr K H (.ref a) ns := ⟨a, rfl, hsq⟩
    refine ⟨_, (pss_cons (ps_set (i := 1) sc_law.nd rfl (by first | exact Or.inl rfl | exact Or.inr rfl) (pe_mkr0 m_Desk hr (by decide) pass0))
  (pss_cons (ps_set (i := 2) sc_law.nd rfl (by first | exact Or.inl rfl | exact Or.inr rfl) (pe_cal f__law_name hr (by decide) pass0 (pa_cons (pv 0) (pa_cons pe_int pa_nil))))
  (pss_cons (ps_set (i := 3) sc_law.nd rfl (by first | exact Or.inl rfl | exact Or.inr rfl) (pe_cal f__law_frame hr (by decide) pass0 (pa_cons (pv 0) (pa_cons pe_int (pa_cons pe_int pa_nil)))))
  (pss_cons (ps_if (pt_cmpR (opNe hr) (pe_met t_say hr (by decide) pass0 (pv 1) (pa_cons (pe_op opAdd (pe_op opAdd (pe_op opAdd pe_str (pv 2)) pe_str) (pe_cal f__law_written hr (by decide) pass0 (pa_cons (pv 3) pa_nil))) pa_nil)) pe_str (nomark _)) (pss_one (ps_ret pe_bl)) pss_nil)
  (pss_cons (ps_set (i := 4) sc_law.nd rfl (by first | exact Or.inl rfl | exact Or.inr rfl) (pe_cal f__law_drawn hr (by decide) pass0 (pa_cons (pv 0) (pa_cons pe_int (pa_cons (pv 3) pa_nil)))))
  (pss_cons (ps_set (i := 5) sc_law.nd rfl (by first | exact Or.inl rfl | exact Or.inr rfl) (pe_lst pa_nil))
  (pss_cons (ps_for PassesOwn.never rfl (pi_enum (by rfl) T.z_enumerate (pa_cons (pv 4) pa_nil)) (pg_tup rfl (pgs_cons (pg_name (i := 6) sc_law.nd rfl (by first | exact Or.inl rfl | exact Or.inr rfl)) (pgs_cons (pg_name (i := 7) sc_law.nd rfl (by first | exact Or.inl rfl | exact Or.inr rfl)) pgs_nil)))
  (pss_one (ps_for PassesOwn.never rfl (pi_list (pe_lst (pa_cons (pe_tup (pa_cons pe_str (pa_cons (pe_ix ix_seq (pv 7) pe_int (fun _ _ => rfl)) pa_nil))) (pa_cons (pe_tup (pa_cons pe_str (pa_cons (pe_ix ix_seq (pv 7) pe_int (fun _ _ => rfl)) pa_nil))) pa_nil)))) (pg_tup rfl (pgs_cons (pg_name (i := 8) sc_law.nd rfl (by first | exact Or.inl rfl | exact Or.inr rfl)) (pgs_cons (pg_name (i := 9) sc_law.nd rfl (by first | exact Or.inl rfl | exact Or.inr rfl)) pgs_nil)))
  (pss_one (ps_if (pt_cmpR op_gt (pv 9) pe_int (nomark _)) (pss_one (ps_expr (pe_bm PySem.F.plainAttrs_list PySem.F.slot_list_append PySem.F.type_list_append mt_append (pv 5) (pa_cons (pe_tup (pa_cons (pv 8) (pa_cons (pv 6) (pa_cons (pv 9) pa_nil)))) pa_nil)))) pss_nil)))))
  (pss_cons (ps_if (pt_cmpR (opNe hr) (pe_met t_say hr (by decide) pass0 (pv 1) (pa_cons (pe_op opAdd (pe_op opAdd (pe_op opAdd pe_str (pv 2)) pe_str) (pe_cal f__law_text hr (by decide) pass0 (pa_cons (pv 5) pa_nil))) pa_nil)) (pe_cal f__law_shown hr (by decide) pass0 (pa_cons (pv 4) pa_nil)) (nomark _)) (pss_one (ps_ret pe_bl)) pss_nil)
  (pss_cons (ps_for PassesOwn.never rfl (pi_range1 (by rfl) T.z_range (pa_cons (pe_callB (callMax rfl) (by rfl) T.z_max boot_max (pa_cons pe_int (pa_cons (pe_callB (callMin rfl) (by rfl) T.z_min boot_min (pa_cons (pe_callB callLen (by rfl) T.z_len PySem.boot_len (pa_cons (pv 0) pa_nil)) (pa_cons pe_int pa_nil))) pa_nil))) pa_nil)) (pg_name (i := 10) sc_law.nd rfl (by first | exact Or.inl rfl | exact Or.inr rfl))
  (pss_cons (ps_set (i := 11) sc_law.nd rfl (by first | exact Or.inl rfl | exact Or.inr rfl) (pe_cal f__law_moves hr (by decide) pass0 (pa_cons (pv 0) (pa_cons (pv 10) (pa_cons (pv 3) (pa_cons (pv 4) pa_nil))))))
  (pss_cons (ps_set (i := 12) sc_law.nd rfl (by first | exact Or.inl rfl | exact Or.inr rfl) (pe_cal f__law_other hr (by decide) pass0 (pa_cons (pv 0) (pa_cons (pv 10) (pa_cons (pv 3) (pa_cons (pv 4) (pa_cons (pv 11) pa_nil)))))))
  (pss_cons (ps_if (pt_not (pt_val (pe_cal f__law_right hr (by decide) pass0 (pa_cons (pv 1) (pa_cons (pv 2) (pa_cons (pv 3) (pa_cons (pv 4) (pa_cons (pv 11) (pa_cons (pv 12) pa_nil))))))))) (pss_one (ps_ret pe_bl)) pss_nil)
  (pss_one (ps_if (pt_cmpR (opNe hr) (pe_met t_say hr (by decide) pass0 (pv 1) (pa_cons (pe_op opAdd pe_str (pv 2)) pa_nil)) (pe_cal f__law_shown hr (by decide) pass0 (pa_cons (pv 4) pa_nil)) (nomark _)) (pss_one (ps_ret pe_bl)) pss_nil))))))
  (pss_cons (ps_if (pt_cmpR (opEq hr) (pv 5) (pe_lst pa_nil) (nomark _)) (pss_one (ps_ret pe_bl)) pss_nil)
  (pss_cons (ps_set (i := 13) sc_law.nd rfl (by first | exact Or.inl rfl | exact Or.inr rfl) (pe_cal f__law_all hr (by decide) pass0 (pa_cons (pv 3) (pa_cons (pe_op opMul (pe_lst (pa_cons (pe_tup (pa_cons pe_int (pa_cons pe_int pa_nil))) pa_nil)) (pe_callB callLen (by rfl) T.z_len PySem.boot_len (pa_cons (pv 3) pa_nil))) (pa_cons (pe_slice sl_list (pv 5) po_none (po_some (pe_un un_neg pe_int))) pa_nil)))))
  (pss_one (ps_ret (pe_cmpR (opEq hr) (pe_met t_say hr (by decide) pass0 (pv 1) (pa_cons (pe_op opAdd pe_str (pv 2)) pa_nil)) (pe_cal f__law_shown hr (by decide) pass0 (pa_cons (pv 13) pa_nil)) (nomark _))))))))))))))), ?_⟩
    walk_at "rd"
    refine fun D dx hD hdx ne => ⟨D, dx, rfl, upd_same, fun dd hdd => ⟨rfl, ?_⟩⟩
    walk_at "rd"
    have dD : dd ≠ D := fun e => by rw [e, upd_same] at hdd; cases hdd
    have ddx : dd ≠ dx := fun e => by rw [e, upd_ne ne, upd_same] at hdd; cases hdd
    have hdd0 : H dd = none := by rw [upd_ne dD, upd_ne ddx] at hdd; exact hdd
    have k1 : Same H (upd (upd (upd (upd H dx (.own D)) D (.ins A.desk dx [])) dd (.dK [])) D (.ins A.desk dx [("held", .ref dd)])) := fun b o e => by
      have n1 := ne_of_none e hD
      have n2 := ne_of_none e hdx
      have n3 := ne_of_none e hdd0
      rw [upd_ne n1, upd_ne n3, upd_ne n1, upd_ne n2]
      exact e
    have hD1 : (upd (upd (upd (upd H dx (.own D)) D (.ins A.desk dx [])) dd (.dK [])) D (.ins A.desk dx [("held", .ref dd)])) D = some (.ins A.desk dx [("held", .ref dd)]) := upd_same
    have hd1 : (upd (upd (upd (upd H dx (.own D)) D (.ins A.desk dx [])) dd (.dK [])) D (.ins A.desk dx [("held", .ref dd)])) dd = some (.dK []) := by rw [upd_ne dD, upd_same]
    generalize (upd (upd (upd (upd H dx (.own D)) D (.ins A.desk dx [])) dd (.dK [])) D (.ins A.desk dx [("held", .ref dd)])) = H1 at k1 hD1 hd1 ⊢
    refine ⟨H, ns, _, rfl, k1, hscr, hns, ?_⟩
    intro nm G2 H2 s2 o
    walk_at "rd"
    refine ⟨G2, ns, _, rfl, s2.k, up (R := RScr K) hscr s2.g, hns, ?_⟩
    intro vf fr G3 H3 s3 rf z1 z2 ol
    have s23 := s2.trans s3
    have ln := o.l1
    have hD3 := s23.h _ _ hD1
    walk_at "rd"
    refine ⟨D, dx, _, rfl, hD3, held_no (by decide +kernel), ?_⟩
    have lw := written_len ol
    have lfr : ("frame " : Str).length = 6 := by decide +kernel
    walk_at "rd"
    refine g_addS (by rw [lfr, sizeLine_eq]; omega) ?_
    walk_at "rd"
    refine g_addS (by rw [app_len, lfr, len_blank, sizeLine_eq]; omega) ?_
    walk_at "rd"
    refine ⟨G3, fr, _, rfl, s3.k, rf, ol, by omega, ?_⟩
    intro G4 H4 s4
    have s24 := s23.trans s4
    refine g_addS (by rw [app_len, app_len, lfr, len_blank, sizeLine_eq]; omega) ?_
    walk_at "rd"
    refine ⟨D, _, rfl, .inl ⟨G4, dx, dd, nm, fr, say_frame, s4.k, s24.h _ _ hD1, s24.h _ _ hd1, stp_none s24 hD hD1, stp_none s24 hdd0 hd1, o, ol, z1, by omega, ?_⟩⟩
    intro ak pl G5 H5 g5 dk5
    walk_at "rd"
    refine w_noN rfl ?_
    walk_at "rd"
    have g35 : Same G3 G5 := s4.g.trans g5
    have g05 : Same H G5 := s23.g.trans g35
    refine ⟨G5, ns, 30, fr, _, _, rfl, dk5.kp.k, up (R := RScr K) hscr g05, hns, by omega, by omega, up (R := RFrame) rf g35, by omega, ol, ?_⟩
    intro vst st G6 H6 s6 fit rst
    have dk6 := dk5.step s6
    have g06 := g05.trans s6.g
    have rf6 := up (R := RFrame) rf (g35.trans s6.g)
    have os := ok_rods ol fit
    have lst := fit.1
    walk_at "rd"
    refine w_acc s6.k fun DD H7 a7 => ?_
    walk_at "rd"
    obtain ⟨ps, xs, rfl, hps, rs⟩ := id rst
    have lx := paired_len rs
    refine ⟨ps, xs, rfl, SqL.of (a7.k _ _ hps), ?_⟩
    refine for_go (walk_enum (xs := xs)) (fun i σ H' => ∃ (G' : Hp) (ys : List V) (told : List Mv) (o6 o7 o8 o9 : Option V), Acc G6 H6 DD ys G' H' ∧ Paired (RMvT G') ys told ∧ told.length ≤ 2 * i ∧ doneFrom 0 st = told ++ doneFrom i (st.drop i) ∧
      σ = [some (.ref a), some (.ref D), some (.str nm), some vf, some (.ref ps), some (.ref DD), o6, o7, o8, o9, none, none, none, none]) ?_ ?_ ?_ ?_
    · exact ⟨G6, [], [], none, none, none, none, a7, .nil, by simp, rfl, rfl⟩
    · rintro i σ H' _ ⟨G', ys, told, o6, o7, o8, o9, a', _⟩
      exact SqL.of (a'.k _ _ (a'.g _ _ hps))
    · rintro i x σ H8 H8' hi ⟨G8, ys, told, o6, o7, o8, o9, a8, r8, l8, e8, rfl⟩ hY
      obtain ⟨T2, va, vb, G9, rfl, s9, hT, e1, e2⟩ := y_pair a8.k hY
      cases e1
      have a9 := a8.step s9
      obtain ⟨⟨sh, sl⟩, es, p0, rfl, h0⟩ := paired_get (paired_up a9.g rs) e2
      have hi' : i < st.length := (List.getElem?_eq_some_iff.mp es).1
      have hdrop : st.drop i = (sh, sl) :: st.drop (i + 1) := by
        rw [List.drop_eq_getElem_cons hi']
        congr 1
        exact (List.getElem?_eq_some_iff.mp es).2
      obtain ⟨o1, o2, o3, o4⟩ := os (sh, sl) (List.mem_of_getElem? es)
      simp only at o1 o2 o3 o4
      walk_at "rd"
      refine w_gtup (by walk_at "T") rfl ?_
      walk_at "rd"
      refine w_ixT (i := 0) (SqT.of (s9.k _ _ h0)) rfl ?_
      walk_at "rd"
      refine w_tupK s9.k rfl fun q1 B1 C1 t1 hq1 _ => ?_
      walk_at "rd"
      refine w_ixT (i := 1) (SqT.of (t1.k _ _ (t1.g _ _ h0))) rfl ?_
      walk_at "rd"
      refine w_tupK t1.k rfl fun q2 B2 C2 t2 hq2 _ => ?_
      walk_at "rd"
      refine w_lstK t2.k rfl fun q3 B3 C3 t3 hq3 _ => ?_
      have t13 := t1.trans (t2.trans t3)
      have a10 := a9.step t13
      have hq1' := t3.g _ _ (t2.g _ _ hq1)
      have hq2' := t3.g _ _ hq2
      refine ⟨q3, rfl, ⟨_, SqL.of (t3.k _ _ hq3)⟩, ?_⟩
      refine for_go (walk_list (xs := [V.ref q1, V.ref q2])) (fun j σ H' => ∃ (G' : Hp) (ys : List V) (told' : List Mv) (o8 o9 : Option V), Acc G6 H6 DD ys G' H' ∧ Same B3 G' ∧ Paired (RMvT G') ys told' ∧ told'.length ≤ 2 * i + j ∧
        told' = told ++ (([putM i (sh, sl), upM i (sh, sl)].take j).flatten) ∧ σ = [some (.ref a), some (.ref D), some (.str nm), some vf, some (.ref ps), some (.ref DD), some (.int (i : Nat)), some (.ref p0), o8, o9, none, none, none, none]) ?_ ?_ ?_ ?_
      · exact ⟨B3, ys, told, _, _, a10, Same.refl _, paired_up (s9.g.trans t13.g) r8, by omega, by simp, rfl⟩
      · rintro j σ H' _ ⟨G', ys', told', p8, p9, a', g', _⟩
        exact SqL.of (a'.k _ _ (g' _ _ hq3))
      · rintro j x σ H11 H11' hj ⟨G11, ys11, told11, p8, p9, a11, g11, r11, l11, e11, rfl⟩ ⟨rfl, hx⟩
        obtain ⟨kd, b, q4, rfl, hq4, hb0, hb1, etk⟩ : ∃ (kd : K4) (b : Int) (q4 : Addr), x = .ref q4 ∧ G11 q4 = some (.tup [.str kd.word, .int b]) ∧ 0 ≤ b ∧ b < 100 ∧ ([putM i (sh, sl), upM i (sh, sl)].take (j + 1)).flatten = ([putM i (sh, sl), upM i (sh, sl)].take j).flatten ++ (if 0 < b then [Mv.mk kd i b.toNat] else []) := by
          rcases (show j = 0 ∨ j = 1 by simp at hj; omega) with rfl | rfl
          · cases hx
            exact ⟨.put, sh, q1, rfl, g11 _ _ hq1', o1, o2, by simp [putM]⟩
          · cases hx
            exact ⟨.up, sl, q2, rfl, g11 _ _ hq2', o3, o4, by simp [upM]⟩
        walk_at "rd"
        refine w_gtup (SqT.of (a11.k _ _ hq4)) rfl ?_
        walk_at "rd"
        refine w_ite (fun c => ?_) (fun c => ?_)
        · walk_at "rd"
          refine w_tyL a11.at_ ?_
          walk_at "rd"
          refine w_tupK a11.k rfl fun q5 G12 H12 s12 hq5 _ => ?_
          walk_at "rd"
          have ll := paired_len r11
          have hj2 : j < 2 := by simpa using hj
          refine w_app (a11.step s12) (by omega) fun a13 => ?_
          walk_at "rd"
          refine ⟨G12, _, told11 ++ [⟨kd, i, b.toNat⟩], _, _, a13, g11.trans s12.g, paired_app (paired_up s12.g r11) (.cons ⟨q5, rfl, ?_⟩ .nil), by simp; omega, ?_, rfl⟩
          · show G12 q5 = some (.tup [.str kd.word, .int (i : Int), .int (b.toNat : Int)])
            rw [Int.toNat_of_nonneg hb0]
            exact hq5
          · rw [etk, e11, if_pos c, List.append_assoc]
        · walk_at "rd"
          refine ⟨G11, ys11, told11, _, _, a11, g11, r11, by omega, ?_, rfl⟩
          rw [etk, e11, if_neg c, List.append_nil]
      · rintro σ H11 ⟨G11, ys11, told11, p8, p9, a11, g11, r11, l11, e11, rfl⟩
        have e12 : ([putM i (sh, sl), upM i (sh, sl)].take [V.ref q1, V.ref q2].length).flatten = putM i (sh, sl) ++ upM i (sh, sl) := by simp
        rw [e12] at e11
        refine ⟨G11, ys11, told11, _, _, _, _, a11, r11, by simp at l11; omega, ?_, rfl⟩
        rw [e8, hdrop, e11]
        show told ++ (putM i (sh, sl) ++ upM i (sh, sl) ++ doneFrom (i + 1) (st.drop (i + 1))) = _
        simp [List.append_assoc]
    · rintro σ H8 ⟨G8, ys, told, o6, o7, o8, o9, a8, r8, l8, e8, rfl⟩
      have hd : st.drop xs.length = [] := by
        rw [List.drop_eq_nil_iff]
        omega
      rw [hd] at e8
      have e9 : doneFrom 0 st = told := by
        rw [e8]
        show told ++ [] = told
        rw [List.append_nil]
      obtain ⟨omd, lmd⟩ := done_ok (n := st.length) st 0 (by omega) (by omega) os
      rw [e9] at omd lmd
      have ea : allM fr (List.replicate fr.length (0, 0)) told = some st := by
        have h := done_all_eq (fr := fr) st [] (by simpa using fit)
        simp only [List.nil_append, List.length_nil] at h
        rw [← e9, ← lst]
        exact h
      have s8 := a8.done
      have hDD : (upd G8 DD (.lst ys)) DD = some (.lst ys) := upd_same
      have rdone : RRowT (upd G8 DD (.lst ys)) (.ref DD) told := ⟨DD, ys, rfl, hDD, paired_up (same_new a8.gd) r8⟩
      generalize (upd G8 DD (.lst ys)) = G9 at s8 hDD rdone
      have dk9 := dk6.step s8
      obtain ⟨dx9, hD9⟩ := dk9.dk
      walk_at "rd"
      refine ⟨D, dx9, _, rfl, hD9, held_no (by decide +kernel), ?_⟩
      have ldo : ("do " : Str).length = 3 := by decide +kernel
      have lr := row_len omd
      walk_at "rd"
      refine g_addS (by rw [ldo, sizeLine_eq]; omega) ?_
      walk_at "rd"
      refine g_addS (by rw [app_len, ldo, len_blank, sizeLine_eq]; omega) ?_
      walk_at "rd"
      refine ⟨G9, told, _, rfl, s8.k, rdone, by omega, omd, ?_⟩
      intro G10 H10 s10
      refine g_addS (by rw [app_len, app_len, ldo, len_blank, sizeLine_eq]; omega) ?_
      walk_at "rd"
      refine ⟨D, _, rfl, .inr (.inl ⟨G10, dd, ak, pl, nm, fr, _, st, [], told, say_do, dk9.step s10, o, omd, by simp; omega, by simp, by omega, ea, os, ?_⟩)⟩
      intro G11 H11 g11 dk11
      have g9_11 : Same G9 G11 := s10.g.trans g11
      have g6_11 : Same G6 G11 := s8.g.trans g9_11
      have k11 := dk11.kp.k
      walk_at "rd"
      refine ⟨G11, st, _, rfl, k11, up (R := RStd) rst g6_11, os, by omega, ?_⟩
      intro G12 H12 s12
      have dk12 := dk11.step s12
      have g6_12 := g6_11.trans s12.g
      have g9_12 := g9_11.trans s12.g
      walk_at "rd"
      refine w_noN rfl ?_
      walk_at "rd"
      have hsq12 : SqL K H12 a (ns.map V.int) := sql_same hsq ((g06.trans g6_12).trans s12.k)
      refine w_lenL hsq12 ?_
      walk_at "rd"
      generalize hmx : (if (if (25 : Int) < ((ns.map V.int).length : Nat) then (25 : Int) else ((ns.map V.int).length : Nat)) > 1 then (if (25 : Int) < ((ns.map V.int).length : Nat) then (25 : Int) else ((ns.map V.int).length : Nat)) else 1) = mx
      have hm1 : 1 ≤ mx ∧ mx ≤ 25 := by
        rw [← hmx]
        constructor <;> (split <;> split <;> omega)
      refine ⟨mx, by rw [← hmx], by omega, by omega, ?_⟩
      refine for_go (walk_range (lo := 0) (n := mx.toNat)) (fun i σ H' => ∃ (G' : Hp) (p6 p7 p8 p9 p10 p11 p12 : Option V), Same G12 G' ∧ Dk A D dd ak pl nm fr st ([] ++ told) G' H' ∧ σ = [some (.ref a), some (.ref D), some (.str nm), some vf, some (.ref ps), some (.ref DD), p6, p7, p8, p9, p10, p11, p12, none]) ?_ (fun _ _ _ _ _ => True.intro) ?_ ?_
      · exact ⟨G12, _, _, _, _, none, none, none, Same.refl _, dk12, rfl⟩
      · rintro i x σ H13 H13' hi ⟨G13, p6, p7, p8, p9, p10, p11, p12, g13, dk13, rfl⟩ ⟨rfl, rfl⟩
        have g6_13 := g6_12.trans g13
        have k13 := dk13.kp.k
        walk_at "rd"
        refine ⟨G13, ns, _, fr, st, _, _, _, rfl, k13, up (R := RScr K) hscr (g06.trans g6_13), hns, by omega, by omega, up (R := RFrame) rf6 g6_13, up (R := RStd) rst g6_13, z1, by omega, ol, fit, ?_⟩
        intro vm ms st' G14 H14 s14 rm lm om em
        walk_at "rd"
        have g6_14 := g6_13.trans s14.g
        refine ⟨G14, ns, _, fr, st, st', ms, _, _, _, _, rfl, s14.k, up (R := RScr K) hscr (g06.trans g6_14), hns, by omega, by omega, up (R := RFrame) rf6 g6_14, up (R := RStd) rst g6_14, rm, z1, by omega, ol, fit, by omega, om, em, ?_⟩
        intro vo other G15 H15 s15 fito ro
        walk_at "rd"
        have g6_15 := g6_14.trans s15.g
        have dk15 := dk13.step (s14.trans s15)
        refine ⟨G15, D, dd, ak, pl, nm, fr, st, other, _, ms, _, _, _, _, rfl, dk15, o, up (R := RFrame) rf6 g6_15, up (R := RStd) rst g6_15, up (R := RRowT) rm s15.g, ro, z1, by omega, ol, fit, fito, by omega, om, ?_⟩
        intro G16 H16 s16
        have dk16 := dk15.step s16
        have g6_16 := g6_15.trans s16.g
        try refine w_bl ?_
        walk_at "rd"
        obtain ⟨dx16, hD16⟩ := dk16.dk
        refine ⟨D, dx16, _, rfl, hD16, held_no (by decide +kernel), ?_⟩
        have lsh : ("shows " : Str).length = 6 := by decide +kernel
        walk_at "rd"
        refine g_addS (by rw [lsh, sizeLine_eq]; omega) ?_
        walk_at "rd"
        refine ⟨D, _, rfl, .inr (.inr (.inr (.inl ⟨G16, dd, ak, pl, nm, fr, st, _, say_shows, dk16, o, by omega, os, ?_⟩)))⟩
        intro G17 H17 s17
        walk_at "rd"
        refine ⟨G17, st, _, rfl, s17.k, up (R := RStd) rst (g6_16.trans s17.g), os, by omega, ?_⟩
        intro G18 H18 s18
        walk_at "rd"
        refine w_noN rfl ?_
        walk_at "rd"
        exact ⟨G18, _, _, _, _, _, _, _, g13.trans (s14.g.trans (s15.g.trans (s16.g.trans (s17.g.trans s18.g)))), dk16.step (s17.trans s18), rfl⟩
      · rintro σ H13 ⟨G13, p6, p7, p8, p9, p10, p11, p12, g13, dk13, rfl⟩
        have g9_13 := g9_12.trans g13
        have g6_13 := g6_12.trans g13
        have k13 := dk13.kp.k
        obtain ⟨pD, xD, eD, hxD, rD⟩ := up (R := RRowT) rdone g9_13
        cases eD
        walk_at "rd"
        refine w_lstK k13 rfl fun p1 G14 H14 s14 hp1 _ => ?_
        have hxD14 := s14.g _ _ hxD
        have rD14 := paired_up s14.g rD
        refine g_eqE (.lst (SqL.of (s14.k _ _ hxD14)) (dp_mvs s14.k rD14)) (shp_mvs told) (SqL.of (s14.k _ _ hp1)) ?_
        walk_at "rd"
        have e : decide (told.map mvD = []) = decide (told = []) := by cases told <;> simp
        rw [e]
        refine w_ite (fun c => ?_) (fun c => ?_)
        · walk_at "rd"
          exact q H14
        · obtain ⟨ms0, m0, em0⟩ : ∃ ms0 m0, told = ms0 ++ [m0] := ⟨told.dropLast, told.getLast c, (List.dropLast_concat_getLast c).symm⟩
          have lD := paired_len rD14
          have ez := ea
          rw [em0, allM_app] at ez
          obtain ⟨sb, esb, ep⟩ : ∃ sb, allM fr (List.replicate fr.length (0, 0)) ms0 = some sb ∧ push fr sb m0 = some st := by
            cases h : allM fr (List.replicate fr.length (0, 0)) ms0 with
            | none => rw [h] at ez; cases ez
            | some sb =>
              rw [h] at ez
              exact ⟨sb, rfl, by rw [← allM_one]; exact ez⟩
          have fsb : Fit fr sb := fit_all (fit_zero ol) esb
          have osb := ok_rods ol fsb
          have lsb := fsb.1
          walk_at "rd"
          refine w_tupK s14.k rfl fun p2 G15 H15 s15 hp2 _ => ?_
          walk_at "rd"
          refine w_lstK s15.k rfl fun p3 G16 H16 s16 hp3 _ => ?_
          walk_at "rd"
          have s1416 := s14.trans (s15.trans s16)
          obtain ⟨pf, xf, evf, hpf, rff⟩ := up (R := RFrame) rf6 (g6_13.trans s1416.g)
          have lff := paired_len rff
          rw [evf]
          refine w_lenL (SqL.of (s16.k _ _ hpf)) ?_
          refine g_rep (s16.k _ _ hp3) (by omega) (by omega) (by simp) ?_
          refine fun p4 np4 => ?_
          have s17 := Stp.new (o := HO.lst (List.replicate ((xf.length : Nat) : Int).toNat [V.ref p2]).flatten) s16.k np4
          have hp4 : (upd G16 p4 (HO.lst (List.replicate ((xf.length : Nat) : Int).toNat [V.ref p2]).flatten)) p4 = some (HO.lst (List.replicate ((xf.length : Nat) : Int).toNat [V.ref p2]).flatten) := upd_same
          generalize upd G16 p4 (HO.lst (List.replicate ((xf.length : Nat) : Int).toNat [V.ref p2]).flatten) = G17 at s17 hp4
          generalize upd H16 p4 (HO.lst (List.replicate ((xf.length : Nat) : Int).toNat [V.ref p2]).flatten) = H17 at s17 ⊢
          walk_at "rd"
          have s1417 := s1416.trans s17
          have hxD17 := (s15.g.trans (s16.g.trans s17.g)) _ _ hxD14
          have lpos : 1 ≤ xD.length := by
            rw [lD, em0]
            simp
          refine ⟨DD, xD, rfl, SqL.of (s17.k _ _ hxD17), ?_⟩
          rw [cut_last lpos]
          refine fun p5 np5 => ?_
          have s18 := Stp.new (o := HO.lst (xD.take (xD.length - 1))) s17.k np5
          have hp5 : (upd G17 p5 (HO.lst (xD.take (xD.length - 1)))) p5 = some (HO.lst (xD.take (xD.length - 1))) := upd_same
          generalize upd G17 p5 (HO.lst (xD.take (xD.length - 1))) = G18 at s18 hp5
          generalize upd H17 p5 (HO.lst (xD.take (xD.length - 1))) = H18 at s18 ⊢
          walk_at "rd"
          have s1418 := s1417.trans s18
          have rz : RStd G18 (.ref p4) (List.replicate fr.length (0, 0)) := by
            refine ⟨p4, _, rfl, s18.g _ _ hp4, ?_⟩
            have e1 : ((xf.length : Nat) : Int).toNat = fr.length := by omega
            rw [e1]
            exact paired_rep ⟨p2, rfl, (s16.g.trans (s17.g.trans s18.g)) _ _ hp2⟩ _
          have rm0 : RRowT G18 (.ref p5) ms0 := by
            refine ⟨p5, _, rfl, hp5, ?_⟩
            have r := paired_take ms0.length (paired_up (s15.g.trans (s16.g.trans (s17.g.trans s18.g))) rD14)
            rw [em0, List.take_left' rfl] at r
            rw [show xD.length - 1 = ms0.length by rw [lD, em0]; simp]
            exact r
          refine ⟨G18, fr, _, ms0, _, _, _, rfl, s18.k, ⟨pf, xf, rfl, (s17.g.trans s18.g) _ _ hpf, paired_up (s17.g.trans s18.g) rff⟩, rz, rm0, by simp, by omega, fun m hm => by have := (omd m (by rw [em0]; exact List.mem_append_left _ hm)).b1; omega, ?_⟩
          intro vb G19 H19 s19 rb
          rw [esb] at rb
          have rb' : RStd G19 vb sb := rb
          walk_at "rd"
          have s1419 := s1418.trans s19
          have dk19 := dk13.step s1419
          obtain ⟨dx19, hD19⟩ := dk19.dk
          refine ⟨D, dx19, _, rfl, hD19, held_no (by decide +kernel), ?_⟩
          have lbk : ("back " : Str).length = 5 := by decide +kernel
          walk_at "rd"
          refine g_addS (by rw [lbk, sizeLine_eq]; omega) ?_
          walk_at "rd"
          rw [List.nil_append, em0] at dk19
          refine ⟨D, _, rfl, .inr (.inr (.inr (.inr ⟨G19, dd, ak, pl, nm, fr, st, sb, ms0, m0, say_back, dk19, o, lst, by omega, push_contra fsb ep, osb, ?_⟩)))⟩
          intro G20 H20 g20 dk20
          walk_at "rd"
          refine ⟨G20, sb, _, rfl, dk20.kp.k, up (R := RStd) rb' g20, osb, by omega, ?_⟩
          intro G21 H21 s21
          refine g_eqS ?_
          rw [decide_eq_true rfl]
          exact q H21
end
end BF
/-! from the head's facts: every def in turn -/
namespace BF
open PySem PySem.Spec PyProof.Rows L2
theorem isiB_ok {K : PySem.W.Frag} {C : Addr} (h : isiB K C = true) : IsiC K C := by
  obtain ⟨h1, h⟩ := He.ba h
  obtain ⟨h2, h⟩ := He.ba h
  obtain ⟨h3, h4⟩ := He.ba h
  exact ⟨He.eqO_ok h1, He.eqO_ok h2, of_decide_eq_true h3, of_decide_eq_true h4⟩
theorem bas_of {w : World} {K : PySem.W.Frag} {h : Heap} {mg : Str → Option Value} (X : K.In h) (G : h.Ns mainGlobals mg) (c : SaysZ w K)  : Bas K mg :=
  { z_len := He.free_ok X G (c.t.d.fact 45 (f := .free "len") rfl), z_isinstance := He.free_ok X G (c.t.d.fact 46 (f := .free "isinstance") rfl), z_min := He.free_ok X G (c.t.d.fact 47 (f := .free "min") rfl), z_max := He.free_ok X G (c.t.d.fact 48 (f := .free "max") rfl), z_int := He.free_ok X G (c.t.d.fact 49 (f := .free "int") rfl), z_str := He.free_ok X G (c.t.d.fact 50 (f := .free "str") rfl), z_bool := He.free_ok X G (c.t.d.fact 51 (f := .free "bool") rfl), z_tuple := He.free_ok X G (c.t.d.fact 52 (f := .free "tuple") rfl), z_list := He.free_ok X G (c.t.d.fact 53 (f := .free "list") rfl), z_range := He.free_ok X G (c.t.d.fact 54 (f := .free "range") rfl), z_enumerate := He.free_ok X G (c.t.d.fact 55 (f := .free "enumerate") rfl), z_zip := He.free_ok X G (c.t.d.fact 56 (f := .free "zip") rfl), z_reversed := He.free_ok X G (c.t.d.fact 57 (f := .free "reversed") rfl), c_FIGURES_layouts := gc_str X G (c.t.d.fact 58 (f := .str "FIGURES_layouts" "0123456789") rfl), c_FIGURES_moves := gc_str X G (c.t.d.fact 59 (f := .str "FIGURES_moves" "0123456789") rfl), c_LETTERS := gc_str X G (c.t.d.fact 60 (f := .str "LETTERS" "abcdefghijklmnopqrstuvwxyz") rfl), c_MOST_FIGURES_layouts := gc_int X G (c.t.d.fact 61 (f := .int "MOST_FIGURES_layouts" 2) rfl), c_MOST_UPPER := gc_int X G (c.t.d.fact 62 (f := .int "MOST_UPPER" 6) rfl), c_MOST_WORTH := gc_int X G (c.t.d.fact 63 (f := .int "MOST_WORTH" 20) rfl), c_MOST_LOWER := gc_int X G (c.t.d.fact 64 (f := .int "MOST_LOWER" 24) rfl), c_MOST_BASE := gc_int X G (c.t.d.fact 65 (f := .int "MOST_BASE" 25) rfl), c_LONGEST_NAME := gc_int X G (c.t.d.fact 66 (f := .int "LONGEST_NAME" 8) rfl), c_MOST_RODS_desk := gc_int X G (c.t.d.fact 67 (f := .int "MOST_RODS_desk" 20) rfl) }
theorem cla_of {w : World} {K : PySem.W.Frag} {h : Heap} {mg : Str → Option Value} (X : K.In h) (G : h.Ns mainGlobals mg) (c : SaysZ w K)  : Cla K mg (AK K) :=
  {
    mcl := fun k => match k with | .up => He.cls_ok (c.t.d.fact 68 (f := .cls "Up") rfl) | .down => He.cls_ok (c.t.d.fact 69 (f := .cls "Down") rfl) | .put => He.cls_ok (c.t.d.fact 70 (f := .cls "Put") rfl) | .take => He.cls_ok (c.t.d.fact 71 (f := .cls "Take") rfl)
    mRod := fun k => match k with | .up => He.noat_ok (c.t.d.fact 74 (f := .noat "Up" "rod") rfl) | .down => He.noat_ok (c.t.d.fact 76 (f := .noat "Down" "rod") rfl) | .put => He.noat_ok (c.t.d.fact 78 (f := .noat "Put" "rod") rfl) | .take => He.noat_ok (c.t.d.fact 80 (f := .noat "Take" "rod") rfl)
    mBeads := fun k => match k with | .up => He.noat_ok (c.t.d.fact 75 (f := .noat "Up" "beads") rfl) | .down => He.noat_ok (c.t.d.fact 77 (f := .noat "Down" "beads") rfl) | .put => He.noat_ok (c.t.d.fact 79 (f := .noat "Put" "beads") rfl) | .take => He.noat_ok (c.t.d.fact 81 (f := .noat "Take" "beads") rfl)
    mIs := fun k => match k with | .up => isiB_ok (exZ_at c.more 0 rfl) | .down => isiB_ok (exZ_at c.more 1 rfl) | .put => isiB_ok (exZ_at c.more 2 rfl) | .take => isiB_ok (exZ_at c.more 3 rfl)
    kit := kitB_ok (exZ_at c.more 4 rfl)
    gUp := ⟨_, He.glo_ok X G (c.t.d.fact 36 (f := .glo "Up") rfl), rfl⟩
    gDown := ⟨_, He.glo_ok X G (c.t.d.fact 37 (f := .glo "Down") rfl), rfl⟩
    gPut := ⟨_, He.glo_ok X G (c.t.d.fact 38 (f := .glo "Put") rfl), rfl⟩
    gTake := ⟨_, He.glo_ok X G (c.t.d.fact 39 (f := .glo "Take") rfl), rfl⟩
    kcl := He.cls_ok (c.t.d.fact 72 (f := .cls "Kept") rfl)
    kF := He.noat_ok (c.t.d.fact 82 (f := .noat "Kept" "frame") rfl)
    kS := He.noat_ok (c.t.d.fact 83 (f := .noat "Kept" "standing") rfl)
    kP := He.noat_ok (c.t.d.fact 84 (f := .noat "Kept" "pushed") rfl)
    dcl := He.cls_ok (c.t.d.fact 73 (f := .cls "Desk") rfl)
    dH := He.noat_ok (c.t.d.fact 85 (f := .noat "Desk" "held") rfl) }
theorem stk_of {w : World} {K : PySem.W.Frag} {h : Heap} {mg : Str → Option Value} (X : K.In h) (G : h.Ns mainGlobals mg) (c : SaysZ w K) {fd_Stuck_init : FuncData} (F_Stuck_init : FnP K "__init__" "Stuck.__init__" s_Stuck_init (He.fAd K ("Stuck", some "__init__")) fd_Stuck_init) (b_Stuck_init : Binds K fd_Stuck_init ["self", "rod", "at"] []) : Stk K mg (AK K) (He.fAd K ("Stuck", some "__init__")) fd_Stuck_init :=
  {
    oex := oexB_ok (exZ_at c.more 5 rfl)
    nRod := He.noat_ok (c.t.d.fact 86 (f := .noat "Stuck" "rod") rfl)
    nAt := He.noat_ok (c.t.d.fact 87 (f := .noat "Stuck" "at") rfl)
    g := He.glo_ok X G (c.t.d.fact 42 (f := .glo "Stuck") rfl)
    ini := He.eqO_ok (He.ba (exZ_at c.more 7 rfl)).1
    tyI := of_decide_eq_true (He.ba (exZ_at c.more 7 rfl)).2
    fn := F_Stuck_init
    bi := b_Stuck_init
    xf := xfB_ok (exZ_at c.more 6 rfl)
    exm := He.exm_ok (c.t.d.fact 113 (f := .exm "Stuck" "Stuck" true) rfl)
    fe := ⟨_, _, He.glo_ok X G (c.t.d.fact 43 (f := .glo "FrameError") rfl), (feB_ok (exZ_at c.more 8 rfl)).1, (feB_ok (exZ_at c.more 8 rfl)).2⟩ }
theorem shp_of {w : World} {K : PySem.W.Frag} {h : Heap} {mg : Str → Option Value} (X : K.In h) (G : h.Ns mainGlobals mg) (c : SaysZ w K) : ∃ es n, Shp K w mg (He.ga K "SHAPES_desk") es n (shA K "shows") (shA K "back") := by
  obtain ⟨es, n, kd⟩ := c.t.tab 0 (t := (fun K => He.ga K "SHAPES_desk", ["shows", "back", "tidy", "add", "take", "bring", "fewest"])) rfl
  have s1 := shB_ok (exZ_at c.more 9 rfl)
  have s2 := shB_ok (exZ_at c.more 10 rfl)
  exact ⟨es, n, {
    kd := kd
    g := ⟨_, He.glo_ok X G (c.t.d.fact 44 (f := .glo "SHAPES_desk") rfl), rfl⟩
    shI := ⟨_, s1.1⟩
    bkI := ⟨_, s2.1⟩
    sh := ⟨es, n, _, kd.at_, kd.lit, s1.1, rfl⟩
    bk := ⟨es, n, _, kd.at_, kd.lit, s2.1, rfl⟩
    tS := s1.2
    tB := s2.2 }⟩
theorem facts {P : Program} {w : World} {K : PySem.W.Frag} {h : Heap} {mg : Str → Option Value} (X : K.In h) (G : h.Ns mainGlobals mg) (c : SaysZ w K) :
    mg ("law" : Str) = some (.ref (He.ga K "law")) ∧ ∃ fd : FuncData, (∀ (s : Shared) (v : Value), BindsTo s fd ⟨[v], []⟩ [("_law_script", v)]) ∧ ∀ base : Heap, FnOk P w K mg base CX0 10 (He.ga K "law") fd ["_law_script"] (spLaw K) := by
  obtain ⟨fd_is_whole, F_is_whole⟩ : ∃ fd, FnP K "is_whole" "is_whole" s_is_whole (He.fAd K ("is_whole", none)) fd := c.t.d.def_ 0 (d := ⟨("is_whole", none), "is_whole", "is_whole", defArgs s_is_whole, defBody s_is_whole, defScope s_is_whole, [], []⟩) rfl
  have b_is_whole : Binds K fd_is_whole ["thing"] [] := F_is_whole.bindsN fun _ _ _ _ _ _ us hl => match us, hl with | [_], _ => rfl
  obtain ⟨fd_is_layout, F_is_layout⟩ : ∃ fd, FnP K "is_layout" "is_layout" s_is_layout (He.fAd K ("is_layout", none)) fd := c.t.d.def_ 1 (d := ⟨("is_layout", none), "is_layout", "is_layout", defArgs s_is_layout, defBody s_is_layout, defScope s_is_layout, [], []⟩) rfl
  have b_is_layout : Binds K fd_is_layout ["thing"] [] := F_is_layout.bindsN fun _ _ _ _ _ _ us hl => match us, hl with | [_], _ => rfl
  obtain ⟨fd_small_number_layouts, F_small_number_layouts⟩ : ∃ fd, FnP K "small_number" "small_number" s_small_number_layouts (He.fAd K ("small_number_layouts", none)) fd := c.t.d.def_ 2 (d := ⟨("small_number_layouts", none), "small_number", "small_number", defArgs s_small_number_layouts, defBody s_small_number_layouts, defScope s_small_number_layouts, [], []⟩) rfl
  have b_small_number_layouts : Binds K fd_small_number_layouts ["word"] [] := F_small_number_layouts.bindsN fun _ _ _ _ _ _ us hl => match us, hl with | [_], _ => rfl
  obtain ⟨fd_read_layout, F_read_layout⟩ : ∃ fd, FnP K "read_layout" "read_layout" s_read_layout (He.fAd K ("read_layout", none)) fd := c.t.d.def_ 3 (d := ⟨("read_layout", none), "read_layout", "read_layout", defArgs s_read_layout, defBody s_read_layout, defScope s_read_layout, [], []⟩) rfl
  have b_read_layout : Binds K fd_read_layout ["text"] [] := F_read_layout.bindsN fun _ _ _ _ _ _ us hl => match us, hl with | [_], _ => rfl
  obtain ⟨fd_full_worth, F_full_worth⟩ : ∃ fd, FnP K "full_worth" "full_worth" s_full_worth (He.fAd K ("full_worth", none)) fd := c.t.d.def_ 4 (d := ⟨("full_worth", none), "full_worth", "full_worth", defArgs s_full_worth, defBody s_full_worth, defScope s_full_worth, [], []⟩) rfl
  have b_full_worth : Binds K fd_full_worth ["layout"] [] := F_full_worth.bindsN fun _ _ _ _ _ _ us hl => match us, hl with | [_], _ => rfl
  obtain ⟨fd_clear_of, F_clear_of⟩ : ∃ fd, FnP K "clear_of" "clear_of" s_clear_of (He.fAd K ("clear_of", none)) fd := c.t.d.def_ 5 (d := ⟨("clear_of", none), "clear_of", "clear_of", defArgs s_clear_of, defBody s_clear_of, defScope s_clear_of, [], []⟩) rfl
  have b_clear_of : Binds K fd_clear_of ["frame"] [] := F_clear_of.bindsN fun _ _ _ _ _ _ us hl => match us, hl with | [_], _ => rfl
  obtain ⟨fd_small_number_moves, F_small_number_moves⟩ : ∃ fd, FnP K "small_number" "small_number" s_small_number_moves (He.fAd K ("small_number_moves", none)) fd := c.t.d.def_ 6 (d := ⟨("small_number_moves", none), "small_number", "small_number", defArgs s_small_number_moves, defBody s_small_number_moves, defScope s_small_number_moves, [], []⟩) rfl
  have b_small_number_moves : Binds K fd_small_number_moves ["word"] [] := F_small_number_moves.bindsN fun _ _ _ _ _ _ us hl => match us, hl with | [_], _ => rfl
  obtain ⟨fd_read_move, F_read_move⟩ : ∃ fd, FnP K "read_move" "read_move" s_read_move (He.fAd K ("read_move", none)) fd := c.t.d.def_ 7 (d := ⟨("read_move", none), "read_move", "read_move", defArgs s_read_move, defBody s_read_move, defScope s_read_move, [], []⟩) rfl
  have b_read_move : Binds K fd_read_move ["text"] [] := F_read_move.bindsN fun _ _ _ _ _ _ us hl => match us, hl with | [_], _ => rfl
  obtain ⟨fd_done_all, F_done_all⟩ : ∃ fd, FnP K "done_all" "done_all" s_done_all (He.fAd K ("done_all", none)) fd := c.t.d.def_ 8 (d := ⟨("done_all", none), "done_all", "done_all", defArgs s_done_all, defBody s_done_all, defScope s_done_all, [], []⟩) rfl
  have b_done_all : Binds K fd_done_all ["frame", "standing", "row"] [] := F_done_all.bindsN fun _ _ _ _ _ _ us hl => match us, hl with | [_, _, _], _ => rfl
  obtain ⟨fd_read_row, F_read_row⟩ : ∃ fd, FnP K "read_row" "read_row" s_read_row (He.fAd K ("read_row", none)) fd := c.t.d.def_ 9 (d := ⟨("read_row", none), "read_row", "read_row", defArgs s_read_row, defBody s_read_row, defScope s_read_row, [], []⟩) rfl
  have b_read_row : Binds K fd_read_row ["text"] [] := F_read_row.bindsN fun _ _ _ _ _ _ us hl => match us, hl with | [_], _ => rfl
  obtain ⟨fd_like, F_like⟩ : ∃ fd, FnP K "like" "like" s_like (He.fAd K ("like", none)) fd := c.t.d.def_ 10 (d := ⟨("like", none), "like", "like", defArgs s_like, defBody s_like, defScope s_like, [], []⟩) rfl
  have b_like : Binds K fd_like ["move", "rod", "beads"] [] := F_like.bindsN fun _ _ _ _ _ _ us hl => match us, hl with | [_, _, _], _ => rfl
  obtain ⟨fd_slips_at, F_slips_at⟩ : ∃ fd, FnP K "slips_at" "slips_at" s_slips_at (He.fAd K ("slips_at", none)) fd := c.t.d.def_ 11 (d := ⟨("slips_at", none), "slips_at", "slips_at", defArgs s_slips_at, defBody s_slips_at, defScope s_slips_at, [], []⟩) rfl
  have b_slips_at : Binds K fd_slips_at ["frame", "row", "at"] [] := F_slips_at.bindsN fun _ _ _ _ _ _ us hl => match us, hl with | [_, _, _], _ => rfl
  obtain ⟨fd_with_slip, F_with_slip⟩ : ∃ fd, FnP K "with_slip" "with_slip" s_with_slip (He.fAd K ("with_slip", none)) fd := c.t.d.def_ 12 (d := ⟨("with_slip", none), "with_slip", "with_slip", defArgs s_with_slip, defBody s_with_slip, defScope s_with_slip, [], []⟩) rfl
  have b_with_slip : Binds K fd_with_slip ["row", "slip"] [] := F_with_slip.bindsN fun _ _ _ _ _ _ us hl => match us, hl with | [_, _], _ => rfl
  obtain ⟨fd_leads_to, F_leads_to⟩ : ∃ fd, FnP K "leads_to" "leads_to" s_leads_to (He.fAd K ("leads_to", none)) fd := c.t.d.def_ 13 (d := ⟨("leads_to", none), "leads_to", "leads_to", defArgs s_leads_to, defBody s_leads_to, defScope s_leads_to, [], []⟩) rfl
  have b_leads_to : Binds K fd_leads_to ["frame", "standing", "row", "other"] [] := F_leads_to.bindsN fun _ _ _ _ _ _ us hl => match us, hl with | [_, _, _, _], _ => rfl
  obtain ⟨fd_slips_of, F_slips_of⟩ : ∃ fd, FnP K "slips_of" "slips_of" s_slips_of (He.fAd K ("slips_of", none)) fd := c.t.d.def_ 14 (d := ⟨("slips_of", none), "slips_of", "slips_of", defArgs s_slips_of, defBody s_slips_of, defScope s_slips_of, [], []⟩) rfl
  have b_slips_of : Binds K fd_slips_of ["frame", "standing", "row", "other"] [] := F_slips_of.bindsN fun _ _ _ _ _ _ us hl => match us, hl with | [_, _, _, _], _ => rfl
  obtain ⟨fd_read_rod, F_read_rod⟩ : ∃ fd, FnP K "read_rod" "read_rod" s_read_rod (He.fAd K ("read_rod", none)) fd := c.t.d.def_ 15 (d := ⟨("read_rod", none), "read_rod", "read_rod", defArgs s_read_rod, defBody s_read_rod, defScope s_read_rod, [], []⟩) rfl
  have b_read_rod : Binds K fd_read_rod ["layout", "word"] [] := F_read_rod.bindsN fun _ _ _ _ _ _ us hl => match us, hl with | [_, _], _ => rfl
  obtain ⟨fd_read_standing, F_read_standing⟩ : ∃ fd, FnP K "read_standing" "read_standing" s_read_standing (He.fAd K ("read_standing", none)) fd := c.t.d.def_ 16 (d := ⟨("read_standing", none), "read_standing", "read_standing", defArgs s_read_standing, defBody s_read_standing, defScope s_read_standing, [], []⟩) rfl
  have b_read_standing : Binds K fd_read_standing ["frame", "text"] [] := F_read_standing.bindsN fun _ _ _ _ _ _ us hl => match us, hl with | [_, _], _ => rfl
  obtain ⟨fd_shown_standing, F_shown_standing⟩ : ∃ fd, FnP K "shown_standing" "shown_standing" s_shown_standing (He.fAd K ("shown_standing", none)) fd := c.t.d.def_ 17 (d := ⟨("shown_standing", none), "shown_standing", "shown_standing", defArgs s_shown_standing, defBody s_shown_standing, defScope s_shown_standing, [], []⟩) rfl
  have b_shown_standing : Binds K fd_shown_standing ["standing"] [] := F_shown_standing.bindsN fun _ _ _ _ _ _ us hl => match us, hl with | [_], _ => rfl
  obtain ⟨fd_word_fits, F_word_fits⟩ : ∃ fd, FnP K "word_fits" "word_fits" s_word_fits (He.fAd K ("word_fits", none)) fd := c.t.d.def_ 18 (d := ⟨("word_fits", none), "word_fits", "word_fits", defArgs s_word_fits, defBody s_word_fits, defScope s_word_fits, [], []⟩) rfl
  have b_word_fits : Binds K fd_word_fits ["kind", "word"] [] := F_word_fits.bindsN fun _ _ _ _ _ _ us hl => match us, hl with | [_, _], _ => rfl
  obtain ⟨fd_look_at, F_look_at⟩ : ∃ fd, FnP K "look_at" "look_at" s_look_at (He.fAd K ("look_at", none)) fd := c.t.d.def_ 19 (d := ⟨("look_at", none), "look_at", "look_at", defArgs s_look_at, defBody s_look_at, defScope s_look_at, [], []⟩) rfl
  have b_look_at : Binds K fd_look_at ["words", "shape"] [] := F_look_at.bindsN fun _ _ _ _ _ _ us hl => match us, hl with | [_, _], _ => rfl
  obtain ⟨fd_is_name, F_is_name⟩ : ∃ fd, FnP K "is_name" "is_name" s_is_name (He.fAd K ("is_name", none)) fd := c.t.d.def_ 20 (d := ⟨("is_name", none), "is_name", "is_name", defArgs s_is_name, defBody s_is_name, defScope s_is_name, [], []⟩) rfl
  have b_is_name : Binds K fd_is_name ["word"] [] := F_is_name.bindsN fun _ _ _ _ _ _ us hl => match us, hl with | [_], _ => rfl
  obtain ⟨fd_l_mixed, F_l_mixed⟩ : ∃ fd, FnP K "_law_mixed" "_law_mixed" s_l_mixed (He.fAd K ("_law_mixed", none)) fd := c.t.d.def_ 21 (d := ⟨("_law_mixed", none), "_law_mixed", "_law_mixed", defArgs s_l_mixed, defBody s_l_mixed, defScope s_l_mixed, [], []⟩) rfl
  have b_l_mixed : Binds K fd_l_mixed ["_law_script", "_law_k"] [] := F_l_mixed.bindsN fun _ _ _ _ _ _ us hl => match us, hl with | [_, _], _ => rfl
  obtain ⟨fd_l_layout, F_l_layout⟩ : ∃ fd, FnP K "_law_layout" "_law_layout" s_l_layout (He.fAd K ("_law_layout", none)) fd := c.t.d.def_ 22 (d := ⟨("_law_layout", none), "_law_layout", "_law_layout", defArgs s_l_layout, defBody s_l_layout, defScope s_l_layout, [], []⟩) rfl
  have b_l_layout : Binds K fd_l_layout ["_law_cell"] [] := F_l_layout.bindsN fun _ _ _ _ _ _ us hl => match us, hl with | [_], _ => rfl
  obtain ⟨fd_l_frame, F_l_frame⟩ : ∃ fd, FnP K "_law_frame" "_law_frame" s_l_frame (He.fAd K ("_law_frame", none)) fd := c.t.d.def_ 23 (d := ⟨("_law_frame", none), "_law_frame", "_law_frame", defArgs s_l_frame, defBody s_l_frame, defScope s_l_frame, [], []⟩) rfl
  have b_l_frame : Binds K fd_l_frame ["_law_script", "_law_at", "_law_most"] [] := F_l_frame.bindsN fun _ _ _ _ _ _ us hl => match us, hl with | [_, _, _], _ => rfl
  obtain ⟨fd_l_written, F_l_written⟩ : ∃ fd, FnP K "_law_written" "_law_written" s_l_written (He.fAd K ("_law_written", none)) fd := c.t.d.def_ 24 (d := ⟨("_law_written", none), "_law_written", "_law_written", defArgs s_l_written, defBody s_l_written, defScope s_l_written, [], []⟩) rfl
  have b_l_written : Binds K fd_l_written ["_law_frame_here"] [] := F_l_written.bindsN fun _ _ _ _ _ _ us hl => match us, hl with | [_], _ => rfl
  obtain ⟨fd_l_name, F_l_name⟩ : ∃ fd, FnP K "_law_name" "_law_name" s_l_name (He.fAd K ("_law_name", none)) fd := c.t.d.def_ 25 (d := ⟨("_law_name", none), "_law_name", "_law_name", defArgs s_l_name, defBody s_l_name, defScope s_l_name, [], []⟩) rfl
  have b_l_name : Binds K fd_l_name ["_law_script", "_law_k"] [] := F_l_name.bindsN fun _ _ _ _ _ _ us hl => match us, hl with | [_, _], _ => rfl
  obtain ⟨fd_l_shown, F_l_shown⟩ : ∃ fd, FnP K "_law_shown" "_law_shown" s_l_shown (He.fAd K ("_law_shown", none)) fd := c.t.d.def_ 26 (d := ⟨("_law_shown", none), "_law_shown", "_law_shown", defArgs s_l_shown, defBody s_l_shown, defScope s_l_shown, [], []⟩) rfl
  have b_l_shown : Binds K fd_l_shown ["_law_standing"] [] := F_l_shown.bindsN fun _ _ _ _ _ _ us hl => match us, hl with | [_], _ => rfl
  obtain ⟨fd_l_push, F_l_push⟩ : ∃ fd, FnP K "_law_push" "_law_push" s_l_push (He.fAd K ("_law_push", none)) fd := c.t.d.def_ 27 (d := ⟨("_law_push", none), "_law_push", "_law_push", defArgs s_l_push, defBody s_l_push, defScope s_l_push, [], []⟩) rfl
  have b_l_push : Binds K fd_l_push ["_law_frame_here", "_law_standing", "_law_word", "_law_rod", "_law_beads"] [] := F_l_push.bindsN fun _ _ _ _ _ _ us hl => match us, hl with | [_, _, _, _, _], _ => rfl
  obtain ⟨fd_l_drawn, F_l_drawn⟩ : ∃ fd, FnP K "_law_drawn" "_law_drawn" s_l_drawn (He.fAd K ("_law_drawn", none)) fd := c.t.d.def_ 28 (d := ⟨("_law_drawn", none), "_law_drawn", "_law_drawn", defArgs s_l_drawn, defBody s_l_drawn, defScope s_l_drawn, [], []⟩) rfl
  have b_l_drawn : Binds K fd_l_drawn ["_law_script", "_law_at", "_law_frame_here"] [] := F_l_drawn.bindsN fun _ _ _ _ _ _ us hl => match us, hl with | [_, _, _], _ => rfl
  obtain ⟨fd_l_all, F_l_all⟩ : ∃ fd, FnP K "_law_all" "_law_all" s_l_all (He.fAd K ("_law_all", none)) fd := c.t.d.def_ 29 (d := ⟨("_law_all", none), "_law_all", "_law_all", defArgs s_l_all, defBody s_l_all, defScope s_l_all, [], []⟩) rfl
  have b_l_all : Binds K fd_l_all ["_law_frame_here", "_law_standing", "_law_moves_here"] [] := F_l_all.bindsN fun _ _ _ _ _ _ us hl => match us, hl with | [_, _, _], _ => rfl
  obtain ⟨fd_l_slips, F_l_slips⟩ : ∃ fd, FnP K "_law_slips" "_law_slips" s_l_slips (He.fAd K ("_law_slips", none)) fd := c.t.d.def_ 30 (d := ⟨("_law_slips", none), "_law_slips", "_law_slips", defArgs s_l_slips, defBody s_l_slips, defScope s_l_slips, [], []⟩) rfl
  have b_l_slips : Binds K fd_l_slips ["_law_frame_here", "_law_moves_here"] [] := F_l_slips.bindsN fun _ _ _ _ _ _ us hl => match us, hl with | [_, _], _ => rfl
  obtain ⟨fd_l_moves, F_l_moves⟩ : ∃ fd, FnP K "_law_moves" "_law_moves" s_l_moves (He.fAd K ("_law_moves", none)) fd := c.t.d.def_ 31 (d := ⟨("_law_moves", none), "_law_moves", "_law_moves", defArgs s_l_moves, defBody s_l_moves, defScope s_l_moves, [], []⟩) rfl
  have b_l_moves : Binds K fd_l_moves ["_law_script", "_law_k", "_law_frame_here", "_law_standing"] [] := F_l_moves.bindsN fun _ _ _ _ _ _ us hl => match us, hl with | [_, _, _, _], _ => rfl
  obtain ⟨fd_l_text, F_l_text⟩ : ∃ fd, FnP K "_law_text" "_law_text" s_l_text (He.fAd K ("_law_text", none)) fd := c.t.d.def_ 32 (d := ⟨("_law_text", none), "_law_text", "_law_text", defArgs s_l_text, defBody s_l_text, defScope s_l_text, [], []⟩) rfl
  have b_l_text : Binds K fd_l_text ["_law_moves_here"] [] := F_l_text.bindsN fun _ _ _ _ _ _ us hl => match us, hl with | [_], _ => rfl
  obtain ⟨fd_l_right, F_l_right⟩ : ∃ fd, FnP K "_law_right" "_law_right" s_l_right (He.fAd K ("_law_right", none)) fd := c.t.d.def_ 33 (d := ⟨("_law_right", none), "_law_right", "_law_right", defArgs s_l_right, defBody s_l_right, defScope s_l_right, [], []⟩) rfl
  have b_l_right : Binds K fd_l_right ["_law_desk", "_law_name_here", "_law_frame_here", "_law_standing", "_law_moves_here", "_law_other_here"] [] := F_l_right.bindsN fun _ _ _ _ _ _ us hl => match us, hl with | [_, _, _, _, _, _], _ => rfl
  obtain ⟨fd_l_other, F_l_other⟩ : ∃ fd, FnP K "_law_other" "_law_other" s_l_other (He.fAd K ("_law_other", none)) fd := c.t.d.def_ 34 (d := ⟨("_law_other", none), "_law_other", "_law_other", defArgs s_l_other, defBody s_l_other, defScope s_l_other, [], []⟩) rfl
  have b_l_other : Binds K fd_l_other ["_law_script", "_law_k", "_law_frame_here", "_law_standing", "_law_moves_here"] [] := F_l_other.bindsN fun _ _ _ _ _ _ us hl => match us, hl with | [_, _, _, _, _], _ => rfl
  obtain ⟨fd_law, F_law⟩ : ∃ fd, FnP K "law" "law" s_law (He.fAd K ("law", none)) fd := c.t.d.def_ 35 (d := ⟨("law", none), "law", "law", defArgs s_law, defBody s_law, defScope s_law, [], []⟩) rfl
  have b_law : Binds K fd_law ["_law_script"] [] := F_law.bindsN fun _ _ _ _ _ _ us hl => match us, hl with | [_], _ => rfl
  obtain ⟨fd_Stuck_init, F_Stuck_init⟩ : ∃ fd, FnP K "__init__" "Stuck.__init__" s_Stuck_init (He.fAd K ("Stuck", some "__init__")) fd := c.t.d.def_ 36 (d := ⟨("Stuck", some "__init__"), "__init__", "Stuck.__init__", defArgs s_Stuck_init, defBody s_Stuck_init, defScope s_Stuck_init, [], []⟩) rfl
  have b_Stuck_init : Binds K fd_Stuck_init ["self", "rod", "at"] [] := F_Stuck_init.bindsN fun _ _ _ _ _ _ us hl => match us, hl with | [_, _, _], _ => rfl
  obtain ⟨fd_Move_init_up, F_Move_init_up⟩ : ∃ fd, FnP K "__init__" "Move.__init__" s_Move_init (He.fAd K ("Up", some "__init__")) fd := c.t.d.def_ 37 (d := ⟨("Up", some "__init__"), "__init__", "Move.__init__", defArgs s_Move_init, defBody s_Move_init, defScope s_Move_init, [], []⟩) rfl
  have b_Move_init_up : Binds K fd_Move_init_up ["self", "rod", "beads"] [] := F_Move_init_up.bindsN fun _ _ _ _ _ _ us hl => match us, hl with | [_, _, _], _ => rfl
  obtain ⟨fd_Move_init_down, F_Move_init_down⟩ : ∃ fd, FnP K "__init__" "Move.__init__" s_Move_init (He.fAd K ("Down", some "__init__")) fd := c.t.d.def_ 38 (d := ⟨("Down", some "__init__"), "__init__", "Move.__init__", defArgs s_Move_init, defBody s_Move_init, defScope s_Move_init, [], []⟩) rfl
  have b_Move_init_down : Binds K fd_Move_init_down ["self", "rod", "beads"] [] := F_Move_init_down.bindsN fun _ _ _ _ _ _ us hl => match us, hl with | [_, _, _], _ => rfl
  obtain ⟨fd_Move_init_put, F_Move_init_put⟩ : ∃ fd, FnP K "__init__" "Move.__init__" s_Move_init (He.fAd K ("Put", some "__init__")) fd := c.t.d.def_ 39 (d := ⟨("Put", some "__init__"), "__init__", "Move.__init__", defArgs s_Move_init, defBody s_Move_init, defScope s_Move_init, [], []⟩) rfl
  have b_Move_init_put : Binds K fd_Move_init_put ["self", "rod", "beads"] [] := F_Move_init_put.bindsN fun _ _ _ _ _ _ us hl => match us, hl with | [_, _, _], _ => rfl
  obtain ⟨fd_Move_init_take, F_Move_init_take⟩ : ∃ fd, FnP K "__init__" "Move.__init__" s_Move_init (He.fAd K ("Take", some "__init__")) fd := c.t.d.def_ 40 (d := ⟨("Take", some "__init__"), "__init__", "Move.__init__", defArgs s_Move_init, defBody s_Move_init, defScope s_Move_init, [], []⟩) rfl
  have b_Move_init_take : Binds K fd_Move_init_take ["self", "rod", "beads"] [] := F_Move_init_take.bindsN fun _ _ _ _ _ _ us hl => match us, hl with | [_, _, _], _ => rfl
  obtain ⟨fd_Move_done_up, F_Move_done_up⟩ : ∃ fd, FnP K "done" "Move.done" s_Move_done (He.fAd K ("Up", some "done")) fd := c.t.d.def_ 41 (d := ⟨("Up", some "done"), "done", "Move.done", defArgs s_Move_done, defBody s_Move_done, defScope s_Move_done, [], []⟩) rfl
  have b_Move_done_up : Binds K fd_Move_done_up ["self", "frame", "standing"] [] := F_Move_done_up.bindsN fun _ _ _ _ _ _ us hl => match us, hl with | [_, _, _], _ => rfl
  obtain ⟨fd_Move_done_down, F_Move_done_down⟩ : ∃ fd, FnP K "done" "Move.done" s_Move_done (He.fAd K ("Down", some "done")) fd := c.t.d.def_ 42 (d := ⟨("Down", some "done"), "done", "Move.done", defArgs s_Move_done, defBody s_Move_done, defScope s_Move_done, [], []⟩) rfl
  have b_Move_done_down : Binds K fd_Move_done_down ["self", "frame", "standing"] [] := F_Move_done_down.bindsN fun _ _ _ _ _ _ us hl => match us, hl with | [_, _, _], _ => rfl
  obtain ⟨fd_Move_done_put, F_Move_done_put⟩ : ∃ fd, FnP K "done" "Move.done" s_Move_done (He.fAd K ("Put", some "done")) fd := c.t.d.def_ 43 (d := ⟨("Put", some "done"), "done", "Move.done", defArgs s_Move_done, defBody s_Move_done, defScope s_Move_done, [], []⟩) rfl
  have b_Move_done_put : Binds K fd_Move_done_put ["self", "frame", "standing"] [] := F_Move_done_put.bindsN fun _ _ _ _ _ _ us hl => match us, hl with | [_, _, _], _ => rfl
  obtain ⟨fd_Move_done_take, F_Move_done_take⟩ : ∃ fd, FnP K "done" "Move.done" s_Move_done (He.fAd K ("Take", some "done")) fd := c.t.d.def_ 44 (d := ⟨("Take", some "done"), "done", "Move.done", defArgs s_Move_done, defBody s_Move_done, defScope s_Move_done, [], []⟩) rfl
  have b_Move_done_take : Binds K fd_Move_done_take ["self", "frame", "standing"] [] := F_Move_done_take.bindsN fun _ _ _ _ _ _ us hl => match us, hl with | [_, _, _], _ => rfl
  obtain ⟨fd_Up_contrary, F_Up_contrary⟩ : ∃ fd, FnP K "contrary" "Up.contrary" s_Up_contrary (He.fAd K ("Up", some "contrary")) fd := c.t.d.def_ 45 (d := ⟨("Up", some "contrary"), "contrary", "Up.contrary", defArgs s_Up_contrary, defBody s_Up_contrary, defScope s_Up_contrary, [], []⟩) rfl
  have b_Up_contrary : Binds K fd_Up_contrary ["self"] [] := F_Up_contrary.bindsN fun _ _ _ _ _ _ us hl => match us, hl with | [_], _ => rfl
  obtain ⟨fd_Up_reached, F_Up_reached⟩ : ∃ fd, FnP K "reached" "Up.reached" s_Up_reached (He.fAd K ("Up", some "reached")) fd := c.t.d.def_ 46 (d := ⟨("Up", some "reached"), "reached", "Up.reached", defArgs s_Up_reached, defBody s_Up_reached, defScope s_Up_reached, [], []⟩) rfl
  have b_Up_reached : Binds K fd_Up_reached ["self", "layout", "rod_standing"] [] := F_Up_reached.bindsN fun _ _ _ _ _ _ us hl => match us, hl with | [_, _, _], _ => rfl
  obtain ⟨fd_Down_contrary, F_Down_contrary⟩ : ∃ fd, FnP K "contrary" "Down.contrary" s_Down_contrary (He.fAd K ("Down", some "contrary")) fd := c.t.d.def_ 47 (d := ⟨("Down", some "contrary"), "contrary", "Down.contrary", defArgs s_Down_contrary, defBody s_Down_contrary, defScope s_Down_contrary, [], []⟩) rfl
  have b_Down_contrary : Binds K fd_Down_contrary ["self"] [] := F_Down_contrary.bindsN fun _ _ _ _ _ _ us hl => match us, hl with | [_], _ => rfl
  obtain ⟨fd_Down_reached, F_Down_reached⟩ : ∃ fd, FnP K "reached" "Down.reached" s_Down_reached (He.fAd K ("Down", some "reached")) fd := c.t.d.def_ 48 (d := ⟨("Down", some "reached"), "reached", "Down.reached", defArgs s_Down_reached, defBody s_Down_reached, defScope s_Down_reached, [], []⟩) rfl
  have b_Down_reached : Binds K fd_Down_reached ["self", "layout", "rod_standing"] [] := F_Down_reached.bindsN fun _ _ _ _ _ _ us hl => match us, hl with | [_, _, _], _ => rfl
  obtain ⟨fd_Put_contrary, F_Put_contrary⟩ : ∃ fd, FnP K "contrary" "Put.contrary" s_Put_contrary (He.fAd K ("Put", some "contrary")) fd := c.t.d.def_ 49 (d := ⟨("Put", some "contrary"), "contrary", "Put.contrary", defArgs s_Put_contrary, defBody s_Put_contrary, defScope s_Put_contrary, [], []⟩) rfl
  have b_Put_contrary : Binds K fd_Put_contrary ["self"] [] := F_Put_contrary.bindsN fun _ _ _ _ _ _ us hl => match us, hl with | [_], _ => rfl
  obtain ⟨fd_Put_reached, F_Put_reached⟩ : ∃ fd, FnP K "reached" "Put.reached" s_Put_reached (He.fAd K ("Put", some "reached")) fd := c.t.d.def_ 50 (d := ⟨("Put", some "reached"), "reached", "Put.reached", defArgs s_Put_reached, defBody s_Put_reached, defScope s_Put_reached, [], []⟩) rfl
  have b_Put_reached : Binds K fd_Put_reached ["self", "layout", "rod_standing"] [] := F_Put_reached.bindsN fun _ _ _ _ _ _ us hl => match us, hl with | [_, _, _], _ => rfl
  obtain ⟨fd_Take_contrary, F_Take_contrary⟩ : ∃ fd, FnP K "contrary" "Take.contrary" s_Take_contrary (He.fAd K ("Take", some "contrary")) fd := c.t.d.def_ 51 (d := ⟨("Take", some "contrary"), "contrary", "Take.contrary", defArgs s_Take_contrary, defBody s_Take_contrary, defScope s_Take_contrary, [], []⟩) rfl
  have b_Take_contrary : Binds K fd_Take_contrary ["self"] [] := F_Take_contrary.bindsN fun _ _ _ _ _ _ us hl => match us, hl with | [_], _ => rfl
  obtain ⟨fd_Take_reached, F_Take_reached⟩ : ∃ fd, FnP K "reached" "Take.reached" s_Take_reached (He.fAd K ("Take", some "reached")) fd := c.t.d.def_ 52 (d := ⟨("Take", some "reached"), "reached", "Take.reached", defArgs s_Take_reached, defBody s_Take_reached, defScope s_Take_reached, [], []⟩) rfl
  have b_Take_reached : Binds K fd_Take_reached ["self", "layout", "rod_standing"] [] := F_Take_reached.bindsN fun _ _ _ _ _ _ us hl => match us, hl with | [_, _, _], _ => rfl
  obtain ⟨fd_Kept_init, F_Kept_init⟩ : ∃ fd, FnP K "__init__" "Kept.__init__" s_Kept_init (He.fAd K ("Kept", some "__init__")) fd := c.t.d.def_ 53 (d := ⟨("Kept", some "__init__"), "__init__", "Kept.__init__", defArgs s_Kept_init, defBody s_Kept_init, defScope s_Kept_init, [], []⟩) rfl
  have b_Kept_init : Binds K fd_Kept_init ["self", "frame"] [] := F_Kept_init.bindsN fun _ _ _ _ _ _ us hl => match us, hl with | [_, _], _ => rfl
  obtain ⟨fd_Kept_push_row, F_Kept_push_row⟩ : ∃ fd, FnP K "push_row" "Kept.push_row" s_Kept_push_row (He.fAd K ("Kept", some "push_row")) fd := c.t.d.def_ 54 (d := ⟨("Kept", some "push_row"), "push_row", "Kept.push_row", defArgs s_Kept_push_row, defBody s_Kept_push_row, defScope s_Kept_push_row, [], []⟩) rfl
  have b_Kept_push_row : Binds K fd_Kept_push_row ["self", "row"] [] := F_Kept_push_row.bindsN fun _ _ _ _ _ _ us hl => match us, hl with | [_, _], _ => rfl
  obtain ⟨fd_Kept_pull_back, F_Kept_pull_back⟩ : ∃ fd, FnP K "pull_back" "Kept.pull_back" s_Kept_pull_back (He.fAd K ("Kept", some "pull_back")) fd := c.t.d.def_ 55 (d := ⟨("Kept", some "pull_back"), "pull_back", "Kept.pull_back", defArgs s_Kept_pull_back, defBody s_Kept_pull_back, defScope s_Kept_pull_back, [], []⟩) rfl
  have b_Kept_pull_back : Binds K fd_Kept_pull_back ["self"] [] := F_Kept_pull_back.bindsN fun _ _ _ _ _ _ us hl => match us, hl with | [_], _ => rfl
  obtain ⟨fd_Desk_init, F_Desk_init⟩ : ∃ fd, FnP K "__init__" "Desk.__init__" s_Desk_init (He.fAd K ("Desk", some "__init__")) fd := c.t.d.def_ 56 (d := ⟨("Desk", some "__init__"), "__init__", "Desk.__init__", defArgs s_Desk_init, defBody s_Desk_init, defScope s_Desk_init, [], []⟩) rfl
  have b_Desk_init : Binds K fd_Desk_init ["self"] [] := F_Desk_init.bindsN fun _ _ _ _ _ _ us hl => match us, hl with | [_], _ => rfl
  obtain ⟨fd_Desk_kept, F_Desk_kept⟩ : ∃ fd, FnP K "kept" "Desk.kept" s_Desk_kept (He.fAd K ("Desk", some "kept")) fd := c.t.d.def_ 57 (d := ⟨("Desk", some "kept"), "kept", "Desk.kept", defArgs s_Desk_kept, defBody s_Desk_kept, defScope s_Desk_kept, [], []⟩) rfl
  have b_Desk_kept : Binds K fd_Desk_kept ["self", "name"] [] := F_Desk_kept.bindsN fun _ _ _ _ _ _ us hl => match us, hl with | [_, _], _ => rfl
  obtain ⟨fd_Desk_say, F_Desk_say⟩ : ∃ fd, FnP K "say" "Desk.say" s_Desk_say (He.fAd K ("Desk", some "say")) fd := c.t.d.def_ 58 (d := ⟨("Desk", some "say"), "say", "Desk.say", defArgs s_Desk_say, defBody s_Desk_say, defScope s_Desk_say, [], []⟩) rfl
  have b_Desk_say : Binds K fd_Desk_say ["self", "row"] [] := F_Desk_say.bindsN fun _ _ _ _ _ _ us hl => match us, hl with | [_, _], _ => rfl
  obtain ⟨fd_Desk_lay, F_Desk_lay⟩ : ∃ fd, FnP K "lay" "Desk.lay" s_Desk_lay (He.fAd K ("Desk", some "lay")) fd := c.t.d.def_ 59 (d := ⟨("Desk", some "lay"), "lay", "Desk.lay", defArgs s_Desk_lay, defBody s_Desk_lay, defScope s_Desk_lay, [], []⟩) rfl
  have b_Desk_lay : Binds K fd_Desk_lay ["self", "words"] [] := F_Desk_lay.bindsN fun _ _ _ _ _ _ us hl => match us, hl with | [_, _], _ => rfl
  obtain ⟨fd_Desk_move, F_Desk_move⟩ : ∃ fd, FnP K "move" "Desk.move" s_Desk_move (He.fAd K ("Desk", some "move")) fd := c.t.d.def_ 60 (d := ⟨("Desk", some "move"), "move", "Desk.move", defArgs s_Desk_move, defBody s_Desk_move, defScope s_Desk_move, [], []⟩) rfl
  have b_Desk_move : Binds K fd_Desk_move ["self", "rest"] [] := F_Desk_move.bindsN fun _ _ _ _ _ _ us hl => match us, hl with | [_, _], _ => rfl
  obtain ⟨fd_Desk_slip, F_Desk_slip⟩ : ∃ fd, FnP K "slip" "Desk.slip" s_Desk_slip (He.fAd K ("Desk", some "slip")) fd := c.t.d.def_ 61 (d := ⟨("Desk", some "slip"), "slip", "Desk.slip", defArgs s_Desk_slip, defBody s_Desk_slip, defScope s_Desk_slip, [], []⟩) rfl
  have b_Desk_slip : Binds K fd_Desk_slip ["self", "rest"] [] := F_Desk_slip.bindsN fun _ _ _ _ _ _ us hl => match us, hl with | [_, _], _ => rfl
  have D_is_whole : Std K mg "is_whole" "is_whole" "is_whole" s_is_whole ["thing"] := ⟨_, fd_is_whole, F_is_whole, He.glo_ok X G (c.t.d.fact 0 (f := .glo "is_whole") rfl), b_is_whole⟩
  have D_is_layout : Std K mg "is_layout" "is_layout" "is_layout" s_is_layout ["thing"] := ⟨_, fd_is_layout, F_is_layout, He.glo_ok X G (c.t.d.fact 1 (f := .glo "is_layout") rfl), b_is_layout⟩
  have D_small_number_layouts : Std K mg "small_number_layouts" "small_number" "small_number" s_small_number_layouts ["word"] := ⟨_, fd_small_number_layouts, F_small_number_layouts, He.glo_ok X G (c.t.d.fact 2 (f := .glo "small_number_layouts") rfl), b_small_number_layouts⟩
  have D_read_layout : Std K mg "read_layout" "read_layout" "read_layout" s_read_layout ["text"] := ⟨_, fd_read_layout, F_read_layout, He.glo_ok X G (c.t.d.fact 3 (f := .glo "read_layout") rfl), b_read_layout⟩
  have D_full_worth : Std K mg "full_worth" "full_worth" "full_worth" s_full_worth ["layout"] := ⟨_, fd_full_worth, F_full_worth, He.glo_ok X G (c.t.d.fact 4 (f := .glo "full_worth") rfl), b_full_worth⟩
  have D_clear_of : Std K mg "clear_of" "clear_of" "clear_of" s_clear_of ["frame"] := ⟨_, fd_clear_of, F_clear_of, He.glo_ok X G (c.t.d.fact 5 (f := .glo "clear_of") rfl), b_clear_of⟩
  have D_small_number_moves : Std K mg "small_number_moves" "small_number" "small_number" s_small_number_moves ["word"] := ⟨_, fd_small_number_moves, F_small_number_moves, He.glo_ok X G (c.t.d.fact 6 (f := .glo "small_number_moves") rfl), b_small_number_moves⟩
  have D_read_move : Std K mg "read_move" "read_move" "read_move" s_read_move ["text"] := ⟨_, fd_read_move, F_read_move, He.glo_ok X G (c.t.d.fact 7 (f := .glo "read_move") rfl), b_read_move⟩
  have D_done_all : Std K mg "done_all" "done_all" "done_all" s_done_all ["frame", "standing", "row"] := ⟨_, fd_done_all, F_done_all, He.glo_ok X G (c.t.d.fact 8 (f := .glo "done_all") rfl), b_done_all⟩
  have D_read_row : Std K mg "read_row" "read_row" "read_row" s_read_row ["text"] := ⟨_, fd_read_row, F_read_row, He.glo_ok X G (c.t.d.fact 9 (f := .glo "read_row") rfl), b_read_row⟩
  have D_like : Std K mg "like" "like" "like" s_like ["move", "rod", "beads"] := ⟨_, fd_like, F_like, He.glo_ok X G (c.t.d.fact 10 (f := .glo "like") rfl), b_like⟩
  have D_slips_at : Std K mg "slips_at" "slips_at" "slips_at" s_slips_at ["frame", "row", "at"] := ⟨_, fd_slips_at, F_slips_at, He.glo_ok X G (c.t.d.fact 11 (f := .glo "slips_at") rfl), b_slips_at⟩
  have D_with_slip : Std K mg "with_slip" "with_slip" "with_slip" s_with_slip ["row", "slip"] := ⟨_, fd_with_slip, F_with_slip, He.glo_ok X G (c.t.d.fact 12 (f := .glo "with_slip") rfl), b_with_slip⟩
  have D_leads_to : Std K mg "leads_to" "leads_to" "leads_to" s_leads_to ["frame", "standing", "row", "other"] := ⟨_, fd_leads_to, F_leads_to, He.glo_ok X G (c.t.d.fact 13 (f := .glo "leads_to") rfl), b_leads_to⟩
  have D_slips_of : Std K mg "slips_of" "slips_of" "slips_of" s_slips_of ["frame", "standing", "row", "other"] := ⟨_, fd_slips_of, F_slips_of, He.glo_ok X G (c.t.d.fact 14 (f := .glo "slips_of") rfl), b_slips_of⟩
  have D_read_rod : Std K mg "read_rod" "read_rod" "read_rod" s_read_rod ["layout", "word"] := ⟨_, fd_read_rod, F_read_rod, He.glo_ok X G (c.t.d.fact 15 (f := .glo "read_rod") rfl), b_read_rod⟩
  have D_read_standing : Std K mg "read_standing" "read_standing" "read_standing" s_read_standing ["frame", "text"] := ⟨_, fd_read_standing, F_read_standing, He.glo_ok X G (c.t.d.fact 16 (f := .glo "read_standing") rfl), b_read_standing⟩
  have D_shown_standing : Std K mg "shown_standing" "shown_standing" "shown_standing" s_shown_standing ["standing"] := ⟨_, fd_shown_standing, F_shown_standing, He.glo_ok X G (c.t.d.fact 17 (f := .glo "shown_standing") rfl), b_shown_standing⟩
  have D_word_fits : Std K mg "word_fits" "word_fits" "word_fits" s_word_fits ["kind", "word"] := ⟨_, fd_word_fits, F_word_fits, He.glo_ok X G (c.t.d.fact 18 (f := .glo "word_fits") rfl), b_word_fits⟩
  have D_look_at : Std K mg "look_at" "look_at" "look_at" s_look_at ["words", "shape"] := ⟨_, fd_look_at, F_look_at, He.glo_ok X G (c.t.d.fact 19 (f := .glo "look_at") rfl), b_look_at⟩
  have D_is_name : Std K mg "is_name" "is_name" "is_name" s_is_name ["word"] := ⟨_, fd_is_name, F_is_name, He.glo_ok X G (c.t.d.fact 20 (f := .glo "is_name") rfl), b_is_name⟩
  have D_l_mixed : Std K mg "_law_mixed" "_law_mixed" "_law_mixed" s_l_mixed ["_law_script", "_law_k"] := ⟨_, fd_l_mixed, F_l_mixed, He.glo_ok X G (c.t.d.fact 21 (f := .glo "_law_mixed") rfl), b_l_mixed⟩
  have D_l_layout : Std K mg "_law_layout" "_law_layout" "_law_layout" s_l_layout ["_law_cell"] := ⟨_, fd_l_layout, F_l_layout, He.glo_ok X G (c.t.d.fact 22 (f := .glo "_law_layout") rfl), b_l_layout⟩
  have D_l_frame : Std K mg "_law_frame" "_law_frame" "_law_frame" s_l_frame ["_law_script", "_law_at", "_law_most"] := ⟨_, fd_l_frame, F_l_frame, He.glo_ok X G (c.t.d.fact 23 (f := .glo "_law_frame") rfl), b_l_frame⟩
  have D_l_written : Std K mg "_law_written" "_law_written" "_law_written" s_l_written ["_law_frame_here"] := ⟨_, fd_l_written, F_l_written, He.glo_ok X G (c.t.d.fact 24 (f := .glo "_law_written") rfl), b_l_written⟩
  have D_l_name : Std K mg "_law_name" "_law_name" "_law_name" s_l_name ["_law_script", "_law_k"] := ⟨_, fd_l_name, F_l_name, He.glo_ok X G (c.t.d.fact 25 (f := .glo "_law_name") rfl), b_l_name⟩
  have D_l_shown : Std K mg "_law_shown" "_law_shown" "_law_shown" s_l_shown ["_law_standing"] := ⟨_, fd_l_shown, F_l_shown, He.glo_ok X G (c.t.d.fact 26 (f := .glo "_law_shown") rfl), b_l_shown⟩
  have D_l_push : Std K mg "_law_push" "_law_push" "_law_push" s_l_push ["_law_frame_here", "_law_standing", "_law_word", "_law_rod", "_law_beads"] := ⟨_, fd_l_push, F_l_push, He.glo_ok X G (c.t.d.fact 27 (f := .glo "_law_push") rfl), b_l_push⟩
  have D_l_drawn : Std K mg "_law_drawn" "_law_drawn" "_law_drawn" s_l_drawn ["_law_script", "_law_at", "_law_frame_here"] := ⟨_, fd_l_drawn, F_l_drawn, He.glo_ok X G (c.t.d.fact 28 (f := .glo "_law_drawn") rfl), b_l_drawn⟩
  have D_l_all : Std K mg "_law_all" "_law_all" "_law_all" s_l_all ["_law_frame_here", "_law_standing", "_law_moves_here"] := ⟨_, fd_l_all, F_l_all, He.glo_ok X G (c.t.d.fact 29 (f := .glo "_law_all") rfl), b_l_all⟩
  have D_l_slips : Std K mg "_law_slips" "_law_slips" "_law_slips" s_l_slips ["_law_frame_here", "_law_moves_here"] := ⟨_, fd_l_slips, F_l_slips, He.glo_ok X G (c.t.d.fact 30 (f := .glo "_law_slips") rfl), b_l_slips⟩
  have D_l_moves : Std K mg "_law_moves" "_law_moves" "_law_moves" s_l_moves ["_law_script", "_law_k", "_law_frame_here", "_law_standing"] := ⟨_, fd_l_moves, F_l_moves, He.glo_ok X G (c.t.d.fact 31 (f := .glo "_law_moves") rfl), b_l_moves⟩
  have D_l_text : Std K mg "_law_text" "_law_text" "_law_text" s_l_text ["_law_moves_here"] := ⟨_, fd_l_text, F_l_text, He.glo_ok X G (c.t.d.fact 32 (f := .glo "_law_text") rfl), b_l_text⟩
  have D_l_right : Std K mg "_law_right" "_law_right" "_law_right" s_l_right ["_law_desk", "_law_name_here", "_law_frame_here", "_law_standing", "_law_moves_here", "_law_other_here"] := ⟨_, fd_l_right, F_l_right, He.glo_ok X G (c.t.d.fact 33 (f := .glo "_law_right") rfl), b_l_right⟩
  have D_l_other : Std K mg "_law_other" "_law_other" "_law_other" s_l_other ["_law_script", "_law_k", "_law_frame_here", "_law_standing", "_law_moves_here"] := ⟨_, fd_l_other, F_l_other, He.glo_ok X G (c.t.d.fact 34 (f := .glo "_law_other") rfl), b_l_other⟩
  have D_law : Std K mg "law" "law" "law" s_law ["_law_script"] := ⟨_, fd_law, F_law, He.glo_ok X G (c.t.d.fact 35 (f := .glo "law") rfl), b_law⟩
  have D_Move_init_up : StdI K mg "Up" (He.ga K "Up") "Move.__init__" s_Move_init ["self", "rod", "beads"] := ⟨_, fd_Move_init_up, F_Move_init_up, He.mkr_ok (c.t.d.fact 107 (f := .mkr "Up") rfl), He.glo_ok X G (c.t.d.fact 36 (f := .glo "Up") rfl), b_Move_init_up⟩
  have D_Move_init_down : StdI K mg "Down" (He.ga K "Down") "Move.__init__" s_Move_init ["self", "rod", "beads"] := ⟨_, fd_Move_init_down, F_Move_init_down, He.mkr_ok (c.t.d.fact 108 (f := .mkr "Down") rfl), He.glo_ok X G (c.t.d.fact 37 (f := .glo "Down") rfl), b_Move_init_down⟩
  have D_Move_init_put : StdI K mg "Put" (He.ga K "Put") "Move.__init__" s_Move_init ["self", "rod", "beads"] := ⟨_, fd_Move_init_put, F_Move_init_put, He.mkr_ok (c.t.d.fact 109 (f := .mkr "Put") rfl), He.glo_ok X G (c.t.d.fact 38 (f := .glo "Put") rfl), b_Move_init_put⟩
  have D_Move_init_take : StdI K mg "Take" (He.ga K "Take") "Move.__init__" s_Move_init ["self", "rod", "beads"] := ⟨_, fd_Move_init_take, F_Move_init_take, He.mkr_ok (c.t.d.fact 110 (f := .mkr "Take") rfl), He.glo_ok X G (c.t.d.fact 39 (f := .glo "Take") rfl), b_Move_init_take⟩
  have D_Move_done_up : StdM K (He.ga K "Up") "done" "Move.done" s_Move_done ["self", "frame", "standing"] := ⟨_, fd_Move_done_up, F_Move_done_up, He.cls_ok (c.t.d.fact 68 (f := .cls "Up") rfl), He.meth_ok (c.t.d.fact 90 (f := .meth "Up" "done") rfl), b_Move_done_up⟩
  have D_Move_done_down : StdM K (He.ga K "Down") "done" "Move.done" s_Move_done ["self", "frame", "standing"] := ⟨_, fd_Move_done_down, F_Move_done_down, He.cls_ok (c.t.d.fact 69 (f := .cls "Down") rfl), He.meth_ok (c.t.d.fact 93 (f := .meth "Down" "done") rfl), b_Move_done_down⟩
  have D_Move_done_put : StdM K (He.ga K "Put") "done" "Move.done" s_Move_done ["self", "frame", "standing"] := ⟨_, fd_Move_done_put, F_Move_done_put, He.cls_ok (c.t.d.fact 70 (f := .cls "Put") rfl), He.meth_ok (c.t.d.fact 96 (f := .meth "Put" "done") rfl), b_Move_done_put⟩
  have D_Move_done_take : StdM K (He.ga K "Take") "done" "Move.done" s_Move_done ["self", "frame", "standing"] := ⟨_, fd_Move_done_take, F_Move_done_take, He.cls_ok (c.t.d.fact 71 (f := .cls "Take") rfl), He.meth_ok (c.t.d.fact 99 (f := .meth "Take" "done") rfl), b_Move_done_take⟩
  have D_Up_contrary : StdM K (He.ga K "Up") "contrary" "Up.contrary" s_Up_contrary ["self"] := ⟨_, fd_Up_contrary, F_Up_contrary, He.cls_ok (c.t.d.fact 68 (f := .cls "Up") rfl), He.meth_ok (c.t.d.fact 88 (f := .meth "Up" "contrary") rfl), b_Up_contrary⟩
  have D_Up_reached : StdM K (He.ga K "Up") "reached" "Up.reached" s_Up_reached ["self", "layout", "rod_standing"] := ⟨_, fd_Up_reached, F_Up_reached, He.cls_ok (c.t.d.fact 68 (f := .cls "Up") rfl), He.meth_ok (c.t.d.fact 89 (f := .meth "Up" "reached") rfl), b_Up_reached⟩
  have D_Down_contrary : StdM K (He.ga K "Down") "contrary" "Down.contrary" s_Down_contrary ["self"] := ⟨_, fd_Down_contrary, F_Down_contrary, He.cls_ok (c.t.d.fact 69 (f := .cls "Down") rfl), He.meth_ok (c.t.d.fact 91 (f := .meth "Down" "contrary") rfl), b_Down_contrary⟩
  have D_Down_reached : StdM K (He.ga K "Down") "reached" "Down.reached" s_Down_reached ["self", "layout", "rod_standing"] := ⟨_, fd_Down_reached, F_Down_reached, He.cls_ok (c.t.d.fact 69 (f := .cls "Down") rfl), He.meth_ok (c.t.d.fact 92 (f := .meth "Down" "reached") rfl), b_Down_reached⟩
  have D_Put_contrary : StdM K (He.ga K "Put") "contrary" "Put.contrary" s_Put_contrary ["self"] := ⟨_, fd_Put_contrary, F_Put_contrary, He.cls_ok (c.t.d.fact 70 (f := .cls "Put") rfl), He.meth_ok (c.t.d.fact 94 (f := .meth "Put" "contrary") rfl), b_Put_contrary⟩
  have D_Put_reached : StdM K (He.ga K "Put") "reached" "Put.reached" s_Put_reached ["self", "layout", "rod_standing"] := ⟨_, fd_Put_reached, F_Put_reached, He.cls_ok (c.t.d.fact 70 (f := .cls "Put") rfl), He.meth_ok (c.t.d.fact 95 (f := .meth "Put" "reached") rfl), b_Put_reached⟩
  have D_Take_contrary : StdM K (He.ga K "Take") "contrary" "Take.contrary" s_Take_contrary ["self"] := ⟨_, fd_Take_contrary, F_Take_contrary, He.cls_ok (c.t.d.fact 71 (f := .cls "Take") rfl), He.meth_ok (c.t.d.fact 97 (f := .meth "Take" "contrary") rfl), b_Take_contrary⟩
  have D_Take_reached : StdM K (He.ga K "Take") "reached" "Take.reached" s_Take_reached ["self", "layout", "rod_standing"] := ⟨_, fd_Take_reached, F_Take_reached, He.cls_ok (c.t.d.fact 71 (f := .cls "Take") rfl), He.meth_ok (c.t.d.fact 98 (f := .meth "Take" "reached") rfl), b_Take_reached⟩
  have D_Kept_init : StdI K mg "Kept" (He.ga K "Kept") "Kept.__init__" s_Kept_init ["self", "frame"] := ⟨_, fd_Kept_init, F_Kept_init, He.mkr_ok (c.t.d.fact 111 (f := .mkr "Kept") rfl), He.glo_ok X G (c.t.d.fact 40 (f := .glo "Kept") rfl), b_Kept_init⟩
  have D_Kept_push_row : StdM K (He.ga K "Kept") "push_row" "Kept.push_row" s_Kept_push_row ["self", "row"] := ⟨_, fd_Kept_push_row, F_Kept_push_row, He.cls_ok (c.t.d.fact 72 (f := .cls "Kept") rfl), He.meth_ok (c.t.d.fact 100 (f := .meth "Kept" "push_row") rfl), b_Kept_push_row⟩
  have D_Kept_pull_back : StdM K (He.ga K "Kept") "pull_back" "Kept.pull_back" s_Kept_pull_back ["self"] := ⟨_, fd_Kept_pull_back, F_Kept_pull_back, He.cls_ok (c.t.d.fact 72 (f := .cls "Kept") rfl), He.meth_ok (c.t.d.fact 101 (f := .meth "Kept" "pull_back") rfl), b_Kept_pull_back⟩
  have D_Desk_init : StdI K mg "Desk" (He.ga K "Desk") "Desk.__init__" s_Desk_init ["self"] := ⟨_, fd_Desk_init, F_Desk_init, He.mkr_ok (c.t.d.fact 112 (f := .mkr "Desk") rfl), He.glo_ok X G (c.t.d.fact 41 (f := .glo "Desk") rfl), b_Desk_init⟩
  have D_Desk_kept : StdM K (He.ga K "Desk") "kept" "Desk.kept" s_Desk_kept ["self", "name"] := ⟨_, fd_Desk_kept, F_Desk_kept, He.cls_ok (c.t.d.fact 73 (f := .cls "Desk") rfl), He.meth_ok (c.t.d.fact 102 (f := .meth "Desk" "kept") rfl), b_Desk_kept⟩
  have D_Desk_say : StdM K (He.ga K "Desk") "say" "Desk.say" s_Desk_say ["self", "row"] := ⟨_, fd_Desk_say, F_Desk_say, He.cls_ok (c.t.d.fact 73 (f := .cls "Desk") rfl), He.meth_ok (c.t.d.fact 103 (f := .meth "Desk" "say") rfl), b_Desk_say⟩
  have D_Desk_lay : StdM K (He.ga K "Desk") "lay" "Desk.lay" s_Desk_lay ["self", "words"] := ⟨_, fd_Desk_lay, F_Desk_lay, He.cls_ok (c.t.d.fact 73 (f := .cls "Desk") rfl), He.meth_ok (c.t.d.fact 104 (f := .meth "Desk" "lay") rfl), b_Desk_lay⟩
  have D_Desk_move : StdM K (He.ga K "Desk") "move" "Desk.move" s_Desk_move ["self", "rest"] := ⟨_, fd_Desk_move, F_Desk_move, He.cls_ok (c.t.d.fact 73 (f := .cls "Desk") rfl), He.meth_ok (c.t.d.fact 105 (f := .meth "Desk" "move") rfl), b_Desk_move⟩
  have D_Desk_slip : StdM K (He.ga K "Desk") "slip" "Desk.slip" s_Desk_slip ["self", "rest"] := ⟨_, fd_Desk_slip, F_Desk_slip, He.cls_ok (c.t.d.fact 73 (f := .cls "Desk") rfl), He.meth_ok (c.t.d.fact 106 (f := .meth "Desk" "slip") rfl), b_Desk_slip⟩
  have T := bas_of X G c
  have TC := cla_of X G c
  have U := stk_of X G c F_Stuck_init b_Stuck_init
  obtain ⟨es, n, SH⟩ := shp_of X G c
  have bA := FunD.bindsA (ps := ["_law_script"]) F_law fun _ _ _ _ _ _ us hl => match us, hl with | [_], _ => rfl
  refine ⟨He.glo_ok X G (c.t.d.fact 35 (f := .glo "law") rfl), fd_law, fun s v => bA s [v] rfl, fun base => ?_⟩
  have f_is_whole : Cal P w K mg base CX0 "is_whole" ["thing"] 1 spWhole := ok_is_whole T D_is_whole
  have f_full_worth : Cal P w K mg base CX0 "full_worth" ["layout"] 1 spFull := ok_full_worth T D_full_worth
  have f_is_layout : Cal P w K mg base CX0 "is_layout" ["thing"] 2 spIsLay := ok_is_layout T f_is_whole f_full_worth D_is_layout
  have f_small_number_layouts : Cal P w K mg base CX0 "small_number_layouts" ["word"] 1 spSmallL := ok_small_number_layouts T D_small_number_layouts
  have f_read_layout : Cal P w K mg base CX0 "read_layout" ["text"] 3 spRdLay := ok_read_layout T f_small_number_layouts f_is_layout D_read_layout
  have f_clear_of : Cal P w K mg base CX0 "clear_of" ["frame"] 1 spClear := ok_clear_of T D_clear_of
  have f__law_push : Cal P w K mg base CX0 "_law_push" ["_law_frame_here", "_law_standing", "_law_word", "_law_rod", "_law_beads"] 1 spPush := ok_push T D_l_push
  have m_Up : Mkr P w K mg base CX0 "Up" ((AK K).mv .up) ["self", "rod", "beads"] 1 (spMvI (AK K)) := ok_mvinit T TC D_Move_init_up
  have m_Down : Mkr P w K mg base CX0 "Down" ((AK K).mv .down) ["self", "rod", "beads"] 1 (spMvI (AK K)) := ok_mvinit T TC D_Move_init_down
  have m_Put : Mkr P w K mg base CX0 "Put" ((AK K).mv .put) ["self", "rod", "beads"] 1 (spMvI (AK K)) := ok_mvinit T TC D_Move_init_put
  have m_Take : Mkr P w K mg base CX0 "Take" ((AK K).mv .take) ["self", "rod", "beads"] 1 (spMvI (AK K)) := ok_mvinit T TC D_Move_init_take
  have t_contrary_up : Met P w K mg base CX0 ((AK K).mv .up) "contrary" ["self"] 3 (spCon (AK K) .up) := ok_con_up T TC m_Down D_Up_contrary
  have t_reached_up : Met P w K mg base CX0 ((AK K).mv .up) "reached" ["self", "layout", "rod_standing"] 1 (spRea (AK K) .up) := ok_rea_up T TC D_Up_reached
  have t_contrary_down : Met P w K mg base CX0 ((AK K).mv .down) "contrary" ["self"] 3 (spCon (AK K) .down) := ok_con_down T TC m_Up D_Down_contrary
  have t_reached_down : Met P w K mg base CX0 ((AK K).mv .down) "reached" ["self", "layout", "rod_standing"] 1 (spRea (AK K) .down) := ok_rea_down T TC D_Down_reached
  have t_contrary_put : Met P w K mg base CX0 ((AK K).mv .put) "contrary" ["self"] 3 (spCon (AK K) .put) := ok_con_put T TC m_Take D_Put_contrary
  have t_reached_put : Met P w K mg base CX0 ((AK K).mv .put) "reached" ["self", "layout", "rod_standing"] 1 (spRea (AK K) .put) := ok_rea_put T TC D_Put_reached
  have t_contrary_take : Met P w K mg base CX0 ((AK K).mv .take) "contrary" ["self"] 3 (spCon (AK K) .take) := ok_con_take T TC m_Put D_Take_contrary
  have t_reached_take : Met P w K mg base CX0 ((AK K).mv .take) "reached" ["self", "layout", "rod_standing"] 1 (spRea (AK K) .take) := ok_rea_take T TC D_Take_reached
  have t_contrary : ∀ k, Met P w K mg base CX0 ((AK K).mv k) "contrary" ["self"] 3 (spCon (AK K) k) := fun k => by cases k <;> assumption
  have t_done_up : Met P w K mg base (L2N.CX P w) ((AK K).mv .up) "done" ["self", "frame", "standing"] 3 (spDone (AK K) .up) := ok_done T TC U t_reached_up D_Move_done_up
  have t_done_down : Met P w K mg base (L2N.CX P w) ((AK K).mv .down) "done" ["self", "frame", "standing"] 3 (spDone (AK K) .down) := ok_done T TC U t_reached_down D_Move_done_down
  have t_done_put : Met P w K mg base (L2N.CX P w) ((AK K).mv .put) "done" ["self", "frame", "standing"] 3 (spDone (AK K) .put) := ok_done T TC U t_reached_put D_Move_done_put
  have t_done_take : Met P w K mg base (L2N.CX P w) ((AK K).mv .take) "done" ["self", "frame", "standing"] 3 (spDone (AK K) .take) := ok_done T TC U t_reached_take D_Move_done_take
  have t_done : ∀ k, Met P w K mg base (L2N.CX P w) ((AK K).mv k) "done" ["self", "frame", "standing"] 3 (spDone (AK K) k) := fun k => by cases k <;> assumption
  have f_done_all : Cal P w K mg base (L2.CX P w) "done_all" ["frame", "standing", "row"] 4 (spDoneAll (AK K)) := ok_done_all T TC U t_done D_done_all
  have f_like : Cal P w K mg base CX0 "like" ["move", "rod", "beads"] 3 (spLike (AK K)) := ok_like T TC m_Up m_Down m_Put m_Take D_like
  have f_slips_at : Cal P w K mg base CX0 "slips_at" ["frame", "row", "at"] 4 (spSlipsAt (AK K)) := ok_slips_at T TC f_like D_slips_at
  have f_with_slip : Cal P w K mg base CX0 "with_slip" ["row", "slip"] 1 (spWithSlip (AK K)) := ok_with_slip T D_with_slip
  have f_leads_to : Cal P w K mg base CX0 "leads_to" ["frame", "standing", "row", "other"] 5 (spLeads (AK K)) := ok_leads_to T U f_done_all D_leads_to
  have f_slips_of : Cal P w K mg base CX0 "slips_of" ["frame", "standing", "row", "other"] 6 (spSlipsOf (AK K)) := ok_slips_of T f_slips_at f_with_slip f_leads_to D_slips_of
  have f_small_number_moves : Cal P w K mg base CX0 "small_number_moves" ["word"] 1 spSmallL := ok_small_number_moves T D_small_number_moves
  have f_read_move : Cal P w K mg base CX0 "read_move" ["text"] 3 (spRdMove (AK K)) := ok_read_move T TC m_Up m_Down m_Put m_Take f_small_number_moves D_read_move
  have f_read_row : Cal P w K mg base CX0 "read_row" ["text"] 4 (spRdRow (AK K)) := ok_read_row T f_read_move D_read_row
  have f_is_name : Cal P w K mg base CX0 "is_name" ["word"] 1 spIsName := ok_is_name T D_is_name
  have f_read_rod : Cal P w K mg base CX0 "read_rod" ["layout", "word"] 2 spRdRod := ok_read_rod T f_small_number_layouts D_read_rod
  have f_read_standing : Cal P w K mg base CX0 "read_standing" ["frame", "text"] 3 spRdStd := ok_read_standing T f_read_rod D_read_standing
  have f_shown_standing : Cal P w K mg base CX0 "shown_standing" ["standing"] 1 spShown := ok_shown_standing T D_shown_standing
  have m_Kept : Mkr P w K mg base CX0 "Kept" (AK K).kept ["self", "frame"] 2 (spKeptI (AK K)) := ok_kept_init T TC f_clear_of D_Kept_init
  have t_push_row : Met P w K mg base CX0 (AK K).kept "push_row" ["self", "row"] 5 (spPushRow (AK K)) := ok_push_row T TC f_done_all D_Kept_push_row
  have t_pull_back : Met P w K mg base CX0 (AK K).kept "pull_back" ["self"] 5 (spPull (AK K)) := ok_pull_back T TC t_contrary t_done D_Kept_pull_back
  have f_word_fits : Cal P w K mg base CX0 "word_fits" ["kind", "word"] 2 spFits := ok_word_fits T f_is_name D_word_fits
  have f_look_at : Cal P w K mg base CX0 "look_at" ["words", "shape"] 3 (spLook K) := ok_look_at T f_word_fits D_look_at
  have m_Desk : Mkr P w K mg base CX0 "Desk" (AK K).desk ["self"] 1 (spDeskI (AK K)) := ok_desk_init T TC D_Desk_init
  have t_kept : Met P w K mg base CX0 (AK K).desk "kept" ["self", "name"] 1 (spDKept (AK K)) := ok_desk_kept T TC D_Desk_kept
  have t_lay : Met P w K mg base CX0 (AK K).desk "lay" ["self", "words"] 4 (spLay (AK K)) := ok_desk_lay T TC f_is_name f_read_layout m_Kept D_Desk_lay
  have t_move : Met P w K mg base CX0 (AK K).desk "move" ["self", "rest"] 6 (spMove (AK K)) := ok_desk_move T TC f_is_name t_kept t_push_row f_read_row f_shown_standing D_Desk_move
  have t_slip : Met P w K mg base CX0 (AK K).desk "slip" ["self", "rest"] 7 (spSlip (AK K)) := ok_desk_slip T TC f_is_name t_kept f_read_standing f_read_row f_slips_of D_Desk_slip
  have t_say : Met P w K mg base CX0 (AK K).desk "say" ["self", "row"] 8 (spSay (AK K)) := ok_desk_say T TC SH t_lay t_move t_slip t_kept f_look_at t_pull_back f_shown_standing D_Desk_say
  have f__law_mixed : Cal P w K mg base CX0 "_law_mixed" ["_law_script", "_law_k"] 1 (spMixed K) := ok_l_mixed T D_l_mixed
  have f__law_layout : Cal P w K mg base CX0 "_law_layout" ["_law_cell"] 1 spLLay := ok_l_layout T D_l_layout
  have f__law_frame : Cal P w K mg base CX0 "_law_frame" ["_law_script", "_law_at", "_law_most"] 2 (spLFrame K) := ok_l_frame T f__law_mixed f__law_layout D_l_frame
  have f__law_written : Cal P w K mg base CX0 "_law_written" ["_law_frame_here"] 1 spLWritten := ok_l_written T D_l_written
  have f__law_name : Cal P w K mg base CX0 "_law_name" ["_law_script", "_law_k"] 2 (spLName K) := ok_l_name T f__law_mixed D_l_name
  have f__law_shown : Cal P w K mg base CX0 "_law_shown" ["_law_standing"] 1 spShown := ok_l_shown T D_l_shown
  have f__law_drawn : Cal P w K mg base CX0 "_law_drawn" ["_law_script", "_law_at", "_law_frame_here"] 2 (spLDrawn K) := ok_l_drawn T f__law_mixed D_l_drawn
  have f__law_all : Cal P w K mg base CX0 "_law_all" ["_law_frame_here", "_law_standing", "_law_moves_here"] 2 spLAll := ok_l_all T f__law_push D_l_all
  have f__law_text : Cal P w K mg base CX0 "_law_text" ["_law_moves_here"] 1 spLText := ok_l_text T D_l_text
  have f__law_slips : Cal P w K mg base CX0 "_law_slips" ["_law_frame_here", "_law_moves_here"] 1 spLSlips := ok_l_slips T D_l_slips
  have f__law_moves : Cal P w K mg base CX0 "_law_moves" ["_law_script", "_law_k", "_law_frame_here", "_law_standing"] 2 (spLMoves K) := ok_l_moves T f__law_mixed f__law_push D_l_moves
  have f__law_right : Cal P w K mg base CX0 "_law_right" ["_law_desk", "_law_name_here", "_law_frame_here", "_law_standing", "_law_moves_here", "_law_other_here"] 9 (spLRight (AK K)) := ok_l_right T TC f__law_slips f__law_all f__law_shown f__law_text t_say D_l_right
  have f__law_other : Cal P w K mg base CX0 "_law_other" ["_law_script", "_law_k", "_law_frame_here", "_law_standing", "_law_moves_here"] 3 (spLOther K) := ok_l_other T f__law_mixed f__law_slips f__law_all f__law_drawn D_l_other
  exact ok_law T TC m_Desk f__law_name f__law_frame f__law_written f__law_drawn f__law_text f__law_shown f__law_moves f__law_other f__law_right f__law_all t_say F_law
end BF
open PySem PySem.W PySem.Calls PyProof.Rows
theorem PySem.Challenge.cw_beadframe_k95_slips_at_the_desk_holds : PySem.Challenge.rw_beadframe_k95_slips_at_the_desk.Holds := by
  refine BfHe.top ?_
  refine L2.walk_ofE (l := PySem.Challenge.rw_beadframe_k95_slips_at_the_desk) (n := 63) (k := 10) (x := "_law_script") (CX := L2.CX0) rfl (by decide) (by kernel_rfl) ⟨rfl, by decide, by decide⟩ ?F (fun _ _ _ _ z => z)
  intro w mg fa h Y G hmg0
  obtain ⟨K, KX, c⟩ := Y
  have hmg : mg ("law" : PySem.Str) = some (.ref fa) := by
    have e : (HandSHeadRun.topDef (OpenLaw.row PySem.Challenge.rw_beadframe_k95_slips_at_the_desk).prog 143).name = ("law" : PySem.Str) := by kernel_rfl
    rw [← e]
    exact hmg0
  obtain ⟨e1, fd, hb, hF⟩ := BF.facts (P := (PySem.Challenge.rw_beadframe_k95_slips_at_the_desk).prog) (w := w) KX G c
  have e2 := hmg.symm.trans e1
  cases e2
  exact ⟨K, fd, BF.spLaw K, KX, hb, fun H a ns hl _ hS => ⟨a, ns, rfl, hS, hl, fun _ => rfl⟩, fun base _ _ => hF base⟩
