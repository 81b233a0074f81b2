import PyProof.Rows.All
import Wide.All
import OpenK.AllK
import Wide.FinOn
import HandS.ForMost
import HandS.Wide
import HandS.Gcd
import HandS.Deep
import HandS.TryOnly
import HandS.ExcOwn
import HandS.WordsExc
import HandS.TupAny
import HandS.IsInst
import HandS.CallSlots
import HandS.Flow
import HandS.More
import HandS.Zip
import HandS.WideMore
import PyProof.ExcBaseAll.ValueError
import HandS.Defaults
import HandS.HeadHook4
import HandS.HeadEnd
import HandS.Head0
import HandS.Head1
import HandS.Head2
import HandS.Head3
import PySem.Challenge.RW_fairmarks_k04_middles_and_quantiles
set_option Elab.async false
set_option linter.all false
set_option maxRecDepth 100000
set_option maxHeartbeats 4000000
/-! Ev, part A: trees of data, how they lie in the abstract heap. -/
namespace Ev
open PySem PySem.Spec PyProof.Rows L2

/-- a node that may be changed: by its holder alone; lent for reading; never again -/
inductive Ow where | own | lent | frz
  deriving DecidableEq
/-- a dict's key -/
inductive DK where | k (a : Key) | t (l : List Key)
  deriving DecidableEq
inductive D where
  | non | bl (b : Bool) | int (i : Int) | str (x : Str)
  | tup (xs : List D)
  | lst (o : Ow) (xs : List D)
  | dct (o : Ow) (kvs : List (DK × D))
  | ins (o : Ow) (c : Str) (fs : List (Str × D))

mutual
def isFrz : D → Bool
  | .tup xs => frzL xs
  | .lst o xs => decide (o = .frz) && frzL xs
  | .dct o kvs => decide (o = .frz) && frzP kvs
  | .ins o _ fs => decide (o = .frz) && frzF fs
  | .non => true | .bl _ => true | .int _ => true | .str _ => true
def frzL : List D → Bool
  | [] => true
  | d :: r => isFrz d && frzL r
def frzP : List (DK × D) → Bool
  | [] => true
  | (_, d) :: r => isFrz d && frzP r
def frzF : List (Str × D) → Bool
  | [] => true
  | (_, d) :: r => isFrz d && frzF r
end
mutual
/-- no node of it is lent -/
def canFrz : D → Bool
  | .tup xs => canL xs
  | .lst o xs => decide (o ≠ .lent) && canL xs
  | .dct o kvs => decide (o ≠ .lent) && canP kvs
  | .ins o _ fs => decide (o ≠ .lent) && canF fs
  | .non => true | .bl _ => true | .int _ => true | .str _ => true
def canL : List D → Bool
  | [] => true
  | d :: r => canFrz d && canL r
def canP : List (DK × D) → Bool
  | [] => true
  | (_, d) :: r => canFrz d && canP r
def canF : List (Str × D) → Bool
  | [] => true
  | (_, d) :: r => canFrz d && canF r
end
def Ow.fz : Ow → Ow | _ => .frz
mutual
def freeze : D → D
  | .tup xs => .tup (freezeL xs)
  | .lst _ xs => .lst .frz (freezeL xs)
  | .dct _ kvs => .dct .frz (freezeP kvs)
  | .ins _ c fs => .ins .frz c (freezeF fs)
  | .non => .non | .bl b => .bl b | .int i => .int i | .str x => .str x
def freezeL : List D → List D
  | [] => []
  | d :: r => freeze d :: freezeL r
def freezeP : List (DK × D) → List (DK × D)
  | [] => []
  | (k, d) :: r => (k, freeze d) :: freezeP r
def freezeF : List (Str × D) → List (Str × D)
  | [] => []
  | (k, d) :: r => (k, freeze d) :: freezeF r
end
def Ow.ln : Ow → Ow | .frz => .frz | _ => .lent
mutual
def lend : D → D
  | .tup xs => .tup (lendL xs)
  | .lst o xs => .lst o.ln (lendL xs)
  | .dct o kvs => .dct o.ln (lendP kvs)
  | .ins o c fs => .ins o.ln c (lendF fs)
  | .non => .non | .bl b => .bl b | .int i => .int i | .str x => .str x
def lendL : List D → List D
  | [] => []
  | d :: r => lend d :: lendL r
def lendP : List (DK × D) → List (DK × D)
  | [] => []
  | (k, d) :: r => (k, lend d) :: lendP r
def lendF : List (Str × D) → List (Str × D)
  | [] => []
  | (k, d) :: r => (k, lend d) :: lendF r
end

/-! ### footprints: how often an address is held (true: as its owner, false: lent) -/
abbrev Ft := Addr → Bool → Nat
def fo0 : Ft := fun _ _ => 0
def foA (A B : Ft) : Ft := fun b x => A b x + B b x
def fo1 (a : Addr) (y : Bool) : Ft := fun b x => if b = a ∧ x = y then 1 else 0
instance : Add Ft := ⟨foA⟩
instance : Zero Ft := ⟨fo0⟩
theorem add_at (A B : Ft) (b : Addr) (x : Bool) : (A + B) b x = A b x + B b x := rfl
theorem zero_at (b : Addr) (x : Bool) : (0 : Ft) b x = 0 := rfl
theorem one_at (a b : Addr) (x y : Bool) : fo1 a y b x = if b = a ∧ x = y then 1 else 0 := rfl
theorem ft_ext {A B : Ft} (h : ∀ b x, A b x = B b x) : A = B := funext fun b => funext fun x => h b x
theorem add0 (A : Ft) : A + 0 = A := ft_ext fun b x => by rw [add_at, zero_at]; omega
theorem zero_add' (A : Ft) : 0 + A = A := ft_ext fun b x => by rw [add_at, zero_at]; omega
theorem add_comm' (A B : Ft) : A + B = B + A := ft_ext fun b x => by rw [add_at, add_at]; omega
theorem add_assoc' (A B C : Ft) : A + B + C = A + (B + C) := ft_ext fun b x => by simp only [add_at]; omega

/-- the heaps at hand: what stays for good, what stays for now, all -/
structure Hs where
  F : Hp
  R : Hp
  H : Hp
/-- what stands at a node's address -/
def hpO (w : Hs) : Ow → Addr → HO → Prop
  | .own, a, u => w.H a = some u
  | .lent, a, u => Rd w.R a u
  | .frz, a, u => Rd w.F a u
def foO (a : Addr) : Ow → Ft | .own => fo1 a true | .lent => fo1 a false | .frz => 0

def LAt (K : PySem.W.Frag) (w : Hs) : Ow → Addr → List V → Prop
  | .own, a, vs => w.H a = some (.lst vs)
  | .lent, a, vs => Rd w.R a (.lst vs)
  | .frz, a, vs => SqL K w.F a vs
section
variable (K : PySem.W.Frag) (cl : Str → Option Addr)
def kV' : Key → V := kV
/-- a dict's object -/
def dkO (ks : List DK) (vs : List V) (u : HO) : Prop :=
  (∃ kks : List Key, ks = kks.map DK.k ∧ u = .dK (kks.zip vs) ∧ kks.length = vs.length) ∨
  (∃ kks : List (List Key), ks = kks.map DK.t ∧ u = .dT (kks.zip vs) ∧ kks.length = vs.length)
mutual
def T (w : Hs) : D → V → Ft → Prop
  | .non, v, A => v = .non ∧ A = 0
  | .bl b, v, A => v = .bl b ∧ A = 0
  | .int i, v, A => v = .int i ∧ A = 0
  | .str x, v, A => v = .str x ∧ A = 0
  | .tup ds, v, A => ∃ a vs, v = .ref a ∧ SqT K w.F a vs ∧ Ts w ds vs A
  | .lst o ds, v, A => ∃ a vs B, v = .ref a ∧ LAt K w o a vs ∧ Ts w ds vs B ∧ A = B + foO a o
  | .dct o kvs, v, A => ∃ a vs u B, v = .ref a ∧ hpO w o a u ∧ dkO (kvs.map (·.1)) vs u ∧ Tp w kvs vs B ∧ A = B + foO a o
  | .ins o c fs, v, A => ∃ a C dx vs B, v = .ref a ∧ cl c = some C ∧ hpO w o a (.ins C dx ((fs.map (·.1)).zip vs)) ∧ Tf w fs vs B ∧ A = B + foO a o
def Ts (w : Hs) : List D → List V → Ft → Prop
  | [], vs, A => vs = [] ∧ A = 0
  | d :: r, vs, A => ∃ v vr A1 A2, vs = v :: vr ∧ T w d v A1 ∧ Ts w r vr A2 ∧ A = A1 + A2
def Tp (w : Hs) : List (DK × D) → List V → Ft → Prop
  | [], vs, A => vs = [] ∧ A = 0
  | (_, d) :: r, vs, A => ∃ v vr A1 A2, vs = v :: vr ∧ T w d v A1 ∧ Tp w r vr A2 ∧ A = A1 + A2
def Tf (w : Hs) : List (Str × D) → List V → Ft → Prop
  | [], vs, A => vs = [] ∧ A = 0
  | (_, d) :: r, vs, A => ∃ v vr A1 A2, vs = v :: vr ∧ T w d v A1 ∧ Tf w r vr A2 ∧ A = A1 + A2
end
end
end Ev

/-! Ev, part B: laws of the trees. -/
namespace Ev
open PySem PySem.Spec PyProof.Rows L2

/-- what is read of H is read of H' -/
def Sm (H H' : Hp) : Prop := ∀ b u, Rd H b u → Rd H' b u
theorem Sm.refl (H : Hp) : Sm H H := fun _ _ h => h
theorem Sm.trans {H H1 H2 : Hp} (a : Sm H H1) (b : Sm H1 H2) : Sm H H2 := fun c o h => b c o (a c o h)
theorem Sm.seq {K : PySem.W.Frag} {H H' : Hp} {a : Addr} {xs : List V} (e : Sm H H') (h : SqL K H a xs) : SqL K H' a xs := by
  rcases h with h | h
  · exact .inl (e _ _ h)
  · exact .inr h
theorem Sm.of {H H' : Hp} (e : Same H H') : Sm H H' := fun b u h => by
  rcases h with h | ⟨o, h⟩
  · exact .inl (e _ _ h)
  · exact .inr ⟨o, e _ _ h⟩
theorem rd_nn {H : Hp} {b : Addr} {u : HO} (h : Rd H b u) : H b ≠ none := by
  rcases h with h | ⟨o, h⟩ <;> rw [h] <;> simp
theorem rd_ex {H : Hp} {b : Addr} (h : H b ≠ none) : ∃ u, Rd H b u := by
  obtain ⟨o, q⟩ := Option.ne_none_iff_exists'.mp h
  exact ⟨o, .inl q⟩
theorem Sm.nn {H H' : Hp} (e : Sm H H') {b : Addr} (h : H b ≠ none) : H' b ≠ none := by
  obtain ⟨u, q⟩ := rd_ex h
  exact rd_nn (e b u q)
theorem rd_eq {H H' : Hp} {b : Addr} {u : HO} (h : H b = H' b) (r : Rd H b u) : Rd H' b u := by
  rcases r with r | ⟨o, r⟩
  · exact .inl (h ▸ r)
  · exact .inr ⟨o, h ▸ r⟩
/-- what stays from w to w' for one who holds A -/
structure Kp (w w' : Hs) (A : Ft) : Prop where
  F : Sm w.F w'.F
  R : ∀ b o, 0 < A b false → Rd w.R b o → Rd w'.R b o
  H : ∀ b o, 0 < A b true → w.H b = some o → w'.H b = some o
theorem Kp.refl (w : Hs) (A : Ft) : Kp w w A := ⟨Sm.refl _, fun _ _ _ h => h, fun _ _ _ h => h⟩
theorem Kp.trans {w w1 w2 : Hs} {A : Ft} (a : Kp w w1 A) (b : Kp w1 w2 A) : Kp w w2 A := ⟨a.F.trans b.F, fun c o p h => b.R c o p (a.R c o p h), fun c o p h => b.H c o p (a.H c o p h)⟩
theorem Kp.sub {w w' : Hs} {A B : Ft} (a : Kp w w' A) (h : ∀ b x, 0 < B b x → 0 < A b x) : Kp w w' B := ⟨a.F, fun b o p => a.R b o (h b _ p), fun b o p => a.H b o (h b _ p)⟩
theorem Kp.left {w w' : Hs} {A B : Ft} (a : Kp w w' (A + B)) : Kp w w' A := a.sub fun b x h => by rw [add_at]; omega
theorem Kp.right {w w' : Hs} {A B : Ft} (a : Kp w w' (A + B)) : Kp w w' B := a.sub fun b x h => by rw [add_at]; omega
theorem same_seqT {K : PySem.W.Frag} {H H' : Hp} {a : Addr} {xs : List V} (e : Sm H H') (h : SqT K H a xs) : SqT K H' a xs := by
  rcases h with h | h
  · exact .inl (e _ _ h)
  · exact .inr h
theorem fo1_self (a : Addr) (x : Bool) : 0 < fo1 a x a x := by rw [one_at, if_pos ⟨rfl, rfl⟩]; omega
theorem foO_own (a : Addr) (B : Ft) : 0 < (B + foO a .own) a true := by rw [add_at]; show 0 < B a true + fo1 a true a true; have := fo1_self a true; omega
theorem foO_lent (a : Addr) (B : Ft) : 0 < (B + foO a .lent) a false := by rw [add_at]; show 0 < B a false + fo1 a false a false; have := fo1_self a false; omega

section
variable {K : PySem.W.Frag} {cl : Str → Option Addr} {w w' : Hs}
theorem LAt.keep {o : Ow} {a : Addr} {vs : List V} {B : Ft} (k : Kp w w' (B + foO a o)) (h : LAt K w o a vs) : LAt K w' o a vs := by
  cases o with
  | own => exact k.H a _ (foO_own a B) h
  | lent => exact k.R a _ (foO_lent a B) h
  | frz => exact k.F.seq h
theorem hpO.keep {o : Ow} {a : Addr} {u : HO} {B : Ft} (k : Kp w w' (B + foO a o)) (h : hpO w o a u) : hpO w' o a u := by
  cases o with
  | own => exact k.H a _ (foO_own a B) h
  | lent => exact k.R a _ (foO_lent a B) h
  | frz => exact k.F _ _ h
mutual
theorem T.keep : ∀ (d : D) (v : V) (A : Ft), Kp w w' A → T K cl w d v A → T K cl w' d v A
  | .non, v, A, _, h => by unfold T at h ⊢; exact h
  | .bl b, v, A, _, h => by unfold T at h ⊢; exact h
  | .int i, v, A, _, h => by unfold T at h ⊢; exact h
  | .str x, v, A, _, h => by unfold T at h ⊢; exact h
  | .tup ds, v, A, k, h => by
    unfold T at h ⊢
    obtain ⟨a, vs, e, s, t⟩ := h
    exact ⟨a, vs, e, same_seqT k.F s, Ts.keep ds vs A k t⟩
  | .lst o ds, v, A, k, h => by
    unfold T at h ⊢
    obtain ⟨a, vs, B, e, s, t, rfl⟩ := h
    exact ⟨a, vs, B, e, s.keep k, Ts.keep ds vs B k.left t, rfl⟩
  | .dct o kvs, v, A, k, h => by
    unfold T at h ⊢
    obtain ⟨a, vs, u, B, e, s, z, t, rfl⟩ := h
    exact ⟨a, vs, u, B, e, hpO.keep k s, z, Tp.keep kvs vs B k.left t, rfl⟩
  | .ins o c fs, v, A, k, h => by
    unfold T at h ⊢
    obtain ⟨a, C, dx, vs, B, e, z, s, t, rfl⟩ := h
    exact ⟨a, C, dx, vs, B, e, z, hpO.keep k s, Tf.keep fs vs B k.left t, rfl⟩
theorem Ts.keep : ∀ (ds : List D) (vs : List V) (A : Ft), Kp w w' A → Ts K cl w ds vs A → Ts K cl w' ds vs A
  | [], vs, A, _, h => by unfold Ts at h ⊢; exact h
  | d :: r, vs, A, k, h => by
    unfold Ts at h ⊢
    obtain ⟨v, vr, A1, A2, e, t, s, rfl⟩ := h
    exact ⟨v, vr, A1, A2, e, T.keep d v A1 k.left t, Ts.keep r vr A2 k.right s, rfl⟩
theorem Tp.keep : ∀ (ds : List (DK × D)) (vs : List V) (A : Ft), Kp w w' A → Tp K cl w ds vs A → Tp K cl w' ds vs A
  | [], vs, A, _, h => by unfold Tp at h ⊢; exact h
  | (_, d) :: r, vs, A, k, h => by
    unfold Tp at h ⊢
    obtain ⟨v, vr, A1, A2, e, t, s, rfl⟩ := h
    exact ⟨v, vr, A1, A2, e, T.keep d v A1 k.left t, Tp.keep r vr A2 k.right s, rfl⟩
theorem Tf.keep : ∀ (ds : List (Str × D)) (vs : List V) (A : Ft), Kp w w' A → Tf K cl w ds vs A → Tf K cl w' ds vs A
  | [], vs, A, _, h => by unfold Tf at h ⊢; exact h
  | (_, d) :: r, vs, A, k, h => by
    unfold Tf at h ⊢
    obtain ⟨v, vr, A1, A2, e, t, s, rfl⟩ := h
    exact ⟨v, vr, A1, A2, e, T.keep d v A1 k.left t, Tf.keep r vr A2 k.right s, rfl⟩
end

/-! frozen data holds nothing -/
mutual
theorem T.frz0 : ∀ (d : D) (v : V) (A : Ft), isFrz d = true → T K cl w d v A → A = 0
  | .non, v, A, _, h => by unfold T at h; exact h.2
  | .bl b, v, A, _, h => by unfold T at h; exact h.2
  | .int i, v, A, _, h => by unfold T at h; exact h.2
  | .str x, v, A, _, h => by unfold T at h; exact h.2
  | .tup ds, v, A, f, h => by
    unfold T at h; unfold isFrz at f
    obtain ⟨a, vs, e, s, t⟩ := h
    exact Ts.frz0 ds vs A f t
  | .lst o ds, v, A, f, h => by
    unfold T at h; unfold isFrz at f
    rw [Bool.and_eq_true, decide_eq_true_eq] at f
    obtain ⟨rfl, f⟩ := f
    obtain ⟨a, vs, B, e, s, t, rfl⟩ := h
    rw [Ts.frz0 ds vs B f t]; exact add0 _
  | .dct o kvs, v, A, f, h => by
    unfold T at h; unfold isFrz at f
    rw [Bool.and_eq_true, decide_eq_true_eq] at f
    obtain ⟨rfl, f⟩ := f
    obtain ⟨a, vs, u, B, e, s, z, t, rfl⟩ := h
    rw [Tp.frz0 kvs vs B f t]; exact add0 _
  | .ins o c fs, v, A, f, h => by
    unfold T at h; unfold isFrz at f
    rw [Bool.and_eq_true, decide_eq_true_eq] at f
    obtain ⟨rfl, f⟩ := f
    obtain ⟨a, C, dx, vs, B, e, z, s, t, rfl⟩ := h
    rw [Tf.frz0 fs vs B f t]; exact add0 _
theorem Ts.frz0 : ∀ (ds : List D) (vs : List V) (A : Ft), frzL ds = true → Ts K cl w ds vs A → A = 0
  | [], vs, A, _, h => by unfold Ts at h; exact h.2
  | d :: r, vs, A, f, h => by
    unfold Ts at h; unfold frzL at f
    rw [Bool.and_eq_true] at f
    obtain ⟨v, vr, A1, A2, e, t, s, rfl⟩ := h
    rw [T.frz0 d v A1 f.1 t, Ts.frz0 r vr A2 f.2 s]; exact add0 _
theorem Tp.frz0 : ∀ (ds : List (DK × D)) (vs : List V) (A : Ft), frzP ds = true → Tp K cl w ds vs A → A = 0
  | [], vs, A, _, h => by unfold Tp at h; exact h.2
  | (_, d) :: r, vs, A, f, h => by
    unfold Tp at h; unfold frzP at f
    rw [Bool.and_eq_true] at f
    obtain ⟨v, vr, A1, A2, e, t, s, rfl⟩ := h
    rw [T.frz0 d v A1 f.1 t, Tp.frz0 r vr A2 f.2 s]; exact add0 _
theorem Tf.frz0 : ∀ (ds : List (Str × D)) (vs : List V) (A : Ft), frzF ds = true → Tf K cl w ds vs A → A = 0
  | [], vs, A, _, h => by unfold Tf at h; exact h.2
  | (_, d) :: r, vs, A, f, h => by
    unfold Tf at h; unfold frzF at f
    rw [Bool.and_eq_true] at f
    obtain ⟨v, vr, A1, A2, e, t, s, rfl⟩ := h
    rw [T.frz0 d v A1 f.1 t, Tf.frz0 r vr A2 f.2 s]; exact add0 _
end
/-! what can be frozen holds nothing lent -/
theorem isLent_ne {o : Ow} (h : decide (o ≠ .lent) = true) : o = .own ∨ o = .frz := by
  cases o <;> first | exact .inl rfl | exact .inr rfl | cases h
theorem foO_nolent {a b : Addr} {o : Ow} (h : o = .own ∨ o = .frz) : foO a o b false = 0 := by
  rcases h with rfl | rfl
  · show fo1 a true b false = 0; rw [one_at, if_neg (fun z => nomatch z.2)]
  · rfl
mutual
theorem T.can0 : ∀ (d : D) (v : V) (A : Ft), canFrz d = true → T K cl w d v A → ∀ b, A b false = 0
  | .non, v, A, _, h => by unfold T at h; rw [h.2]; intro b; rfl
  | .bl b, v, A, _, h => by unfold T at h; rw [h.2]; intro b; rfl
  | .int i, v, A, _, h => by unfold T at h; rw [h.2]; intro b; rfl
  | .str x, v, A, _, h => by unfold T at h; rw [h.2]; intro b; rfl
  | .tup ds, v, A, f, h => by
    unfold T at h; unfold canFrz at f
    obtain ⟨a, vs, e, s, t⟩ := h
    exact Ts.can0 ds vs A f t
  | .lst o ds, v, A, f, h => by
    unfold T at h; unfold canFrz at f
    rw [Bool.and_eq_true] at f
    obtain ⟨a, vs, B, e, s, t, rfl⟩ := h
    intro b
    rw [add_at, Ts.can0 ds vs B f.2 t b, foO_nolent (isLent_ne f.1)]
  | .dct o kvs, v, A, f, h => by
    unfold T at h; unfold canFrz at f
    rw [Bool.and_eq_true] at f
    obtain ⟨a, vs, u, B, e, s, z, t, rfl⟩ := h
    intro b
    rw [add_at, Tp.can0 kvs vs B f.2 t b, foO_nolent (isLent_ne f.1)]
  | .ins o c fs, v, A, f, h => by
    unfold T at h; unfold canFrz at f
    rw [Bool.and_eq_true] at f
    obtain ⟨a, C, dx, vs, B, e, z, s, t, rfl⟩ := h
    intro b
    rw [add_at, Tf.can0 fs vs B f.2 t b, foO_nolent (isLent_ne f.1)]
theorem Ts.can0 : ∀ (ds : List D) (vs : List V) (A : Ft), canL ds = true → Ts K cl w ds vs A → ∀ b, A b false = 0
  | [], vs, A, _, h => by unfold Ts at h; rw [h.2]; intro b; rfl
  | d :: r, vs, A, f, h => by
    unfold Ts at h; unfold canL at f
    rw [Bool.and_eq_true] at f
    obtain ⟨v, vr, A1, A2, e, t, s, rfl⟩ := h
    intro b
    rw [add_at, T.can0 d v A1 f.1 t b, Ts.can0 r vr A2 f.2 s b]
theorem Tp.can0 : ∀ (ds : List (DK × D)) (vs : List V) (A : Ft), canP ds = true → Tp K cl w ds vs A → ∀ b, A b false = 0
  | [], vs, A, _, h => by unfold Tp at h; rw [h.2]; intro b; rfl
  | (_, d) :: r, vs, A, f, h => by
    unfold Tp at h; unfold canP at f
    rw [Bool.and_eq_true] at f
    obtain ⟨v, vr, A1, A2, e, t, s, rfl⟩ := h
    intro b
    rw [add_at, T.can0 d v A1 f.1 t b, Tp.can0 r vr A2 f.2 s b]
theorem Tf.can0 : ∀ (ds : List (Str × D)) (vs : List V) (A : Ft), canF ds = true → Tf K cl w ds vs A → ∀ b, A b false = 0
  | [], vs, A, _, h => by unfold Tf at h; rw [h.2]; intro b; rfl
  | (_, d) :: r, vs, A, f, h => by
    unfold Tf at h; unfold canF at f
    rw [Bool.and_eq_true] at f
    obtain ⟨v, vr, A1, A2, e, t, s, rfl⟩ := h
    intro b
    rw [add_at, T.can0 d v A1 f.1 t b, Tf.can0 r vr A2 f.2 s b]
end

/-! ### the state of the holder -/
/-- w is sound for one who holds A -/
structure Gd (w : Hs) (A : Ft) : Prop where
  FR : Sm w.F w.R
  RH : Sm w.R w.H
  one : ∀ b x, A b x ≤ 1
  own : ∀ b, 0 < A b true → w.R b = none ∧ w.H b ≠ none
  lnt : ∀ b, 0 < A b false → w.R b ≠ none ∧ w.F b = none
theorem Gd.sub {A B : Ft} (g : Gd w A) (h : ∀ b x, B b x ≤ A b x) : Gd w B := ⟨g.FR, g.RH, fun b x => Nat.le_trans (h b x) (g.one b x), fun b p => g.own b (Nat.lt_of_lt_of_le p (h b _)), fun b p => g.lnt b (Nat.lt_of_lt_of_le p (h b _))⟩
theorem Gd.left {A B : Ft} (g : Gd w (A + B)) : Gd w A := g.sub fun b x => by rw [add_at]; omega
theorem Gd.right {A B : Ft} (g : Gd w (A + B)) : Gd w B := g.sub fun b x => by rw [add_at]; omega
theorem Gd.FH {A : Ft} (g : Gd w A) : Sm w.F w.H := g.FR.trans g.RH
theorem Gd.ownF {A : Ft} (g : Gd w A) {b : Addr} (h : 0 < A b true) : w.F b = none := by
  cases e : w.F b with
  | none => rfl
  | some o => exact absurd (g.own b h).1 (g.FR.nn (by rw [e]; simp))
/-- a step of one who holds A, leaving B -/
structure Ext (w : Hs) (A : Ft) (w' : Hs) (B : Ft) : Prop where
  F : Sm w.F w'.F
  R : Sm w.R w'.R
  H : ∀ b o, w.H b = some o → A b true = 0 → w'.H b = some o
  nF : ∀ b, w'.F b ≠ none → w.F b = none → 0 < A b true ∨ w.H b = none
  nR : ∀ b, w'.R b ≠ none → w.R b = none → 0 < A b true ∨ w.H b = none
  nB : ∀ b, 0 < B b true → 0 < A b true ∨ w.H b = none
  nL : ∀ b, 0 < B b false → 0 < A b false
theorem Ext.refl (w : Hs) (A : Ft) : Ext w A w A := ⟨Sm.refl _, Sm.refl _, fun _ _ h _ => h, fun b h n => absurd n h, fun b h n => absurd n h, fun _ h => .inl h, fun _ h => h⟩
theorem Ext.weak {w w' : Hs} {A B C : Ft} (e : Ext w A w' B) (h : ∀ b x, 0 < C b x → 0 < B b x) : Ext w A w' C := ⟨e.F, e.R, e.H, e.nF, e.nR, fun b p => e.nB b (h b _ p), fun b p => e.nL b (h b _ p)⟩
/-- the rest C of what is held is kept -/
theorem Ext.keeps {w w' : Hs} {A B C : Ft} (e : Ext w A w' B) (g : Gd w (A + C)) : Kp w w' C := ⟨e.F, fun b o p h => e.R b o h, fun b o p h => e.H b o h (by have := g.one b true; rw [add_at] at this; omega)⟩
theorem Ext.gd {w w' : Hs} {A B C : Ft} (e : Ext w A w' B) (g : Gd w (A + C)) (g' : Gd w' B) : Gd w' (B + C) := by
  refine ⟨g'.FR, g'.RH, fun b x => ?_, fun b p => ?_, fun b p => ?_⟩
  · rw [add_at]
    have h1 := g.one b x
    rw [add_at] at h1
    have h2 := g'.one b x
    by_cases hb : 0 < B b x
    · by_cases hc : 0 < C b x
      · cases x with
        | true =>
          rcases e.nB b hb with q | q
          · omega
          · exact absurd q (g.own b (by rw [add_at]; omega)).2
        | false => have := e.nL b hb; omega
      · omega
    · omega
  · rw [add_at] at p
    by_cases hb : 0 < B b true
    · exact g'.own b hb
    · have hc : 0 < C b true := by omega
      have ho := g.own b (by rw [add_at]; omega)
      have hA : A b true = 0 := by have h1 := g.one b true; rw [add_at] at h1; omega
      refine ⟨?_, ?_⟩
      · cases q : w'.R b with
        | none => rfl
        | some o =>
          rcases e.nR b (by rw [q]; simp) ho.1 with z | z
          · omega
          · exact absurd z ho.2
      · cases q : w.H b with
        | none => exact absurd q ho.2
        | some o => rw [e.H b o q hA]; simp
  · rw [add_at] at p
    by_cases hb : 0 < B b false
    · exact g'.lnt b hb
    · have hc : 0 < C b false := by omega
      have ho := g.lnt b (by rw [add_at]; omega)
      have hA : A b true = 0 := by
        by_cases z : 0 < A b true
        · exact absurd (g.own b (by rw [add_at]; omega)).1 ho.1
        · omega
      refine ⟨e.R.nn ho.1, ?_⟩
      cases q2 : w'.F b with
      | none => rfl
      | some u =>
        rcases e.nF b (by rw [q2]; simp) ho.2 with z | z
        · omega
        · exact absurd z (g.RH.nn ho.1)
theorem Ext.trans {w w1 w2 : Hs} {A B C : Ft} (e : Ext w A w1 B) (f : Ext w1 B w2 C) : Ext w A w2 C := by
  have hH : ∀ b o, w.H b = some o → A b true = 0 → w1.H b = some o ∧ B b true = 0 := fun b o h z => by
    refine ⟨e.H b o h z, ?_⟩
    by_cases hb : 0 < B b true
    · rcases e.nB b hb with q | q
      · omega
      · rw [h] at q; cases q
    · omega
  have back : ∀ b, (0 < B b true ∨ w1.H b = none) → 0 < A b true ∨ w.H b = none := fun b h => by
    by_cases hA : 0 < A b true
    · exact .inl hA
    · have hA0 : A b true = 0 := by omega
      cases q : w.H b with
      | none => exact .inr rfl
      | some o =>
        obtain ⟨h1, h2⟩ := hH b o q hA0
        rcases h with z | z
        · omega
        · rw [h1] at z; cases z
  refine ⟨e.F.trans f.F, e.R.trans f.R, fun b o h z => ?_, fun b h n => ?_, fun b h n => ?_, fun b p => back b (f.nB b p), fun b p => e.nL b (f.nL b p)⟩
  · obtain ⟨h1, h2⟩ := hH b o h z
    exact f.H b o h1 h2
  · by_cases h1 : w1.F b = none
    · exact back b (f.nF b h h1)
    · exact e.nF b h1 n
  · by_cases h1 : w1.R b = none
    · exact back b (f.nR b h h1)
    · exact e.nR b h1 n
/-- with a further C held aside -/
theorem Ext.side {w w' : Hs} {A B C : Ft} (e : Ext w A w' B) : Ext w (A + C) w' (B + C) := by
  refine ⟨e.F, e.R, fun b o h z => e.H b o h (by rw [add_at] at z; omega), fun b h n => ?_, fun b h n => ?_, fun b p => ?_, fun b p => ?_⟩
  · rcases e.nF b h n with q | q
    · exact .inl (by rw [add_at]; omega)
    · exact .inr q
  · rcases e.nR b h n with q | q
    · exact .inl (by rw [add_at]; omega)
    · exact .inr q
  · rw [add_at] at p ⊢
    by_cases hb : 0 < B b true
    · rcases e.nB b hb with q | q
      · exact .inl (by omega)
      · exact .inr q
    · exact .inl (by omega)
  · rw [add_at] at p ⊢
    by_cases hb : 0 < B b false
    · have := e.nL b hb; omega
    · omega
theorem Ext.pre {w w' : Hs} {A A' B : Ft} (e : Ext w A w' B) (h : ∀ b x, 0 < A b x → 0 < A' b x) : Ext w A' w' B := by
  refine ⟨e.F, e.R, fun b o q z => e.H b o q (by have := h b true; omega), fun b p n => ?_, fun b p n => ?_, fun b p => ?_, fun b p => h b _ (e.nL b p)⟩
  · rcases e.nF b p n with q | q
    · exact .inl (h b _ q)
    · exact .inr q
  · rcases e.nR b p n with q | q
    · exact .inl (h b _ q)
    · exact .inr q
  · rcases e.nB b p with q | q
    · exact .inl (h b _ q)
    · exact .inr q

/-! ### freezing -/
/-- H where A is held, else F -/
def add (F H : Hp) (A : Ft) : Hp := fun b => if 0 < A b true then H b else F b
theorem add_in {F H : Hp} {A : Ft} {b : Addr} (h : 0 < A b true) : add F H A b = H b := by unfold add; rw [if_pos h]
theorem add_out {F H : Hp} {A : Ft} {b : Addr} (h : A b true = 0) : add F H A b = F b := by unfold add; rw [if_neg (by omega)]
def Hs.fz (w : Hs) (A : Ft) : Hs := ⟨add w.F w.H A, add w.R w.H A, w.H⟩
theorem fz_F {A B : Ft} (g : Gd w (A + B)) : Sm w.F (w.fz A).F := fun b o h => by
  by_cases hb : 0 < A b true
  · exact absurd (g.ownF (by rw [add_at]; omega)) (rd_nn h)
  · exact rd_eq (add_out (by omega)).symm h
theorem fz_ext {A B : Ft} (g : Gd w (A + B)) : Ext w (A + B) (w.fz A) B := by
  have gA : ∀ b, 0 < A b true → w.R b = none := fun b h => (g.own b (by rw [add_at]; omega)).1
  refine ⟨fz_F g, fun b o h => ?_, fun b o h _ => h, fun b h n => ?_, fun b h n => ?_, fun b p => .inl (by rw [add_at]; omega), fun b p => by rw [add_at]; omega⟩
  · by_cases hb : 0 < A b true
    · exact absurd (gA b hb) (rd_nn h)
    · exact rd_eq (add_out (by omega)).symm h
  · by_cases hb : 0 < A b true
    · exact .inl (by rw [add_at]; omega)
    · exact absurd (show add w.F w.H A b = none by rw [add_out (by omega)]; exact n) h
  · by_cases hb : 0 < A b true
    · exact .inl (by rw [add_at]; omega)
    · exact absurd (show add w.R w.H A b = none by rw [add_out (by omega)]; exact n) h
theorem fz_gd {A B : Ft} (g : Gd w (A + B)) : Gd (w.fz A) B := by
  have dis : ∀ b, 0 < B b true → A b true = 0 := fun b h => by have := g.one b true; rw [add_at] at this; omega
  refine ⟨fun b o h => ?_, fun b o h => ?_, fun b x => by have := g.one b x; rw [add_at] at this; omega, fun b p => ?_, fun b p => ?_⟩
  · have h' : Rd (add w.F w.H A) b o := h
    show Rd (add w.R w.H A) b o
    by_cases hb : 0 < A b true
    · exact rd_eq ((add_in hb).trans (add_in hb).symm) h'
    · exact rd_eq (add_out (by omega)).symm (g.FR b o (rd_eq (add_out (by omega)) h'))
  · have h' : Rd (add w.R w.H A) b o := h
    by_cases hb : 0 < A b true
    · exact rd_eq (add_in hb) h'
    · exact g.RH b o (rd_eq (add_out (by omega)) h')
  · have q := g.own b (by rw [add_at]; omega)
    exact ⟨by show add w.R w.H A b = none; rw [add_out (dis b p)]; exact q.1, q.2⟩
  · have q := g.lnt b (by rw [add_at]; omega)
    have hA : A b true = 0 := by
      by_cases z : 0 < A b true
      · exact absurd (g.own b (by rw [add_at]; omega)).1 q.1
      · omega
    exact ⟨by show add w.R w.H A b ≠ none; rw [add_out hA]; exact q.1, by show add w.F w.H A b = none; rw [add_out hA]; exact q.2⟩
theorem fz_keep {A B : Ft} (g : Gd w (A + B)) : Kp w (w.fz A) B := ⟨fz_F g, fun b o p h => (fz_ext g).R b o h, fun b o _ h => h⟩
/-- the tree stands frozen where all of its nodes are added -/
theorem LAt.fz {o : Ow} {a : Addr} {vs : List V} {B C : Ft} (ho : o = .own ∨ o = .frz) (g : Gd w C) (hC : ∀ b, 0 < (B + foO a o) b true → 0 < C b true) (h : LAt K w o a vs) : LAt K (w.fz C) .frz a vs := by
  have e : Sm w.F (w.fz C).F := fz_F (A := C) (B := 0) (by rw [add0]; exact g)
  rcases ho with rfl | rfl
  · refine .inl (.inl ?_)
    show add w.F w.H C a = _
    rw [add_in (hC a (foO_own a B))]
    exact h
  · exact e.seq h
theorem hpO.fz {o : Ow} {a : Addr} {u : HO} {B C : Ft} (ho : o = .own ∨ o = .frz) (g : Gd w C) (hC : ∀ b, 0 < (B + foO a o) b true → 0 < C b true) (h : hpO w o a u) : hpO (w.fz C) .frz a u := by
  have e : Sm w.F (w.fz C).F := fz_F (A := C) (B := 0) (by rw [add0]; exact g)
  rcases ho with rfl | rfl
  · refine .inl ?_
    show add w.F w.H C a = _
    rw [add_in (hC a (foO_own a B))]
    exact h
  · exact e _ _ h
theorem keysP_fz : ∀ kvs : List (DK × D), (freezeP kvs).map (·.1) = kvs.map (·.1)
  | [] => rfl
  | (k, d) :: r => by unfold freezeP; rw [List.map_cons, List.map_cons, keysP_fz r]
theorem keysF_fz : ∀ kvs : List (Str × D), (freezeF kvs).map (·.1) = kvs.map (·.1)
  | [] => rfl
  | (k, d) :: r => by unfold freezeF; rw [List.map_cons, List.map_cons, keysF_fz r]
mutual
theorem T.fz {C : Ft} (g : Gd w C) : ∀ (d : D) (v : V) (A : Ft), (∀ b, 0 < A b true → 0 < C b true) → canFrz d = true → T K cl w d v A → T K cl (w.fz C) (freeze d) v 0
  | .non, v, A, _, _, h => by unfold T at h; unfold freeze; exact ⟨h.1, rfl⟩
  | .bl b, v, A, _, _, h => by unfold T at h; unfold freeze; exact ⟨h.1, rfl⟩
  | .int i, v, A, _, _, h => by unfold T at h; unfold freeze; exact ⟨h.1, rfl⟩
  | .str x, v, A, _, _, h => by unfold T at h; unfold freeze; exact ⟨h.1, rfl⟩
  | .tup ds, v, A, s, f, h => by
    unfold T at h; unfold freeze; unfold canFrz at f; unfold T
    obtain ⟨a, vs, e, sq, t⟩ := h
    exact ⟨a, vs, e, same_seqT (fz_F (A := C) (B := 0) (by rw [add0]; exact g)) sq, Ts.fz g ds vs A s f t⟩
  | .lst o ds, v, A, s, f, h => by
    unfold T at h; unfold freeze; unfold canFrz at f; unfold T
    rw [Bool.and_eq_true] at f
    obtain ⟨a, vs, B, e, sq, t, rfl⟩ := h
    exact ⟨a, vs, 0, e, LAt.fz (isLent_ne f.1) g s sq, Ts.fz g ds vs B (fun b p => s b (by rw [add_at]; omega)) f.2 t, (add0 _).symm⟩
  | .dct o kvs, v, A, s, f, h => by
    unfold T at h; unfold freeze; unfold canFrz at f; unfold T
    rw [Bool.and_eq_true] at f
    obtain ⟨a, vs, u, B, e, sq, z, t, rfl⟩ := h
    exact ⟨a, vs, u, 0, e, hpO.fz (isLent_ne f.1) g s sq, by rw [keysP_fz]; exact z, Tp.fz g kvs vs B (fun b p => s b (by rw [add_at]; omega)) f.2 t, (add0 _).symm⟩
  | .ins o c fs, v, A, s, f, h => by
    unfold T at h; unfold freeze; unfold canFrz at f; unfold T
    rw [Bool.and_eq_true] at f
    obtain ⟨a, CC, dx, vs, B, e, z, sq, t, rfl⟩ := h
    exact ⟨a, CC, dx, vs, 0, e, z, by rw [keysF_fz]; exact hpO.fz (isLent_ne f.1) g s sq, Tf.fz g fs vs B (fun b p => s b (by rw [add_at]; omega)) f.2 t, (add0 _).symm⟩
theorem Ts.fz {C : Ft} (g : Gd w C) : ∀ (ds : List D) (vs : List V) (A : Ft), (∀ b, 0 < A b true → 0 < C b true) → canL ds = true → Ts K cl w ds vs A → Ts K cl (w.fz C) (freezeL ds) vs 0
  | [], vs, A, _, _, h => by unfold Ts at h; unfold freezeL; exact ⟨h.1, rfl⟩
  | d :: r, vs, A, s, f, h => by
    unfold Ts at h; unfold freezeL; unfold canL at f; unfold Ts
    rw [Bool.and_eq_true] at f
    obtain ⟨v, vr, A1, A2, e, t, q, rfl⟩ := h
    exact ⟨v, vr, 0, 0, e, T.fz g d v A1 (fun b p => s b (by rw [add_at]; omega)) f.1 t, Ts.fz g r vr A2 (fun b p => s b (by rw [add_at]; omega)) f.2 q, (add0 _).symm⟩
theorem Tp.fz {C : Ft} (g : Gd w C) : ∀ (ds : List (DK × D)) (vs : List V) (A : Ft), (∀ b, 0 < A b true → 0 < C b true) → canP ds = true → Tp K cl w ds vs A → Tp K cl (w.fz C) (freezeP ds) vs 0
  | [], vs, A, _, _, h => by unfold Tp at h; unfold freezeP; exact ⟨h.1, rfl⟩
  | (k, d) :: r, vs, A, s, f, h => by
    unfold Tp at h; unfold freezeP; unfold canP at f; unfold Tp
    rw [Bool.and_eq_true] at f
    obtain ⟨v, vr, A1, A2, e, t, q, rfl⟩ := h
    exact ⟨v, vr, 0, 0, e, T.fz g d v A1 (fun b p => s b (by rw [add_at]; omega)) f.1 t, Tp.fz g r vr A2 (fun b p => s b (by rw [add_at]; omega)) f.2 q, (add0 _).symm⟩
theorem Tf.fz {C : Ft} (g : Gd w C) : ∀ (ds : List (Str × D)) (vs : List V) (A : Ft), (∀ b, 0 < A b true → 0 < C b true) → canF ds = true → Tf K cl w ds vs A → Tf K cl (w.fz C) (freezeF ds) vs 0
  | [], vs, A, _, _, h => by unfold Tf at h; unfold freezeF; exact ⟨h.1, rfl⟩
  | (k, d) :: r, vs, A, s, f, h => by
    unfold Tf at h; unfold freezeF; unfold canF at f; unfold Tf
    rw [Bool.and_eq_true] at f
    obtain ⟨v, vr, A1, A2, e, t, q, rfl⟩ := h
    exact ⟨v, vr, 0, 0, e, T.fz g d v A1 (fun b p => s b (by rw [add_at]; omega)) f.1 t, Tf.fz g r vr A2 (fun b p => s b (by rw [add_at]; omega)) f.2 q, (add0 _).symm⟩
end

mutual
theorem freeze_frz : ∀ d : D, isFrz (freeze d) = true
  | .non => rfl | .bl _ => rfl | .int _ => rfl | .str _ => rfl
  | .tup xs => by unfold freeze isFrz; exact freeze_frzL xs
  | .lst o xs => by unfold freeze isFrz; rw [freeze_frzL xs]; rfl
  | .dct o xs => by unfold freeze isFrz; rw [freeze_frzP xs]; rfl
  | .ins o c xs => by unfold freeze isFrz; rw [freeze_frzF xs]; rfl
theorem freeze_frzL : ∀ d : List D, frzL (freezeL d) = true
  | [] => rfl
  | d :: r => by unfold freezeL frzL; rw [freeze_frz d, freeze_frzL r]; rfl
theorem freeze_frzP : ∀ d : List (DK × D), frzP (freezeP d) = true
  | [] => rfl
  | (k, d) :: r => by unfold freezeP frzP; rw [freeze_frz d, freeze_frzP r]; rfl
theorem freeze_frzF : ∀ d : List (Str × D), frzF (freezeF d) = true
  | [] => rfl
  | (k, d) :: r => by unfold freezeF frzF; rw [freeze_frz d, freeze_frzF r]; rfl
end
/-! ### lending -/
def Hs.ln (w : Hs) (A : Ft) : Hs := ⟨w.F, add w.R w.H A, w.H⟩
/-- what was owned is lent -/
def toL (A : Ft) : Ft := fun b x => if x then 0 else A b true + A b false
theorem toL_t (A : Ft) (b : Addr) : toL A b true = 0 := rfl
theorem toL_f (A : Ft) (b : Addr) : toL A b false = A b true + A b false := rfl
theorem toL_add (A B : Ft) : toL (A + B) = toL A + toL B := ft_ext fun b x => by
  cases x
  · rw [toL_f, add_at, add_at, add_at, toL_f, toL_f]; omega
  · rfl
theorem toL_O (a : Addr) (o : Ow) : toL (foO a o) = foO a o.ln := ft_ext fun b x => by
  cases o with
  | frz => cases x <;> rfl
  | own =>
    cases x with
    | true =>
      show 0 = fo1 a false b true
      rw [one_at]; simp
    | false =>
      show fo1 a true b true + fo1 a true b false = fo1 a false b false
      rw [one_at, one_at, one_at]
      by_cases h : b = a <;> simp [h]
  | lent =>
    cases x with
    | true =>
      show 0 = fo1 a false b true
      rw [one_at]; simp
    | false =>
      show fo1 a false b true + fo1 a false b false = fo1 a false b false
      rw [one_at, one_at]
      by_cases h : b = a <;> simp [h]
theorem toL_0 : toL 0 = 0 := ft_ext fun b x => by cases x <;> rfl
theorem ln_R {A B : Ft} (g : Gd w (A + B)) : Sm w.R (w.ln A).R := fun b o h => by
  by_cases hb : 0 < A b true
  · exact absurd (g.own b (by rw [add_at]; omega)).1 (rd_nn h)
  · exact rd_eq (add_out (by omega)).symm h
theorem ln_gd {A B : Ft} (g : Gd w (A + B)) : Gd (w.ln A) (toL A + B) := by
  have dis : ∀ b, 0 < B b true → A b true = 0 := fun b h => by have := g.one b true; rw [add_at] at this; omega
  have lnt : ∀ b, 0 < A b false + B b false → A b true = 0 := fun b h => by
    by_cases z : 0 < A b true
    · exact absurd (g.own b (by rw [add_at]; omega)).1 (g.lnt b (by rw [add_at]; exact h)).1
    · omega
  refine ⟨fun b o h => ln_R g b o (g.FR b o h), fun b o h => ?_, fun b x => ?_, fun b p => ?_, fun b p => ?_⟩
  · have h' : Rd (add w.R w.H A) b o := h
    by_cases hb : 0 < A b true
    · exact rd_eq (add_in hb) h'
    · exact g.RH b o (rd_eq (add_out (by omega)) h')
  · have h1 := g.one b x
    rw [add_at] at h1 ⊢
    cases x with
    | true => rw [toL_t]; omega
    | false =>
      rw [toL_f]
      have h2 := g.one b true
      rw [add_at] at h2
      by_cases z : 0 < A b false + B b false
      · have := lnt b z; omega
      · omega
  · rw [add_at, toL_t] at p
    have q := g.own b (by rw [add_at]; omega)
    exact ⟨by show add w.R w.H A b = none; rw [add_out (dis b (by omega))]; exact q.1, q.2⟩
  · rw [add_at, toL_f] at p
    by_cases hb : 0 < A b true
    · have q := g.own b (by rw [add_at]; omega)
      exact ⟨by show add w.R w.H A b ≠ none; rw [add_in hb]; exact q.2, by
        show w.F b = none
        exact g.ownF (by rw [add_at]; omega)⟩
    · have q := g.lnt b (by rw [add_at]; omega)
      exact ⟨by show add w.R w.H A b ≠ none; rw [add_out (by omega)]; exact q.1, q.2⟩
theorem LAt.ln {o : Ow} {a : Addr} {vs : List V} {B C : Ft} (g : Gd w C) (hC : ∀ b, 0 < (B + foO a o) b true → 0 < C b true) (h : LAt K w o a vs) : LAt K (w.ln C) o.ln a vs := by
  cases o with
  | own =>
    refine .inl ?_
    show add w.R w.H C a = _
    rw [add_in (hC a (foO_own a B))]
    exact h
  | lent => exact ln_R (A := C) (B := 0) (by rw [add0]; exact g) a _ h
  | frz => exact h
theorem hpO.ln {o : Ow} {a : Addr} {u : HO} {B C : Ft} (g : Gd w C) (hC : ∀ b, 0 < (B + foO a o) b true → 0 < C b true) (h : hpO w o a u) : hpO (w.ln C) o.ln a u := by
  cases o with
  | own =>
    refine .inl ?_
    show add w.R w.H C a = _
    rw [add_in (hC a (foO_own a B))]
    exact h
  | lent => exact ln_R (A := C) (B := 0) (by rw [add0]; exact g) a _ h
  | frz => exact h
theorem keysP_ln : ∀ kvs : List (DK × D), (lendP kvs).map (·.1) = kvs.map (·.1)
  | [] => rfl
  | (k, d) :: r => by unfold lendP; rw [List.map_cons, List.map_cons, keysP_ln r]
theorem keysF_ln : ∀ kvs : List (Str × D), (lendF kvs).map (·.1) = kvs.map (·.1)
  | [] => rfl
  | (k, d) :: r => by unfold lendF; rw [List.map_cons, List.map_cons, keysF_ln r]
mutual
theorem T.ln {C : Ft} (g : Gd w C) : ∀ (d : D) (v : V) (A : Ft), (∀ b, 0 < A b true → 0 < C b true) → T K cl w d v A → T K cl (w.ln C) (lend d) v (toL A)
  | .non, v, A, _, h => by unfold T at h; unfold lend; exact ⟨h.1, by rw [h.2]; exact toL_0⟩
  | .bl b, v, A, _, h => by unfold T at h; unfold lend; exact ⟨h.1, by rw [h.2]; exact toL_0⟩
  | .int i, v, A, _, h => by unfold T at h; unfold lend; exact ⟨h.1, by rw [h.2]; exact toL_0⟩
  | .str x, v, A, _, h => by unfold T at h; unfold lend; exact ⟨h.1, by rw [h.2]; exact toL_0⟩
  | .tup ds, v, A, s, h => by
    unfold T at h; unfold lend; unfold T
    obtain ⟨a, vs, e, sq, t⟩ := h
    exact ⟨a, vs, e, sq, Ts.ln g ds vs A s t⟩
  | .lst o ds, v, A, s, h => by
    unfold T at h; unfold lend; unfold T
    obtain ⟨a, vs, B, e, sq, t, rfl⟩ := h
    exact ⟨a, vs, toL B, e, LAt.ln g s sq, Ts.ln g ds vs B (fun b p => s b (by rw [add_at]; omega)) t, by rw [toL_add, toL_O]⟩
  | .dct o kvs, v, A, s, h => by
    unfold T at h; unfold lend; unfold T
    obtain ⟨a, vs, u, B, e, sq, z, t, rfl⟩ := h
    exact ⟨a, vs, u, toL B, e, hpO.ln g s sq, by rw [keysP_ln]; exact z, Tp.ln g kvs vs B (fun b p => s b (by rw [add_at]; omega)) t, by rw [toL_add, toL_O]⟩
  | .ins o c fs, v, A, s, h => by
    unfold T at h; unfold lend; unfold T
    obtain ⟨a, CC, dx, vs, B, e, z, sq, t, rfl⟩ := h
    exact ⟨a, CC, dx, vs, toL B, e, z, by rw [keysF_ln]; exact hpO.ln g s sq, Tf.ln g fs vs B (fun b p => s b (by rw [add_at]; omega)) t, by rw [toL_add, toL_O]⟩
theorem Ts.ln {C : Ft} (g : Gd w C) : ∀ (ds : List D) (vs : List V) (A : Ft), (∀ b, 0 < A b true → 0 < C b true) → Ts K cl w ds vs A → Ts K cl (w.ln C) (lendL ds) vs (toL A)
  | [], vs, A, _, h => by unfold Ts at h; unfold lendL; exact ⟨h.1, by rw [h.2]; exact toL_0⟩
  | d :: r, vs, A, s, h => by
    unfold Ts at h; unfold lendL; unfold Ts
    obtain ⟨v, vr, A1, A2, e, t, q, rfl⟩ := h
    exact ⟨v, vr, _, _, e, T.ln g d v A1 (fun b p => s b (by rw [add_at]; omega)) t, Ts.ln g r vr A2 (fun b p => s b (by rw [add_at]; omega)) q, toL_add _ _⟩
theorem Tp.ln {C : Ft} (g : Gd w C) : ∀ (ds : List (DK × D)) (vs : List V) (A : Ft), (∀ b, 0 < A b true → 0 < C b true) → Tp K cl w ds vs A → Tp K cl (w.ln C) (lendP ds) vs (toL A)
  | [], vs, A, _, h => by unfold Tp at h; unfold lendP; exact ⟨h.1, by rw [h.2]; exact toL_0⟩
  | (k, d) :: r, vs, A, s, h => by
    unfold Tp at h; unfold lendP; unfold Tp
    obtain ⟨v, vr, A1, A2, e, t, q, rfl⟩ := h
    exact ⟨v, vr, _, _, e, T.ln g d v A1 (fun b p => s b (by rw [add_at]; omega)) t, Tp.ln g r vr A2 (fun b p => s b (by rw [add_at]; omega)) q, toL_add _ _⟩
theorem Tf.ln {C : Ft} (g : Gd w C) : ∀ (ds : List (Str × D)) (vs : List V) (A : Ft), (∀ b, 0 < A b true → 0 < C b true) → Tf K cl w ds vs A → Tf K cl (w.ln C) (lendF ds) vs (toL A)
  | [], vs, A, _, h => by unfold Tf at h; unfold lendF; exact ⟨h.1, by rw [h.2]; exact toL_0⟩
  | (k, d) :: r, vs, A, s, h => by
    unfold Tf at h; unfold lendF; unfold Tf
    obtain ⟨v, vr, A1, A2, e, t, q, rfl⟩ := h
    exact ⟨v, vr, _, _, e, T.ln g d v A1 (fun b p => s b (by rw [add_at]; omega)) t, Tf.ln g r vr A2 (fun b p => s b (by rw [add_at]; omega)) q, toL_add _ _⟩
end
/-- what was lent goes back: R without what A owns -/
def Hs.bk (w : Hs) (A : Ft) : Hs := ⟨w.F, fun b => if 0 < A b true then none else w.R b, w.H⟩
end
end Ev

/-! Ev, part C: places, the frame's names. -/
namespace Ev
open PySem PySem.Spec PyProof.Rows L2

/-- a step into a tree -/
inductive Stp where | i (n : Nat) | f (x : Str) | k (a : DK)
  deriving DecidableEq
/-- a place: a name's slot, a step behind a place -/
inductive Pl where | var (i : Nat) | stp (p : Pl) (s : Stp)
  deriving DecidableEq
def Pl.root : Pl → Nat
  | .var i => i
  | .stp p _ => p.root
abbrev Env := List (Option D)
abbrev Sg := List (Option V)

def aput {κ : Type} [DecidableEq κ] : List (κ × D) → κ → D → List (κ × D)
  | [], k, d => [(k, d)]
  | (k', d') :: r, k, d => if k' = k then (k, d) :: r else (k', d') :: aput r k d
def aget {κ : Type} [DecidableEq κ] : List (κ × D) → κ → Option D
  | [], _ => none
  | (k', d') :: r, k => if k' = k then some d' else aget r k
def getS : D → Stp → Option D
  | .tup ds, .i n => ds[n]?
  | .lst _ ds, .i n => ds[n]?
  | .dct _ kvs, .k a => aget kvs a
  | .ins _ _ fs, .f x => aget fs x
  | _, _ => none
def setS : D → Stp → D → D
  | .tup ds, .i n, d => .tup (ds.set n d)
  | .lst o ds, .i n, d => .lst o (ds.set n d)
  | .dct o kvs, .k a, d => .dct o (aput kvs a d)
  | .ins o c fs, .f x, d => .ins o c (aput fs x d)
  | t, _, _ => t
def slot (ρ : Env) (i : Nat) : Option D := (ρ[i]?).bind id
def getE (ρ : Env) : Pl → Option D
  | .var i => slot ρ i
  | .stp p s => (getE ρ p).bind fun d => getS d s
def setE (ρ : Env) : Pl → D → Env
  | .var i, d => ρ.set i (some d)
  | .stp p s, d => match getE ρ p with
    | some dp => setE ρ p (setS dp s d)
    | none => ρ

section
variable (K : PySem.W.Frag) (cl : Str → Option Addr)
def Es (w : Hs) : Env → Sg → Ft → Prop
  | [], σ, A => σ = [] ∧ A = 0
  | none :: ρ, σ, A => ∃ x σ', σ = x :: σ' ∧ Es w ρ σ' A
  | some d :: ρ, σ, A => ∃ v σ' A1 A2, σ = some v :: σ' ∧ T K cl w d v A1 ∧ Es w ρ σ' A2 ∧ A = A1 + A2
/-- a name's place: its value -/
def varAt (σ : Sg) : Pl → V → Prop
  | .var i, v => σ[i]? = some (some v)
  | .stp _ _, _ => True
/-- the value v stands at the place p of the frame, its tree d; the rest can be joined to another tree there -/
def Foc (w : Hs) (ρ : Env) (σ : Sg) (A : Ft) (p : Pl) (d : D) (v : V) : Prop :=
  getE ρ p = some d ∧ varAt σ p v ∧ ∃ A1 Ar, T K cl w d v A1 ∧ A = A1 + Ar ∧ ∀ w' d'' A'', T K cl w' d'' v A'' → Kp w w' Ar → Es K cl w' (setE ρ p d'') σ (A'' + Ar)
end

section
variable {K : PySem.W.Frag} {cl : Str → Option Addr} {w w' : Hs}
theorem Es.length : ∀ {ρ : Env} {σ : Sg} {A : Ft}, Es K cl w ρ σ A → σ.length = ρ.length
  | [], _, _, h => by unfold Es at h; rw [h.1]; rfl
  | none :: ρ, σ, A, h => by
    unfold Es at h
    obtain ⟨x, σ', rfl, h⟩ := h
    simp [Es.length h]
  | some d :: ρ, σ, A, h => by
    unfold Es at h
    obtain ⟨v, σ', A1, A2, rfl, _, h, _⟩ := h
    simp [Es.length h]
theorem Es.keep : ∀ {ρ : Env} {σ : Sg} {A : Ft}, Kp w w' A → Es K cl w ρ σ A → Es K cl w' ρ σ A
  | [], _, _, _, h => by unfold Es at h ⊢; exact h
  | none :: ρ, σ, A, k, h => by
    unfold Es at h ⊢
    obtain ⟨x, σ', e, h⟩ := h
    exact ⟨x, σ', e, Es.keep k h⟩
  | some d :: ρ, σ, A, k, h => by
    unfold Es at h ⊢
    obtain ⟨v, σ', A1, A2, e, t, h, rfl⟩ := h
    exact ⟨v, σ', A1, A2, e, T.keep d v A1 k.left t, Es.keep k.right h, rfl⟩
theorem kp0 {A B : Ft} (k : Kp w w' A) (h : ∀ b x, B b x ≤ A b x) : Kp w w' B := k.sub fun b x p => Nat.lt_of_lt_of_le p (h b x)
/-- a slot is taken out -/
theorem Es.out : ∀ {ρ : Env} {σ : Sg} {A : Ft} {i : Nat} {d : D}, slot ρ i = some d → Es K cl w ρ σ A →
    ∃ v A1 Ar, σ[i]? = some (some v) ∧ T K cl w d v A1 ∧ A = A1 + Ar ∧ Es K cl w (ρ.set i none) σ Ar
  | [], _, _, _, _, e, _ => by unfold slot at e; simp at e
  | none :: ρ, σ, A, 0, d, e, h => by unfold slot at e; simp at e
  | none :: ρ, σ, A, i + 1, d, e, h => by
    unfold Es at h
    obtain ⟨x, σ', rfl, h⟩ := h
    have e' : slot ρ i = some d := by unfold slot at e ⊢; simpa using e
    obtain ⟨v, A1, Ar, e1, t, e2, h2⟩ := Es.out e' h
    refine ⟨v, A1, Ar, by simpa using e1, t, e2, ?_⟩
    rw [List.set_cons_succ]
    unfold Es
    exact ⟨x, σ', rfl, h2⟩
  | some c :: ρ, σ, A, 0, d, e, h => by
    unfold Es at h
    obtain ⟨v, σ', A1, A2, rfl, t, h, rfl⟩ := h
    have e' : c = d := by unfold slot at e; simpa using e
    subst e'
    refine ⟨v, A1, A2, by simp, t, rfl, ?_⟩
    rw [List.set_cons_zero]
    unfold Es
    exact ⟨some v, σ', rfl, h⟩
  | some c :: ρ, σ, A, i + 1, d, e, h => by
    unfold Es at h
    obtain ⟨v, σ', A1, A2, rfl, t, h, rfl⟩ := h
    have e' : slot ρ i = some d := by unfold slot at e ⊢; simpa using e
    obtain ⟨v', B1, Br, e1, t', e2, h2⟩ := Es.out e' h
    refine ⟨v', B1, A1 + Br, by simpa using e1, t', ?_, ?_⟩
    · rw [e2]; exact ft_ext fun b x => by simp only [add_at]; omega
    · rw [List.set_cons_succ]
      unfold Es
      exact ⟨v, σ', A1, Br, rfl, t, h2, rfl⟩
theorem set_none_ne {ρ : Env} {i : Nat} (h : i < ρ.length) : slot (ρ.set i none) i = none := by
  unfold slot; simp [h]
/-- a slot is put in again, at its value or another one -/
theorem Es.into : ∀ {ρ : Env} {σ : Sg} {A B : Ft} {i : Nat} {d : D} {v : V}, i < ρ.length → T K cl w d v B → Es K cl w (ρ.set i none) σ A →
    Es K cl w (ρ.set i (some d)) (σ.set i (some v)) (B + A)
  | [], _, _, _, _, _, _, hi, _, _ => absurd hi (Nat.not_lt_zero _)
  | c :: ρ, σ, A, B, 0, d, v, _, t, h => by
    rw [List.set_cons_zero] at h ⊢
    unfold Es at h
    obtain ⟨x, σ', rfl, h⟩ := h
    rw [List.set_cons_zero]
    unfold Es
    exact ⟨v, σ', B, A, rfl, t, h, rfl⟩
  | none :: ρ, σ, A, B, i + 1, d, v, hi, t, h => by
    rw [List.set_cons_succ] at h ⊢
    unfold Es at h
    obtain ⟨x, σ', rfl, h⟩ := h
    rw [List.set_cons_succ]
    unfold Es
    exact ⟨x, _, rfl, Es.into (Nat.lt_of_succ_lt_succ hi) t h⟩
  | some c :: ρ, σ, A, B, i + 1, d, v, hi, t, h => by
    rw [List.set_cons_succ] at h ⊢
    unfold Es at h
    obtain ⟨x, σ', A1, A2, rfl, tc, h, rfl⟩ := h
    rw [List.set_cons_succ]
    unfold Es
    exact ⟨x, _, A1, B + A2, rfl, tc, Es.into (Nat.lt_of_succ_lt_succ hi) t h, ft_ext fun b x => by simp only [add_at]; omega⟩
theorem set_same {σ : Sg} {i : Nat} {v : V} (h : σ[i]? = some (some v)) : σ.set i (some v) = σ := by
  obtain ⟨hi, e⟩ := List.getElem?_eq_some_iff.mp h
  rw [← e]; exact List.set_getElem_self hi
theorem slot_lt {ρ : Env} {i : Nat} {d : D} (h : slot ρ i = some d) : i < ρ.length := by
  unfold slot at h
  cases e : ρ[i]? with
  | none => rw [e] at h; cases h
  | some x => exact (List.getElem?_eq_some_iff.mp e).1
/-- forgetting a slot -/
theorem Es.drop {ρ : Env} {σ : Sg} {A : Ft} (h : Es K cl w ρ σ A) (i : Nat) : ∃ B, (∀ b x, B b x ≤ A b x) ∧ Es K cl w (ρ.set i none) σ B := by
  cases e : slot ρ i with
  | some d =>
    obtain ⟨v, A1, Ar, _, _, rfl, h2⟩ := Es.out e h
    exact ⟨Ar, fun b x => by rw [add_at]; omega, h2⟩
  | none =>
    refine ⟨A, fun _ _ => Nat.le_refl _, ?_⟩
    by_cases hi : i < ρ.length
    · have : ρ.set i none = ρ := by
        unfold slot at e
        have e2 : ρ[i] = none := by
          rw [List.getElem?_eq_getElem hi] at e
          simpa using e
        rw [← e2]; exact List.set_getElem_self hi
      rw [this]; exact h
    · rw [List.set_eq_of_length_le (by omega)]; exact h
/-- a slot is stored -/
theorem Es.store {ρ : Env} {σ : Sg} {A B : Ft} {i : Nat} {d : D} {v : V} (hi : i < ρ.length) (t : T K cl w d v B) (h : Es K cl w ρ σ A) :
    ∃ C, (∀ b x, C b x ≤ (A + B) b x) ∧ Es K cl w (ρ.set i (some d)) (σ.set i (some v)) C := by
  obtain ⟨A', hA, h'⟩ := h.drop i
  exact ⟨B + A', fun b x => by have := hA b x; simp only [add_at]; omega, Es.into hi t h'⟩

/-! ### steps -/
theorem Ts.length : ∀ {ds : List D} {vs : List V} {A : Ft}, Ts K cl w ds vs A → vs.length = ds.length
  | [], _, _, h => by unfold Ts at h; rw [h.1]; rfl
  | d :: r, vs, A, h => by
    unfold Ts at h
    obtain ⟨v, vr, A1, A2, rfl, _, h, _⟩ := h
    simp [Ts.length h]
theorem Tp.length : ∀ {ds : List (DK × D)} {vs : List V} {A : Ft}, Tp K cl w ds vs A → vs.length = ds.length
  | [], _, _, h => by unfold Tp at h; rw [h.1]; rfl
  | (_, d) :: r, vs, A, h => by
    unfold Tp at h
    obtain ⟨v, vr, A1, A2, rfl, _, h, _⟩ := h
    simp [Tp.length h]
theorem Tf.length : ∀ {ds : List (Str × D)} {vs : List V} {A : Ft}, Tf K cl w ds vs A → vs.length = ds.length
  | [], _, _, h => by unfold Tf at h; rw [h.1]; rfl
  | (_, d) :: r, vs, A, h => by
    unfold Tf at h
    obtain ⟨v, vr, A1, A2, rfl, _, h, _⟩ := h
    simp [Tf.length h]
theorem Ts.foc : ∀ {ds : List D} {vs : List V} {A : Ft} {n : Nat} {d : D}, ds[n]? = some d → Ts K cl w ds vs A →
    ∃ v A1 Ar, vs[n]? = some v ∧ T K cl w d v A1 ∧ A = A1 + Ar ∧ ∀ w' d'' v'' A'', T K cl w' d'' v'' A'' → Kp w w' Ar → Ts K cl w' (ds.set n d'') (vs.set n v'') (A'' + Ar)
  | [], _, _, _, _, e, _ => by simp at e
  | c :: r, vs, A, 0, d, e, h => by
    unfold Ts at h
    obtain ⟨v, vr, A1, A2, rfl, t, h, rfl⟩ := h
    have e' : c = d := by simpa using e
    subst e'
    refine ⟨v, A1, A2, by simp, t, rfl, fun w' d'' v'' A'' t' k => ?_⟩
    rw [List.set_cons_zero, List.set_cons_zero]
    unfold Ts
    exact ⟨v'', vr, A'', A2, rfl, t', Ts.keep _ _ _ k h, rfl⟩
  | c :: r, vs, A, n + 1, d, e, h => by
    unfold Ts at h
    obtain ⟨v, vr, A1, A2, rfl, t, h, rfl⟩ := h
    obtain ⟨v', B1, Br, e1, t1, e2, back⟩ := Ts.foc (n := n) (d := d) (by simpa using e) h
    subst e2
    refine ⟨v', B1, A1 + Br, by simpa using e1, t1, ft_ext fun b x => by simp only [add_at]; omega, fun w' d'' v'' A'' t' k => ?_⟩
    rw [List.set_cons_succ, List.set_cons_succ]
    unfold Ts
    exact ⟨v, _, A1, A'' + Br, rfl, T.keep _ _ _ k.left t, back w' d'' v'' A'' t' k.right, ft_ext fun b x => by simp only [add_at]; omega⟩
theorem Tp.foc : ∀ {ds : List (DK × D)} {vs : List V} {A : Ft} {a : DK} {d : D}, aget ds a = some d → Tp K cl w ds vs A →
    ∃ n v A1 Ar, (ds.map (·.1))[n]? = some a ∧ vs[n]? = some v ∧ (∀ m : Nat, m < n → (ds.map (·.1))[m]? ≠ some a) ∧ T K cl w d v A1 ∧ A = A1 + Ar ∧
      ∀ w' d'' v'' A'', T K cl w' d'' v'' A'' → Kp w w' Ar → Tp K cl w' (aput ds a d'') (vs.set n v'') (A'' + Ar)
  | [], _, _, _, _, e, _ => by unfold aget at e; cases e
  | (x, c) :: r, vs, A, a, d, e, h => by
    unfold Tp at h
    obtain ⟨v, vr, A1, A2, rfl, t, h, rfl⟩ := h
    unfold aget at e
    by_cases hx : x = a
    · rw [if_pos hx] at e
      cases e
      subst hx
      refine ⟨0, v, A1, A2, by simp, by simp, fun m hm => absurd hm (Nat.not_lt_zero _), t, rfl, fun w' d'' v'' A'' t' k => ?_⟩
      unfold aput
      rw [if_pos rfl, List.set_cons_zero]
      unfold Tp
      exact ⟨v'', vr, A'', A2, rfl, t', Tp.keep _ _ _ k h, rfl⟩
    · rw [if_neg hx] at e
      obtain ⟨n, v', B1, Br, e0, e1, no, t1, e2, back⟩ := Tp.foc e h
      subst e2
      refine ⟨n + 1, v', B1, A1 + Br, by simpa using e0, by simpa using e1, fun m hm => ?_, t1, ft_ext fun b x => by simp only [add_at]; omega, fun w' d'' v'' A'' t' k => ?_⟩
      · cases m with
        | zero => simpa using hx
        | succ m => simpa using no m (by omega)
      · unfold aput
        rw [if_neg hx, List.set_cons_succ]
        unfold Tp
        exact ⟨v, _, A1, A'' + Br, rfl, T.keep _ _ _ k.left t, back w' d'' v'' A'' t' k.right, ft_ext fun b x => by simp only [add_at]; omega⟩
theorem Tf.foc : ∀ {ds : List (Str × D)} {vs : List V} {A : Ft} {a : Str} {d : D}, aget ds a = some d → Tf K cl w ds vs A →
    ∃ n v A1 Ar, (ds.map (·.1))[n]? = some a ∧ vs[n]? = some v ∧ (∀ m : Nat, m < n → (ds.map (·.1))[m]? ≠ some a) ∧ T K cl w d v A1 ∧ A = A1 + Ar ∧
      ∀ w' d'' v'' A'', T K cl w' d'' v'' A'' → Kp w w' Ar → Tf K cl w' (aput ds a d'') (vs.set n v'') (A'' + Ar)
  | [], _, _, _, _, e, _ => by unfold aget at e; cases e
  | (x, c) :: r, vs, A, a, d, e, h => by
    unfold Tf at h
    obtain ⟨v, vr, A1, A2, rfl, t, h, rfl⟩ := h
    unfold aget at e
    by_cases hx : x = a
    · rw [if_pos hx] at e
      cases e
      subst hx
      refine ⟨0, v, A1, A2, by simp, by simp, fun m hm => absurd hm (Nat.not_lt_zero _), t, rfl, fun w' d'' v'' A'' t' k => ?_⟩
      unfold aput
      rw [if_pos rfl, List.set_cons_zero]
      unfold Tf
      exact ⟨v'', vr, A'', A2, rfl, t', Tf.keep _ _ _ k h, rfl⟩
    · rw [if_neg hx] at e
      obtain ⟨n, v', B1, Br, e0, e1, no, t1, e2, back⟩ := Tf.foc e h
      subst e2
      refine ⟨n + 1, v', B1, A1 + Br, by simpa using e0, by simpa using e1, fun m hm => ?_, t1, ft_ext fun b x => by simp only [add_at]; omega, fun w' d'' v'' A'' t' k => ?_⟩
      · cases m with
        | zero => simpa using hx
        | succ m => simpa using no m (by omega)
      · unfold aput
        rw [if_neg hx, List.set_cons_succ]
        unfold Tf
        exact ⟨v, _, A1, A'' + Br, rfl, T.keep _ _ _ k.left t, back w' d'' v'' A'' t' k.right, ft_ext fun b x => by simp only [add_at]; omega⟩
theorem aput_keys {κ : Type} [DecidableEq κ] : ∀ {ds : List (κ × D)} {a : κ} {d d' : D}, aget ds a = some d → (aput ds a d').map (·.1) = ds.map (·.1)
  | [], _, _, _, e => by unfold aget at e; cases e
  | (x, c) :: r, a, d, d', e => by
    unfold aget at e
    unfold aput
    by_cases hx : x = a
    · rw [if_pos hx, List.map_cons, List.map_cons, hx]
    · rw [if_neg hx] at e ⊢
      rw [List.map_cons, List.map_cons, aput_keys e]

/-- a list's object is written at a place -/
theorem set_getElem? {vs : List V} {n : Nat} {v : V} (h : vs[n]? = some v) : vs.set n v = vs := by
  obtain ⟨hi, e⟩ := List.getElem?_eq_some_iff.mp h
  rw [← e]; exact List.set_getElem_self hi
/-- where a step leads: the value by the heaps, and the way back -/
theorem T.stepL {o : Ow} {ds : List D} {v : V} {A : Ft} {n : Nat} {d : D} (e : ds[n]? = some d) (h : T K cl w (.lst o ds) v A) :
    ∃ a vs v' A1 Ar, v = .ref a ∧ LAt K w o a vs ∧ vs.length = ds.length ∧ vs[n]? = some v' ∧ T K cl w d v' A1 ∧ A = A1 + Ar ∧ ∀ w' d'' A'', T K cl w' d'' v' A'' → Kp w w' Ar → T K cl w' (.lst o (ds.set n d'')) v (A'' + Ar) := by
  unfold T at h
  obtain ⟨a, vs, B, rfl, sq, t, rfl⟩ := h
  obtain ⟨v', A1, Ar, e1, t1, rfl, back⟩ := Ts.foc e t
  refine ⟨a, vs, v', A1, Ar + foO a o, rfl, sq, Ts.length t, e1, t1, ft_ext fun b x => by simp only [add_at]; omega, fun w' d'' A'' t' k => ?_⟩
  unfold T
  have s := back w' d'' v' A'' t' k.left
  rw [set_getElem? e1] at s
  exact ⟨a, vs, A'' + Ar, rfl, sq.keep k, s, ft_ext fun b x => by simp only [add_at]; omega⟩
theorem T.stepT {ds : List D} {v : V} {A : Ft} {n : Nat} {d : D} (e : ds[n]? = some d) (h : T K cl w (.tup ds) v A) :
    ∃ a vs v' A1 Ar, v = .ref a ∧ SqT K w.F a vs ∧ vs.length = ds.length ∧ vs[n]? = some v' ∧ T K cl w d v' A1 ∧ A = A1 + Ar ∧ ∀ w' d'' A'', T K cl w' d'' v' A'' → Kp w w' Ar → T K cl w' (.tup (ds.set n d'')) v (A'' + Ar) := by
  unfold T at h
  obtain ⟨a, vs, rfl, sq, t⟩ := h
  obtain ⟨v', A1, Ar, e1, t1, rfl, back⟩ := Ts.foc e t
  refine ⟨a, vs, v', A1, Ar, rfl, sq, Ts.length t, e1, t1, rfl, fun w' d'' A'' t' k => ?_⟩
  unfold T
  have s := back w' d'' v' A'' t' k
  rw [set_getElem? e1] at s
  exact ⟨a, vs, rfl, same_seqT k.F sq, s⟩
theorem T.stepD {o : Ow} {kvs : List (DK × D)} {v : V} {A : Ft} {x : DK} {d : D} (e : aget kvs x = some d) (h : T K cl w (.dct o kvs) v A) :
    ∃ (a : Addr) (vs : List V) (u : HO) (n : Nat) (v' : V) (A1 Ar : Ft), v = .ref a ∧ hpO w o a u ∧ dkO (kvs.map (·.1)) vs u ∧ vs.length = kvs.length ∧ (kvs.map (·.1))[n]? = some x ∧ (∀ m : Nat, m < n → (kvs.map (·.1))[m]? ≠ some x) ∧ vs[n]? = some v' ∧
      T K cl w d v' A1 ∧ A = A1 + Ar ∧ ∀ w' d'' A'', T K cl w' d'' v' A'' → Kp w w' Ar → T K cl w' (.dct o (aput kvs x d'')) v (A'' + Ar) := by
  unfold T at h
  obtain ⟨a, vs, u, B, rfl, sq, dk, t, rfl⟩ := h
  obtain ⟨n, v', A1, Ar, e0, e1, no, t1, rfl, back⟩ := Tp.foc e t
  refine ⟨a, vs, u, n, v', A1, Ar + foO a o, rfl, sq, dk, Tp.length t, e0, no, e1, t1, ft_ext fun b x => by simp only [add_at]; omega, fun w' d'' A'' t' k => ?_⟩
  unfold T
  have s := back w' d'' v' A'' t' k.left
  rw [set_getElem? e1] at s
  exact ⟨a, vs, u, A'' + Ar, rfl, hpO.keep k sq, by rw [aput_keys e]; exact dk, s, ft_ext fun b x => by simp only [add_at]; omega⟩
theorem T.stepF {o : Ow} {c : Str} {fs : List (Str × D)} {v : V} {A : Ft} {x : Str} {d : D} (e : aget fs x = some d) (h : T K cl w (.ins o c fs) v A) :
    ∃ (a C dx : Addr) (vs : List V) (n : Nat) (v' : V) (A1 Ar : Ft), v = .ref a ∧ cl c = some C ∧ hpO w o a (.ins C dx ((fs.map (·.1)).zip vs)) ∧ vs.length = fs.length ∧ (fs.map (·.1))[n]? = some x ∧ (∀ m : Nat, m < n → (fs.map (·.1))[m]? ≠ some x) ∧ vs[n]? = some v' ∧
      T K cl w d v' A1 ∧ A = A1 + Ar ∧ ∀ w' d'' A'', T K cl w' d'' v' A'' → Kp w w' Ar → T K cl w' (.ins o c (aput fs x d'')) v (A'' + Ar) := by
  unfold T at h
  obtain ⟨a, C, dx, vs, B, rfl, hc, sq, t, rfl⟩ := h
  obtain ⟨n, v', A1, Ar, e0, e1, no, t1, rfl, back⟩ := Tf.foc e t
  refine ⟨a, C, dx, vs, n, v', A1, Ar + foO a o, rfl, hc, sq, Tf.length t, e0, no, e1, t1, ft_ext fun b x => by simp only [add_at]; omega, fun w' d'' A'' t' k => ?_⟩
  unfold T
  have s := back w' d'' v' A'' t' k.left
  rw [set_getElem? e1] at s
  exact ⟨a, C, dx, vs, A'' + Ar, rfl, hc, by rw [aput_keys e]; exact hpO.keep k sq, s, ft_ext fun b x => by simp only [add_at]; omega⟩

/-! ### places of the frame -/
theorem Es.var {ρ : Env} {σ : Sg} {A : Ft} {i : Nat} {d : D} (e : slot ρ i = some d) (h : Es K cl w ρ σ A) : ∃ v, σ[i]? = some (some v) ∧ Foc K cl w ρ σ A (.var i) d v := by
  obtain ⟨v, A1, Ar, e1, t, rfl, h2⟩ := Es.out e h
  refine ⟨v, e1, e, e1, A1, Ar, t, rfl, fun w' d'' A'' t' k => ?_⟩
  have := Es.into (slot_lt e) t' (h2.keep k)
  rw [set_same e1] at this
  exact this
theorem Foc.next {ρ : Env} {σ : Sg} {A : Ft} {p : Pl} {s : Stp} {dp d : D} {vp v : V} (f : Foc K cl w ρ σ A p dp vp) (e : getS dp s = some d)
    (h : ∀ Ap, T K cl w dp vp Ap → ∃ A1 Ar, T K cl w d v A1 ∧ Ap = A1 + Ar ∧ ∀ w' d'' A'', T K cl w' d'' v A'' → Kp w w' Ar → T K cl w' (setS dp s d'') vp (A'' + Ar)) :
    Foc K cl w ρ σ A (.stp p s) d v := by
  obtain ⟨eg, _, B1, Br, t, rfl, back⟩ := f
  obtain ⟨A1, Ar, t1, rfl, up⟩ := h B1 t
  refine ⟨by unfold getE; rw [eg]; exact e, trivial, A1, Ar + Br, t1, add_assoc' _ _ _, fun w' d'' A'' t' k => ?_⟩
  unfold setE
  rw [eg]
  have := back w' _ _ (up w' d'' A'' t' k.left) k.right
  rw [add_assoc'] at this
  exact this
theorem Foc.tree {ρ : Env} {σ : Sg} {A : Ft} {p : Pl} {d : D} {v : V} (f : Foc K cl w ρ σ A p d v) : ∃ A1 Ar, T K cl w d v A1 ∧ A = A1 + Ar := by
  obtain ⟨_, _, A1, Ar, t, e, _⟩ := f
  exact ⟨A1, Ar, t, e⟩
/-- where all that is held stays, places stay -/
theorem Foc.keep {ρ : Env} {σ : Sg} {A : Ft} {p : Pl} {d : D} {v : V} (k : Kp w w' A) (f : Foc K cl w ρ σ A p d v) : Foc K cl w' ρ σ A p d v := by
  obtain ⟨eg, ev, A1, Ar, t, rfl, back⟩ := f
  exact ⟨eg, ev, A1, Ar, T.keep _ _ _ k.left t, rfl, fun w2 d'' A'' t' k' => back w2 d'' A'' t' (k.right.trans k')⟩
end
end Ev

/-! Ev, part D: the small language and what it computes. -/
namespace Ev
open PySem PySem.Spec PyProof.Rows L2

inductive B2 where | add | sub | mul | fdiv | mod | pow | xor
  deriving DecidableEq
inductive C2 where | eq | ne | lt | le | gt | ge | is | isnot | inn | notin
  deriving DecidableEq
inductive F1 where | len | list | tuple | sum | all | any | int | str | abs
  deriving DecidableEq
inductive F2 where | max | min | gcd
  deriving DecidableEq
/-- methods that change the list that they are called of -/
inductive MM where | append | extend | insert | pop | popAt
  deriving DecidableEq

inductive E where
  | nil | cons (a r : E)
  | v (i : Nat) | fz (p : E) | mv (i : Nat) | g (x : Str)
  | int (i : Int) | str (x : Str) | bl (b : Bool) | non
  | ix (a i : E) | fld (a : E) (f : Str) | sl (a lo hi : E) | nop
  | bin (op : B2) (a b : E) | neg (a : E) | not (a : E)
  | cmp (op : C2) (a b : E) | chain (op op' : C2) (a b c : E)
  | and (a b : E) | or (a b : E) | ite (c a b : E)
  | tup (es : E) | lst (es : E)
  | call (f : Str) (as : E)
  | b1 (f : F1) (a : E) | b2 (f : F2) (a b : E) | isi (a : E) (ty : Str)
  | mm (m : MM) (o : E) (as : E)
  | comp (tg it cd el : E) (own : List Nat)
  | seq (a : E) | rng1 (a : E) | rng2 (a b : E) | rng3 (a b c : E) | enm (a : E) | zip (a b : E) | rev (a : E)
  | xfld (f : Str)
inductive S where
  | nil | cons (s r : S)
  | asg (t e : E) | par2 (i j : Nat) (a b : E) | par3 (i j k : Nat) (es : E)
  | aug (i : Nat) (op : B2) (e : E)
  | put (p i e : E) | augp (p i : E) (op : B2) (e : E)
  | ex (e : E) | ret (e : E) | retN
  | iff (c : E) (a b : S) | whl (c : E) (b : S) | forr (t it : E) (b : S)
  | brk | cont | pass
  | raise (c : Str)
  | tryy (b : S) (c : Str) (e : E)

/-- an exception: its class, its fields -/
structure Ex where
  c : Str
  fs : List (Str × D)
inductive Out (α : Type) where | ok (a : α) (ρ : Env) | exc (x : Ex) (ρ : Env) | bad
def Out.bind {α β : Type} : Out α → (α → Env → Out β) → Out β
  | .ok a ρ, f => f a ρ
  | .exc x ρ, _ => .exc x ρ
  | .bad, _ => .bad
/-- a call's end: the result, the trees of the parameters -/
inductive CO where | ok (d : D) (ds : List D) | exc (x : Ex) (ds : List D) | bad
inductive Fl where | nx (ρ : Env) | ret (d : D) (ρ : Env) | brk (ρ : Env) | ct (ρ : Env) | exc (x : Ex) (ρ : Env) | bad
abbrev CT := Str → Option (List D → CO)

/-! ### values -/
def b2n (b : Bool) : Int := if b then 1 else 0
mutual
/-- == -/
def eqD : D → D → Bool
  | .non, .non => true
  | .bl a, .bl b => a == b
  | .bl a, .int j => b2n a == j
  | .int i, .bl b => i == b2n b
  | .int i, .int j => i == j
  | .str x, .str y => x == y
  | .tup xs, .tup ys => eqL xs ys
  | .lst _ xs, .lst _ ys => eqL xs ys
  | _, _ => false
def eqL : List D → List D → Bool
  | [], [] => true
  | x :: xs, y :: ys => eqD x y && eqL xs ys
  | _, _ => false
end
mutual
/-- plain data: no dicts, no instances; texts are texts -/
def okD : D → Bool
  | .non => true | .bl _ => true | .int _ => true
  | .str x => x.cps.all (· < 0x110000)
  | .tup xs => okL xs
  | .lst _ xs => okL xs
  | .dct _ _ => false | .ins _ _ _ => false
def okL : List D → Bool
  | [] => true
  | d :: r => okD d && okL r
end
mutual
def dep : D → Nat
  | .tup xs => depL xs + 1
  | .lst _ xs => depL xs + 1
  | _ => 0
def depL : List D → Nat
  | [] => 0
  | d :: r => max (dep d) (depL r)
end
def flat : D → Bool
  | .non => true | .bl _ => true | .int _ => true | .str _ => true
  | _ => false
/-- may these two be compared by ==? -/
def okEq (a b : D) : Bool := (flat a && flat b) || (okD a && okD b && decide (dep a ≤ 64) && decide (dep b ≤ 64))
def eqO (a b : D) : Option Bool := if okEq a b then some (eqD a b) else none
def trD : D → Option Bool
  | .non => some false
  | .bl b => some b
  | .int i => some (i != 0)
  | .str x => if x.length ≤ sizeLine then some ((x.length : Int) != 0) else none
  | .tup xs => some (!xs.isEmpty)
  | .lst _ xs => some (!xs.isEmpty)
  | _ => none
def mulOk (i j : Int) : Prop := i.natAbs < 2 ^ 63 ∨ j.natAbs < 2 ^ 63 ∨ i.natAbs.log2 + j.natAbs.log2 < 1000000
def divOk (j : Int) : Prop := 0 < j ∧ j.natAbs.log2 < 9000
instance (i j : Int) : Decidable (mulOk i j) := by unfold mulOk; infer_instance
instance (j : Int) : Decidable (divOk j) := by unfold divOk; infer_instance
def binD : B2 → D → D → Option D
  | .add, .int i, .int j => some (.int (i + j))
  | .add, .str x, .str y => if x.length + y.length ≤ sizeLine then some (.str (x ++ y)) else none
  | .add, .tup xs, .tup ys => if frzL xs && frzL ys && decide (xs.length + ys.length ≤ sizeLine) then some (.tup (xs ++ ys)) else none
  | .add, .lst _ xs, .lst _ ys => if frzL xs && frzL ys && decide (xs.length + ys.length ≤ sizeLine) then some (.lst .own (xs ++ ys)) else none
  | .sub, .int i, .int j => some (.int (i - j))
  | .mul, .int i, .int j => if mulOk i j then some (.int (i * j)) else none
  | .fdiv, .int i, .int j => if divOk j then some (.int (i / j)) else none
  | .mod, .int i, .int j => if 0 < j then some (.int (i % j)) else none
  | .pow, .int i, .int j => if 0 ≤ j ∧ j ≤ 1000000 ∧ i.natAbs < 2 ^ 64 then some (.int (i ^ j.toNat)) else none
  | .xor, .int i, .int j => some (.int (Builtin.bitXor i j))
  | _, _, _ => none
def items : D → Option (List D)
  | .tup xs => some xs
  | .lst _ xs => some xs
  | _ => none
def cmpD : C2 → D → D → Option Bool
  | .eq, a, b => eqO a b
  | .ne, a, b => (eqO a b).map not
  | .lt, .int i, .int j => some (decide (i < j))
  | .le, .int i, .int j => some (decide (i ≤ j))
  | .gt, .int i, .int j => some (decide (j < i))
  | .ge, .int i, .int j => some (decide (j ≤ i))
  | .lt, .str x, .str y => some (decide (x.cps.toList < y.cps.toList))
  | .is, a, .non => some (match a with | .non => true | _ => false)
  | .isnot, a, .non => some (match a with | .non => false | _ => true)
  | .inn, a, .tup ys => if (flat a && ys.all flat) || (okD a && okL ys && decide (dep a ≤ 63) && decide (depL ys ≤ 63)) then some (ys.any fun y => eqD y a) else none
  | .inn, a, .lst _ ys => if (flat a && ys.all flat) || (okD a && okL ys && decide (dep a ≤ 63) && decide (depL ys ≤ 63)) then some (ys.any fun y => eqD y a) else none
  | .notin, a, .tup ys => if (flat a && ys.all flat) || (okD a && okL ys && decide (dep a ≤ 63) && decide (depL ys ≤ 63)) then some (!(ys.any fun y => eqD y a)) else none
  | .notin, a, .lst _ ys => if (flat a && ys.all flat) || (okD a && okL ys && decide (dep a ≤ 63) && decide (depL ys ≤ 63)) then some (!(ys.any fun y => eqD y a)) else none
  | _, _, _ => none
def allB : List D → Option (List Bool)
  | [] => some []
  | .bl b :: r => (allB r).map (b :: ·)
  | _ :: _ => none
def allI : List D → Option (List Int)
  | [] => some []
  | .int i :: r => (allI r).map (i :: ·)
  | _ :: _ => none
def b1D : F1 → D → Option D
  | .len, .tup xs => some (.int xs.length)
  | .len, .lst _ xs => some (.int xs.length)
  | .len, .str x => if x.length ≤ sizeLine then some (.int x.length) else none
  | .list, .tup xs => if frzL xs then some (.lst .own xs) else none
  | .list, .lst _ xs => if frzL xs then some (.lst .own xs) else none
  | .tuple, .tup xs => if frzL xs then some (.tup xs) else none
  | .tuple, .lst _ xs => if frzL xs then some (.tup xs) else none
  | .sum, .lst _ xs => (allI xs).map fun ns => .int ns.sum
  | .all, .lst _ xs => (allB xs).map fun bs => .bl (bs.all id)
  | .any, .lst _ xs => (allB xs).map fun bs => .bl (bs.any id)
  | .int, .int i => some (.int i)
  | .int, .bl b => some (.int (b2n b))
  | .str, .int i => if i.natAbs.log2 < 1920 then some (.str (toString i)) else none
  | .abs, .int i => some (.int (if i < 0 then -i else i))
  | _, _ => none
def b2D : F2 → D → D → Option D
  | .max, .int i, .int j => some (.int (if j > i then j else i))
  | .min, .int i, .int j => some (.int (if j < i then j else i))
  | .gcd, .int i, .int j => some (.int ((Nat.gcd i.natAbs j.natAbs : Nat) : Int))
  | _, _, _ => none
def isiTys : List Str := ["bool", "int", "str", "tuple", "list"]
def isiR (ty : Str) : D → Option Bool
  | .non => some false
  | .bl _ => some (decide (ty = "bool") || decide (ty = "int"))
  | .int _ => some (decide (ty = "int"))
  | .str _ => some (decide (ty = "str"))
  | .tup _ => some (decide (ty = "tuple"))
  | .lst _ _ => some (decide (ty = "list"))
  | .dct _ _ => none
  | .ins _ _ _ => none
def isiD (ty : Str) (d : D) : Option Bool := if ty ∈ isiTys then isiR ty d else none
/-- an item, the step to it -/
def ixD : D → D → Option (D × Option Stp)
  | .tup xs, .int i => (ixN xs.length i).bind fun n => (xs[n]?).map fun d => (d, some (.i n))
  | .lst _ xs, .int i => (ixN xs.length i).bind fun n => (xs[n]?).map fun d => (d, some (.i n))
  | .str x, .int i => if x.length ≤ sizeLine then (atI x.cps.toList i).map fun c => (.str ⟨#[c]⟩, none) else none
  | _, _ => none
def cutD (xs : List D) (lo hi : Option Int) : List D := (xs.drop (HT.sIx xs.length 0 lo)).take (HT.sIx xs.length xs.length hi - HT.sIx xs.length 0 lo)
def partD : D → Option (Option Int)
  | .non => some none
  | .int i => some (some i)
  | _ => none
def slD : D → Option Int → Option Int → Option D
  | .tup xs, lo, hi => if frzL xs then some (.tup (cutD xs lo hi)) else none
  | .lst _ xs, lo, hi => if frzL xs then some (.lst .own (cutD xs lo hi)) else none
  | _, _, _ => none
def isLst : D → Bool | .lst _ _ => true | _ => false
/-- a list's method: the new items, the result -/
def mmD : MM → List D → List D → Option (List D × D)
  | .append, xs, [d] => if xs.length < sizeLine then some (xs ++ [d], .non) else none
  | .extend, xs, [.lst _ ys] => if frzL ys && decide (xs.length + ys.length ≤ sizeLine) then some (xs ++ ys, .non) else none
  | .insert, xs, [.int i, d] => if 0 ≤ i ∧ i ≤ xs.length ∧ xs.length < sizeLine then some (xs.take i.toNat ++ d :: xs.drop i.toNat, .non) else none
  | .pop, xs, [] => (xs[xs.length - 1]?).map fun d => (xs.dropLast, d)
  | .popAt, xs, [.int i] => (ixN xs.length i).bind fun n => (xs[n]?).map fun d => (xs.eraseIdx n, d)
  | _, _, _ => none

/-- the classes' fields (of the program's text) -/
def fldTab : List (Str × List Str) := [("Book", ["keeper", "_entries", "_count"]), ("Flow", ["many", "_ends", "_room", "_at"]), ("Years", ["way", "_counts"]), ("Paper", ["sections"]), ("Scale", ["knots"]), ("Lateness", ["kind", "cost", "floor", "grace", "days"]), ("Grades", ["rows", "last"]), ("Awards", ["rows", "last"]), ("Tries", ["kind", "most", "bound", "cap", "_marks"]), ("Audit", ["whole_many", "bearable", "risk", "seen", "wrong"]), ("Needs", ["skills", "pairs"]), ("Finding", ["needs", "there", "gone"]), ("Trail", ["_steps"]), ("Line", ["words", "line", "place"]), ("Frame", ["word", "more", "wants", "inside", "weights"]), ("Board", ["book", "paper", "_rule", "_step", "_halves", "_answered", "_released", "_asked"]), ("Desk", ["board", "grades", "trail", "_sections"])]
def fldOk (c f : Str) : Bool := match fldTab.lookup c with | some l => l.contains f | none => false

/-! ### names -/
mutual
/-- no name is changed, nothing that is held is changed -/
def qt : E → Bool
  | .nil => true | .cons a r => qt a && qt r
  | .v _ => true | .fz _ => false | .mv _ => false | .g _ => true
  | .int _ => true | .str _ => true | .bl _ => true | .non => true
  | .ix a i => qt a && qt i | .fld a _ => qt a | .sl a lo hi => qt a && qt lo && qt hi | .nop => true
  | .bin _ a b => qt a && qt b | .neg a => qt a | .not a => qt a
  | .cmp _ a b => qt a && qt b | .chain _ _ a b c => qt a && qt b && qt c
  | .and a b => qt a && qt b | .or a b => qt a && qt b | .ite c a b => qt c && qt a && qt b
  | .tup es => qt es | .lst es => qt es
  | .call _ _ => false
  | .b1 _ a => qt a | .b2 _ a b => qt a && qt b | .isi a _ => qt a
  | .mm _ _ _ => false | .comp _ _ _ _ _ => false
  | .seq _ => false | .rng1 _ => false | .rng2 _ _ => false | .rng3 _ _ _ => false | .enm _ => false | .zip _ _ => false | .rev _ => false
  | .xfld _ => false
end
/-- a value is bound to a target -/
def bindT : E → D → Env → Option Env
  | .v i, d, ρ => if i < ρ.length then some (ρ.set i (some d)) else none
  | .tup es, .tup ds, ρ => bindTs es ds ρ
  | _, _, _ => none
where bindTs : E → List D → Env → Option Env
  | .nil, [], ρ => some ρ
  | .cons t r, d :: ds, ρ => (bindT t d ρ).bind fun ρ' => bindTs r ds ρ'
  | _, _, _ => none
/-- an argument: a value, or a place whose tree is handed on -/
inductive Av where | val (d : D) | pl (p : Pl)
def avD (ρ : Env) : Av → Option D
  | .val d => some d
  | .pl p => getE ρ p
def avDs (ρ : Env) : List Av → Option (List D)
  | [] => some []
  | a :: r => (avD ρ a).bind fun d => (avDs ρ r).map (d :: ·)
def avRoots : List Av → List Nat
  | [] => []
  | .val _ :: r => avRoots r
  | .pl p :: r => p.root :: avRoots r
def Av.isVar : Av → Bool | .pl (.stp _ _) => false | _ => true
/-- places that may be handed on at once -/
def avOk (avs : List Av) : Bool := (avs.all Av.isVar && decide (avRoots avs).Nodup) || decide ((avRoots avs).length = 1)
def giveA : List Av → List D → Env → Env
  | .pl p :: r, d :: ds, ρ => giveA r ds (setE ρ p d)
  | .val _ :: r, _ :: ds, ρ => giveA r ds ρ
  | _, _, ρ => ρ
def wipeE (ρ : Env) : List Nat → Env
  | [] => ρ
  | i :: r => (wipeE ρ r).set i none
def backE (ρ0 ρ : Env) : List Nat → Env
  | [] => ρ
  | i :: r => (backE ρ0 ρ r).set i (slot ρ0 i)
/-- what a loop walks: the items; a name's tree that is lent meanwhile -/
structure Wk where
  ds : List D
  lent : List (Nat × D)
def unlend (ρ : Env) : List (Nat × D) → Env
  | [] => ρ
  | (i, d) :: r => (unlend ρ r).set i (some d)

/-- a value to be kept: of no place, or frozen -/
def use : Out (D × Option Pl) → Out D
  | .ok (d, none) ρ => .ok d ρ
  | .ok (d, some _) ρ => if isFrz d then .ok d ρ else .bad
  | .exc x ρ => .exc x ρ
  | .bad => .bad
/-- the second operand may be asked: the first one is no place, or frozen, or the second one is quiet -/
def calmP (d : D) (p : Option Pl) (b : E) : Bool := p.isNone || isFrz d || qt b
def liftO {α : Type} : Option α → Env → Out α
  | some a, ρ => .ok a ρ
  | none, _ => .bad
def rangeI (lo c : Int) (n : Nat) : List D := (List.range n).map fun (k : Nat) => .int (lo + (k : Int) * c)
/-- range(i, j, c) may be asked -/
def rgOk (i j c : Int) : Bool := decide (c ≠ 0) && decide (c.natAbs < 1073741824) && Builtin.Range.small i j c && decide (0 ≤ Builtin.Range.rangeSize i j c)
def enumD (ds : List D) : List D := ds.zipIdx.map fun p => .tup [.int p.2, p.1]
def zipD (as bs : List D) : List D := (as.zip bs).map fun p => .tup [p.1, p.2]

def isTupD : D → Bool | .tup _ => true | _ => false
def walkP (d : D) : Pl → Env → Out Wk
  | .var i, ρ => match items d with
    | some ds => if frzL ds then .ok ⟨ds, [(i, d)]⟩ (ρ.set i none) else .bad
    | none => .bad
  | .stp _ _, _ => .bad
/-- the items of what is walked, by its value and place: a name's own tree is taken away meanwhile -/
def walkD : D → Option Pl → Env → Out Wk
  | d, none, ρ => if canFrz d then liftO ((items (freeze d)).map fun ds => ⟨ds, []⟩) ρ else .bad
  | d, some p, ρ =>
    if isFrz d then liftO ((items d).map fun ds => ⟨ds, []⟩) ρ
    else walkP d p ρ
/-- a comprehension's own names hold nothing, or what is frozen -/
def ownOk (ρ : Env) (own : List Nat) : Bool := own.all fun i => match slot ρ i with | some d => isFrz d | none => true
def compL (bnd : D → Env → Option Env) (tst : Env → Out Bool) (elt : Env → Out D) (wp : Env → Env) : List D → Env → Out (List D)
  | [], ρ => .ok [] ρ
  | d :: r, ρ => match bnd d (wp ρ) with
    | none => .bad
    | some ρ1 => (tst ρ1).bind fun b ρ2 =>
      if b then (elt ρ2).bind fun y ρ3 => (compL bnd tst elt wp r ρ3).bind fun ys ρ4 => .ok (y :: ys) ρ4
      else compL bnd tst elt wp r ρ2
def noExc {α : Type} : Out α → Out α
  | .exc _ _ => .bad
  | o => o
def tru (o : Out (D × Option Pl)) : Out Bool := o.bind fun (d, _) ρ => liftO (trD d) ρ
def tmp (o : Out D) : Out (D × Option Pl) := o.bind fun d ρ => .ok (d, none) ρ

/-- gcd is there where the text imports it -/
def f2Ok (G : Str → Option D) : F2 → Bool | .gcd => (G "math.gcd").isSome | _ => true
section
variable (C : CT) (G : Str → Option D)
mutual
def ev : E → Env → Out (D × Option Pl)
  | .v i, ρ => liftO ((slot ρ i).map fun d => (d, some (.var i))) ρ
  | .fz p, ρ => (ev p ρ).bind fun (d, pl) ρ1 => match pl with
    | none => .ok (d, none) ρ1
    | some pp => if isFrz d then .ok (d, none) ρ1 else if canFrz d then .ok (freeze d, none) (setE ρ1 pp (freeze d)) else .bad
  | .mv i, ρ => match slot ρ i with
    | some d => if canFrz d then .ok (d, none) (ρ.set i none) else .bad
    | none => .bad
  | .g x, ρ => liftO ((G x).map fun d => (d, none)) ρ
  | .int i, ρ => .ok (.int i, none) ρ
  | .str x, ρ => .ok (.str x, none) ρ
  | .bl b, ρ => .ok (.bl b, none) ρ
  | .non, ρ => .ok (.non, none) ρ
  | .ix a i, ρ => (ev a ρ).bind fun (d, p) ρ1 =>
    if calmP d p i then (use (ev i ρ1)).bind fun k ρ2 => match ixD d k with
      | some (y, s) => .ok (y, match p, s with | some pp, some ss => if qt i then some (.stp pp ss) else none | _, _ => none) ρ2
      | none => .bad
    else .bad
  | .fld a f, ρ => (ev a ρ).bind fun (d, p) ρ1 => match d with
    | .ins _ c fs => if fldOk c f then (match aget fs f with
      | some y => .ok (y, p.map fun pp => .stp pp (.f f)) ρ1
      | none => .bad) else .bad
    | _ => .bad
  | .sl a lo hi, ρ => (ev a ρ).bind fun (d, p) ρ1 =>
    if calmP d p lo && calmP d p hi then (use (ev lo ρ1)).bind fun l ρ2 => match partD l with
      | some lo' => (use (ev hi ρ2)).bind fun h ρ3 => (match partD h with
        | some hi' => tmp (liftO (slD d lo' hi') ρ3)
        | none => .bad)
      | none => .bad
    else .bad
  | .nop, ρ => .ok (.non, none) ρ
  | .bin op a b, ρ => (ev a ρ).bind fun (d, p) ρ1 =>
    if calmP d p b then (ev b ρ1).bind fun (e, _) ρ2 => tmp (liftO (binD op d e) ρ2) else .bad
  | .neg a, ρ => (ev a ρ).bind fun (d, _) ρ1 => match d with
    | .int i => .ok (.int (-i), none) ρ1
    | _ => .bad
  | .not a, ρ => (ev a ρ).bind fun (d, _) ρ1 => match trD d with
    | some b => .ok (.bl (!b), none) ρ1
    | none => .bad
  | .cmp op a b, ρ => (ev a ρ).bind fun (d, p) ρ1 =>
    if calmP d p b then (ev b ρ1).bind fun (e, _) ρ2 => match cmpD op d e with
      | some r => .ok (.bl r, none) ρ2
      | none => .bad
    else .bad
  | .chain op op' a b c, ρ => (use (ev a ρ)).bind fun d ρ1 => (use (ev b ρ1)).bind fun e ρ2 => match cmpD op d e with
    | some true => (use (ev c ρ2)).bind fun f ρ3 => (match cmpD op' e f with
      | some r => .ok (.bl r, none) ρ3
      | none => .bad)
    | some false => .ok (.bl false, none) ρ2
    | none => .bad
  | .and a b, ρ => (ev a ρ).bind fun (d, p) ρ1 => match trD d with
    | some true => ev b ρ1
    | some false => .ok (d, p) ρ1
    | none => .bad
  | .or a b, ρ => (ev a ρ).bind fun (d, p) ρ1 => match trD d with
    | some true => .ok (d, p) ρ1
    | some false => ev b ρ1
    | none => .bad
  | .ite c a b, ρ => (ev c ρ).bind fun (d, _) ρ1 => match trD d with
    | some true => ev a ρ1
    | some false => ev b ρ1
    | none => .bad
  | .tup es, ρ => (evs es ρ).bind fun ds ρ1 => if ds.length ≤ sizeLine then .ok (.tup ds, none) ρ1 else .bad
  | .lst es, ρ => (evs es ρ).bind fun ds ρ1 => if ds.length ≤ sizeLine then .ok (.lst .own ds, none) ρ1 else .bad
  | .call f as, ρ => match C f with
    | some F => (eva as ρ).bind fun avs ρ1 => (match avDs ρ1 avs with
      | some ds => if avOk avs then (match F ds with
        | .ok d ds' => .ok (d, none) (giveA avs ds' ρ1)
        | .exc x ds' => .exc x (giveA avs ds' ρ1)
        | .bad => .bad) else .bad
      | none => .bad)
    | none => .bad
  | .b1 f a, ρ => (ev a ρ).bind fun (d, _) ρ1 => tmp (liftO (b1D f d) ρ1)
  | .b2 f a b, ρ => if f2Ok G f then (use (ev a ρ)).bind fun d ρ1 => (use (ev b ρ1)).bind fun e ρ2 => tmp (liftO (b2D f d e) ρ2) else .bad
  | .isi a ty, ρ => (ev a ρ).bind fun (d, _) ρ1 => match isiD ty d with
    | some b => .ok (.bl b, none) ρ1
    | none => .bad
  | .mm m o as, ρ => (ev o ρ).bind fun (d, p) ρ1 => if isLst d then (match p with
    | some (.var i) => (evs as ρ1).bind fun ds ρ2 => (match slot ρ2 i with
      | some (.lst .own xs) => (match mmD m xs ds with
        | some (xs', d) => .ok (d, none) (ρ2.set i (some (.lst .own xs')))
        | none => .bad)
      | _ => .bad)
    | some pp => if qt as then (evs as ρ1).bind fun ds ρ2 => (match getE ρ2 pp with
      | some (.lst .own xs) => (match mmD m xs ds with
        | some (xs', d) => .ok (d, none) (setE ρ2 pp (.lst .own xs'))
        | none => .bad)
      | _ => .bad) else .bad
    | none => .bad) else .bad
  | .comp tg it cd el own, ρ => (evw it ρ).bind fun w ρ1 => if !ownOk ρ1 own then .bad else
    (noExc (compL (bindT tg) (fun ρ => tru (ev cd ρ)) (fun ρ => use (ev el ρ)) (fun ρ => wipeE ρ own) w.ds ρ1)).bind fun ys ρ2 =>
      if ys.length ≤ sizeLine then .ok (.lst .own ys, none) (unlend (backE ρ1 ρ2 own) w.lent) else .bad
  | _, _ => .bad
/-- values to be kept -/
def evs : E → Env → Out (List D)
  | .nil, ρ => .ok [] ρ
  | .cons a r, ρ => (use (ev a ρ)).bind fun d ρ1 => (evs r ρ1).bind fun ds ρ2 => .ok (d :: ds) ρ2
  | _, _ => .bad
/-- arguments -/
def eva : E → Env → Out (List Av)
  | .nil, ρ => .ok [] ρ
  | .cons a r, ρ => (ev a ρ).bind fun (d, p) ρ1 => match p with
    | none => (eva r ρ1).bind fun avs ρ2 => .ok (.val d :: avs) ρ2
    | some pp => if isFrz d then (eva r ρ1).bind fun avs ρ2 => .ok (.val d :: avs) ρ2
      else (match pp with
        | .var i => (eva r ρ1).bind fun avs ρ2 => .ok (.pl (.var i) :: avs) ρ2
        | pp => if qt r then (eva r ρ1).bind fun avs ρ2 => .ok (.pl pp :: avs) ρ2 else .bad)
  | _, _ => .bad
/-- what is walked -/
def evw : E → Env → Out Wk
  | .rng1 a, ρ => (use (ev a ρ)).bind fun d ρ1 => match d with
    | .int j => if -(2 ^ 62) ≤ j ∧ j < 2 ^ 62 then .ok ⟨rangeI 0 1 j.toNat, []⟩ ρ1 else .bad
    | _ => .bad
  | .rng2 a b, ρ => (use (ev a ρ)).bind fun d ρ1 => (use (ev b ρ1)).bind fun e ρ2 => match d, e with
    | .int i, .int j => if -(2 ^ 62) ≤ i ∧ i < 2 ^ 62 ∧ -(2 ^ 62) ≤ j ∧ j < 2 ^ 62 then .ok ⟨rangeI i 1 (j - i).toNat, []⟩ ρ2 else .bad
    | _, _ => .bad
  | .rng3 a b c, ρ => (use (ev a ρ)).bind fun d ρ1 => (use (ev b ρ1)).bind fun e ρ2 => (use (ev c ρ2)).bind fun f ρ3 => match d, e, f with
    | .int i, .int j, .int k => if rgOk i j k = true then .ok ⟨rangeI i k (Builtin.Range.rangeSize i j k).toNat, []⟩ ρ3 else .bad
    | _, _, _ => .bad
  | .enm a, ρ => (ev a ρ).bind fun (d, p) ρ1 => (walkD d p ρ1).bind fun w ρ2 => if isTupD d then .bad else .ok ⟨enumD w.ds, w.lent⟩ ρ2
  | .zip a b, ρ => (ev a ρ).bind fun (d, p) ρ1 => (walkD d p ρ1).bind fun w ρ2 =>
    (ev b ρ2).bind fun (e, p2) ρ3 => (walkD e p2 ρ3).bind fun w2 ρ4 => if isTupD d = isTupD e then .ok ⟨zipD w.ds w2.ds, w.lent ++ w2.lent⟩ ρ4 else .bad
  | .seq a, ρ => (ev a ρ).bind fun (d, p) ρ1 => walkD d p ρ1
  | _, _ => .bad
end
end

/-! ### statements -/
def forL (stp : D → Env → Fl) : List D → Env → Fl
  | [], ρ => .nx ρ
  | d :: r, ρ => match stp d ρ with
    | .nx ρ1 => forL stp r ρ1
    | .ct ρ1 => forL stp r ρ1
    | .brk ρ1 => .nx ρ1
    | o => o
def whL (c : Env → Out Bool) (b : Env → Fl) : Nat → Env → Fl
  | 0, _ => .bad
  | n + 1, ρ => match c ρ with
    | .ok true ρ1 => (match b ρ1 with
      | .nx ρ2 => whL c b n ρ2
      | .ct ρ2 => whL c b n ρ2
      | .brk ρ2 => .nx ρ2
      | o => o)
    | .ok false ρ1 => .nx ρ1
    | .exc x ρ1 => .exc x ρ1
    | .bad => .bad
def Fl.env (f : Env → Env) : Fl → Fl
  | .nx ρ => .nx (f ρ) | .ret d ρ => .ret d (f ρ) | .brk ρ => .brk (f ρ) | .ct ρ => .ct (f ρ) | .exc x ρ => .exc x (f ρ) | .bad => .bad
def Out.fl {α : Type} : Out α → (α → Env → Fl) → Fl
  | .ok a ρ, f => f a ρ
  | .exc x ρ, _ => .exc x ρ
  | .bad, _ => .bad
def excKey (c : Str) : Str := ⟨#[33] ++ c.cps⟩
def par3F (i j k : Nat) : List D → Env → Fl
  | [x, y, z], ρ => if i < ρ.length ∧ j < ρ.length ∧ k < ρ.length then .nx (((ρ.set i (some x)).set j (some y)).set k (some z)) else .bad
  | _, _ => .bad
/-- an item is stored at a place's list -/
def putF : Option Pl → D → D → D → Env → Fl
  | some pp, .lst .own xs, .int n, y, ρ => match ixN xs.length n with
    | some j => .nx (setE ρ pp (.lst .own (xs.set j y)))
    | none => .bad
  | _, _, _, _, _ => .bad
def itmF : Option Pl → D → D → Option (Pl × List D × Nat × D)
  | some pp, .lst .own xs, .int n => (ixN xs.length n).bind fun j => (xs[j]?).map fun x => (pp, xs, j, x)
  | _, _, _ => none
def liftF : Option Env → Fl
  | some ρ => .nx ρ
  | none => .bad
mutual
/-- an except suite's value -/
def evh : E → Ex → Option D
  | .int i, _ => some (.int i)
  | .str s, _ => some (.str s)
  | .bl b, _ => some (.bl b)
  | .non, _ => some .non
  | .xfld f, x => aget x.fs f
  | .tup es, x => (evhs es x).bind fun ds => if ds.length ≤ sizeLine then some (.tup ds) else none
  | .lst es, x => (evhs es x).bind fun ds => if ds.length ≤ sizeLine then some (.lst .own ds) else none
  | _, _ => none
def evhs : E → Ex → Option (List D)
  | .nil, _ => some []
  | .cons a r, x => (evh a x).bind fun d => (evhs r x).map (d :: ·)
  | _, _ => none
end
mutual
/-- the slots that a block stores -/
def asgT : E → List Nat
  | .v i => [i] | .tup es => asgT es | .cons a r => asgT a ++ asgT r | _ => []
end
def asgS : S → List Nat
  | .nil => [] | .cons s r => asgS s ++ asgS r
  | .asg t _ => asgT t | .par2 i j _ _ => [i, j] | .par3 i j k _ => [i, j, k] | .aug i _ _ => [i]
  | .iff _ a b => asgS a ++ asgS b | .whl _ b => asgS b | .forr t _ b => asgT t ++ asgS b
  | .tryy b _ _ => asgS b
  | _ => []
section
variable (C : CT) (G : Str → Option D) (isSub : Str → Str → Bool) (nW : Nat)
def evS : S → Env → Fl
  | .nil, ρ => .nx ρ
  | .cons s r, ρ => match evS s ρ with
    | .nx ρ1 => evS r ρ1
    | o => o
  | .asg t e, ρ => (use (ev C G e ρ)).fl fun d ρ1 => liftF (bindT t d ρ1)
  | .par2 i j a b, ρ => (use (ev C G a ρ)).fl fun d ρ1 => (use (ev C G b ρ1)).fl fun e ρ2 =>
    if i < ρ2.length ∧ j < ρ2.length then .nx ((ρ2.set i (some d)).set j (some e)) else .bad
  | .aug i op e, ρ => match slot ρ i with
    | some x => if flat x then (use (ev C G e ρ)).fl fun d ρ1 => (match binD op x d with
      | some y => if flat y then .nx (ρ1.set i (some y)) else .bad
      | none => .bad) else .bad
    | none => .bad
  | .put p i e, ρ => (use (ev C G e ρ)).fl fun y ρ1 => (ev C G p ρ1).fl fun (d, pp) ρ2 =>
    if qt i then (use (ev C G i ρ2)).fl fun k ρ3 => putF pp d k y ρ3 else .bad
  | .augp p i op e, ρ => (ev C G p ρ).fl fun (d, pp) ρ1 =>
    if qt i && qt e then (use (ev C G i ρ1)).fl fun k ρ2 => (match itmF pp d k with
      | some (p', xs, j, x) => if flat x then (use (ev C G e ρ2)).fl fun z ρ3 => (match binD op x z with
        | some y => if flat y then .nx (setE ρ3 p' (.lst .own (xs.set j y))) else .bad
        | none => .bad) else .bad
      | none => .bad) else .bad
  | .ex e, ρ => (ev C G e ρ).fl fun _ ρ1 => .nx ρ1
  | .ret e, ρ => (use (ev C G e ρ)).fl fun d ρ1 => .ret d ρ1
  | .retN, ρ => .ret .non ρ
  | .iff c a b, ρ => (tru (ev C G c ρ)).fl fun t ρ1 => if t then evS a ρ1 else evS b ρ1
  | .whl c b, ρ => whL (fun ρ => tru (ev C G c ρ)) (evS b) nW ρ
  | .forr t it b, ρ => (evw C G it ρ).fl fun w ρ1 => if w.lent.any (fun p => (asgT t ++ asgS b).contains p.1) then .bad else (forL (fun d ρ => match bindT t d ρ with
      | some ρ' => evS b ρ'
      | none => .bad) w.ds ρ1).env fun ρ => unlend ρ w.lent
  | .brk, ρ => .brk ρ
  | .cont, ρ => .ct ρ
  | .pass, ρ => .nx ρ
  | .raise c, ρ => (match G (excKey c) with | some (.bl true) => .exc ⟨c, []⟩ ρ | _ => .bad)
  | .tryy b c e, ρ => if (G (excKey c)).isSome then (match evS b ρ with
    | .exc x ρ1 => if isSub x.c c then (match evh e x with
      | some d => .ret d ρ1
      | none => .bad) else .exc x ρ1
    | o => o) else .bad
  | .par3 i j k es, ρ => (evs C G es ρ).fl fun ds ρ1 => par3F i j k ds ρ1
end
/-- a def: its parameters' number, its slots' number, its body -/
structure Fd where
  np : Nat
  ns : Nat
  body : S
def start (n : Nat) (ds : List D) : Env := ds.map some ++ List.replicate (n - ds.length) none
/-- what the parameters hold behind the body: as they were handed in where the body stores their slots (they are frozen then) -/
def behind (as : List Nat) (ds : List D) (ρ : Env) : List D := ds.zipIdx.map fun p => if p.2 ∈ as then p.1 else (slot ρ p.2).getD .non
def parOk (as : List Nat) (ds : List D) (ρ : Env) : Bool := ds.zipIdx.all fun p => if p.2 ∈ as then isFrz p.1 else (slot ρ p.2).isSome
def callF (C : CT) (G : Str → Option D) (isSub : Str → Str → Bool) (nW : Nat) (fd : Fd) (ds : List D) : CO :=
  if ds.length = fd.np then match evS C G isSub nW fd.body (start fd.ns ds) with
    | .nx ρ => if parOk (asgS fd.body) ds ρ then .ok .non (behind (asgS fd.body) ds ρ) else .bad
    | .ret d ρ => if parOk (asgS fd.body) ds ρ then .ok d (behind (asgS fd.body) ds ρ) else .bad
    | .exc x ρ => if parOk (asgS fd.body) ds ρ then .exc x (behind (asgS fd.body) ds ρ) else .bad
    | _ => .bad
  else .bad
structure Prg where
  fns : Str → Option Fd
  G : Str → Option D
  isSub : Str → Str → Bool
def nWhile : Nat := 1000000
def callN (P : Prg) : Nat → CT
  | 0, _ => none
  | n + 1, f => (P.fns f).map fun fd => callF (callN P n) P.G P.isSub nWhile fd
end Ev

/-! Ev, part E: which terms tell which text; readings. -/
namespace Ev
open PySem PySem.Spec PyProof.Rows L2

/-! ### the check: the term tells the text -/
def B2.op : B2 → Operator
  | .add => .Add | .sub => .Sub | .mul => .Mult | .fdiv => .FloorDiv | .mod => .Mod | .pow => .Pow | .xor => .BitXor
def C2.op : C2 → CmpOp
  | .eq => .Eq | .ne => .NotEq | .lt => .Lt | .le => .LtE | .gt => .Gt | .ge => .GtE | .is => .Is | .isnot => .IsNot | .inn => .In | .notin => .NotIn
def F1.nm : F1 → Str
  | .len => "len" | .list => "list" | .tuple => "tuple" | .sum => "sum" | .all => "all" | .any => "any" | .int => "int" | .str => "str" | .abs => "abs"
def F2.nm : F2 → Str
  | .max => "max" | .min => "min" | .gcd => "gcd"
def MM.nm : MM → Str
  | .append => "append" | .extend => "extend" | .insert => "insert" | .pop => "pop" | .popAt => "pop"
def visB (sc : Scope) (x : Str) : Bool := decide (sc.names.lookup x = some .local) || decide (sc.names.lookup x = some .cell) || decide (sc.names.lookup x = some .free)
def locB (sc : Scope) (x : Str) : Bool := decide (sc.names.lookup x = some .local) || decide (sc.names.lookup x = some .cell)
def gloB (sc : Scope) (x : Str) : Bool := decide (sc.names.lookup x = some .globalImplicit)
/-- no name of a text -/
def mark (x : Str) : Bool := x == "math.gcd" || x.cps[0]? == some 33
def okN (x : Str) : Bool := !(x == "__debug__") && !(x == "__classdict__") && !(x == "__name__") && !mark x
def noSl : Expr → Bool | .Slice .. => false | .Starred .. => false | _ => true
def plainE : Expr → Bool | .Starred .. => false | _ => true
def noCall : Expr → Bool | .Call .. => false | _ => true
def noSet : Expr → Bool | .Set .. => false | _ => true
def isTup : Expr → Bool | .Tuple .. => true | _ => false
def isNop : E → Bool | .nop => true | _ => false
def isT : E → Bool | .bl b => b | _ => false
def isPl : E → Bool | .v _ => true | .ix _ _ => true | .fld _ _ => true | _ => false

/-- the names of a target may be stored -/
def stB (raw : Scope) : Expr → Bool
  | .Name x _ => decide (raw.names.lookup x = some .local) || decide (raw.names.lookup x = some .cell)
  | .Tuple ts _ _ => go ts
  | _ => true
where go : List Expr → Bool
  | [] => true
  | t :: ts => stB raw t && go ts
section
variable (N : List Str)
def chkV (sc : Scope) (i : Nat) (x : Str) : Bool := decide (N[i]? = some x) && visB sc x && okN x
/-- a target -/
def chkT (sc : Scope) : E → Expr → Bool
  | .v i, .Name x _ => decide (N[i]? = some x) && locB sc x && okN x
  | .tup es, .Tuple ts _ _ => chkTs es ts && decide (2 ≤ ts.length)
  | _, _ => false
where chkTs : E → List Expr → Bool
  | .nil, [] => true
  | .cons a r, t :: ts => chkT sc a t && plainE t && chkTs r ts
  | _, _ => false
mutual
def chk (sc : Scope) : E → Expr → Bool
  | .v i, .Name x _ => chkV N sc i x
  | .mv i, .Name x _ => chkV N sc i x
  | .fz p, e => isPl p && chk sc p e
  | .g x, .Name y _ => decide (x = y) && gloB sc y && okN y
  | .int i, .Constant (.int j) _ _ => decide (i = j)
  | .str x, .Constant (.str y) _ _ => decide (x = y)
  | .bl b, .Constant (.bool c) _ _ => decide (b = c)
  | .non, .Constant .none _ _ => true
  | .ix a i, .Subscript b j _ => chk sc a b && chk sc i j && noSl j
  | .fld a f, .Attribute b g _ => chk sc a b && decide (f = g) && noCall b
  | .sl a lo hi, .Subscript b (.Slice l h none _) _ => chk sc a b && (match l with | some l' => chk sc lo l' | none => isNop lo) && (match h with | some h' => chk sc hi h' | none => isNop hi)
  | .bin op a b, .BinOp a' op' b' _ => decide (op' = op.op) && chk sc a a' && chk sc b b'
  | .neg a, .UnaryOp .USub b _ => chk sc a b
  | .not a, .UnaryOp .Not b _ => chk sc a b
  | .cmp op a b, .Compare a' [op'] [b'] _ => decide (op' = op.op) && chk sc a a' && chk sc b b' && noSet b'
  | .chain op op' a b c, .Compare a' [q, q'] [b', c'] _ => decide (q = op.op) && decide (q' = op'.op) && chk sc a a' && chk sc b b' && chk sc c c' && noSet c'
  | .and a b, .BoolOp .And (x :: y :: r) p => chk sc a x && (match r with | [] => chk sc b y | _ => chk sc b (.BoolOp .And (y :: r) p))
  | .or a b, .BoolOp .Or (x :: y :: r) p => chk sc a x && (match r with | [] => chk sc b y | _ => chk sc b (.BoolOp .Or (y :: r) p))
  | .ite c a b, .IfExp c' a' b' _ => chk sc c c' && chk sc a a' && chk sc b b'
  | .tup es, .Tuple xs _ _ => chks sc es xs
  | .lst es, .List xs _ => chks sc es xs
  | .call f as, .Call (.Name g _) es [] _ => decide (f = g) && gloB sc g && okN g && chks sc as es && decide (es ≠ [])
  | .b1 f a, .Call (.Name g _) [e] [] _ => decide (g = f.nm) && gloB sc g && chk sc a e && plainE e
  | .b2 f a b, .Call (.Name g _) [d, e] [] _ => decide (g = f.nm) && gloB sc g && chk sc a d && chk sc b e && plainE d && plainE e
  | .isi a ty, .Call (.Name g _) [e, .Name t _] [] _ => decide (g = "isinstance") && gloB sc g && chk sc a e && plainE e && decide (t = ty) && gloB sc t && decide (t ∈ isiTys)
  | .mm m o as, .Call (.Attribute o' g ap) es [] cp => decide (g = m.nm) && chk sc o o' && noCall o' && chks sc as es && (ap.endLine == cp.line) && decide (es.length < 30) && (decide (m = .pop) == es.isEmpty)
  | .comp tg it cd el own, .ListComp elt [⟨t, iter, ifs, 0⟩] scope _ =>
    chkW sc (isTup t) it iter && chkT N (relS scope sc) tg t && chk (relS scope sc) el elt &&
      (match ifs with | [] => isT cd | [c] => chk (relS scope sc) cd c | _ => false) && blkC N sc scope (own.map fun i => (N.getD i "", i)) && (asgT tg).all (fun i => own.contains i) && stB scope t && noSet iter
  | _, _ => false
def chks (sc : Scope) : E → List Expr → Bool
  | .nil, [] => true
  | .cons a r, e :: es => chk sc a e && plainE e && chks sc r es
  | _, _ => false
def chkW (sc : Scope) (tp : Bool) : E → Expr → Bool
  | .rng1 a, .Call (.Name g _) [e] [] _ => decide (g = "range") && gloB sc g && chk sc a e && plainE e
  | .rng2 a b, .Call (.Name g _) [d, e] [] _ => decide (g = "range") && gloB sc g && chk sc a d && chk sc b e && plainE d && plainE e
  | .rng3 a b c, .Call (.Name g _) [d, e, f] [] _ => decide (g = "range") && gloB sc g && chk sc a d && chk sc b e && chk sc c f && plainE d && plainE e && plainE f
  | .enm a, .Call (.Name g _) [e] [] _ => tp && decide (g = "enumerate") && gloB sc g && chk sc a e && plainE e
  | .zip a b, .Call (.Name g _) [d, e] [] _ => tp && decide (g = "zip") && gloB sc g && chk sc a d && chk sc b e && plainE d && plainE e
  | .seq a, e => chk sc a e && noSet e
  | _, _ => false
end
end

/-! ### readings -/
section
variable (K : PySem.W.Frag) (cl : Str → Option Addr)
/-- how an exception lies -/
def ExR (w : Hs) (x : Ex) (cls : Value) (dd : Option Addr) : Prop :=
  ∃ C, cl x.c = some C ∧ cls = .ref C ∧ ((x.fs = [] ∧ dd = none) ∨ ∃ a vs, dd = some a ∧ Rd w.F a (.xd ((x.fs.map (·.1)).zip vs)) ∧ Tf K cl w x.fs vs 0)
/-- the ways in which an answer lies -/
abbrev Ly (α β : Type) := Hs → Env → Sg → Ft → α → β → Ft → Prop
def lyD : Ly D V := fun w _ _ _ d v B => T K cl w d v B
def lyV : Ly (D × Option Pl) V := fun w ρ σ A a v B => match a with
  | (d, none) => T K cl w d v B
  | (d, some p) => B = 0 ∧ Foc K cl w ρ σ A p d v
def lyL : Ly (List D) (List V) := fun w _ _ _ ds vs B => Ts K cl w ds vs B
def lyB : Ly Bool Bool := fun _ _ _ _ a b B => a = b ∧ B = 0
def lyA : Ly (List Av) (List V) := fun w ρ σ A as vs B => go w ρ σ A as vs B
where go (w : Hs) (ρ : Env) (σ : Sg) (A : Ft) : List Av → List V → Ft → Prop
  | [], vs, B => vs = [] ∧ B = 0
  | .val d :: r, vs, B => ∃ v vr B1 B2, vs = v :: vr ∧ T K cl w d v B1 ∧ go w ρ σ A r vr B2 ∧ B = B1 + B2
  | .pl p :: r, vs, B => ∃ v vr, vs = v :: vr ∧ (match p with | .var i => σ[i]? = some (some v) | p => ∃ d, Foc K cl w ρ σ A p d v) ∧ go w ρ σ A r vr B
/-- from w, A, ρ (what is held of the names; σ: their values): an outcome serves the wishes Q, W. q: nothing of that is changed -/
def oG {α β : Type} (ly : Ly α β) (q : Bool) (w : Hs) (A : Ft) (ρ : Env) (σ : Sg) : Out α → (β → Hp → Prop) → WX → Prop
  | .ok a ρ', Q, _ => ∀ w' A' B b, Gd w' (A' + B) → Es K cl w' ρ' σ A' → ly w' ρ' σ A' a b B → Ext w A w' (A' + B) → (q = true → ρ' = ρ ∧ A' = A ∧ Kp w w' A) → Q b w'.H
  | .exc x ρ', _, W => ∀ w' A' cls dd, Gd w' A' → Es K cl w' ρ' σ A' → Ext w A w' A' → ExR K cl w' x cls dd → W cls dd σ w'.H
  | .bad, _, _ => False
/-- a reading -/
def tG {α β : Type} (ly : Ly α β) (q : Bool) (f : Env → Out α) (W : WX) : Sg → Hp → (β → Hp → Prop) → Prop := fun σ H Q =>
  ∃ w A ρ, w.H = H ∧ Gd w A ∧ Es K cl w ρ σ A ∧ oG K cl ly q w A ρ σ (f ρ) Q W
end

section
variable {K : PySem.W.Frag} {cl : Str → Option Addr}
/-- where a walk stands: from w0, A0, ρ0 at w, A, ρ, with C in hand -/
structure At (q : Bool) (w0 : Hs) (A0 : Ft) (ρ0 : Env) (σ : Sg) (w : Hs) (A C : Ft) (ρ : Env) : Prop where
  gd : Gd w (A + C)
  es : Es K cl w ρ σ A
  ext : Ext w0 A0 w (A + C)
  qq : q = true → ρ = ρ0 ∧ A = A0 ∧ Kp w0 w A0
theorem At.start {q : Bool} {w : Hs} {A : Ft} {ρ : Env} {σ : Sg} (g : Gd w A) (e : Es K cl w ρ σ A) : At (K := K) (cl := cl) q w A ρ σ w A 0 ρ :=
  ⟨by rw [add0]; exact g, e, by rw [add0]; exact .refl _ _, fun _ => ⟨rfl, rfl, .refl _ _⟩⟩
variable {α β γ δ : Type} {ly : Ly α β} {ly2 : Ly γ δ} {q q1 : Bool} {w0 w : Hs} {A0 A C : Ft} {ρ0 ρ : Env} {σ : Sg} {Q : δ → Hp → Prop} {W : WX}
/-- behind a step with B more in hand -/
theorem At.more {w1 : Hs} {A1 B1 : Ft} {ρ1 : Env} (a : At (K := K) (cl := cl) q w0 A0 ρ0 σ w A C ρ) (g : Gd w1 (A1 + B1)) (e : Es K cl w1 ρ1 σ A1) (x : Ext w A w1 (A1 + B1)) (hq : q = true → q1 = true) (k : q1 = true → ρ1 = ρ ∧ A1 = A ∧ Kp w w1 A) :
    At (K := K) (cl := cl) q w0 A0 ρ0 σ w1 A1 (B1 + C) ρ1 ∧ Kp w w1 C := by
  have g2 : Gd w1 (A1 + (B1 + C)) := by rw [← add_assoc']; exact x.gd a.gd g
  refine ⟨⟨g2, e, ?_, fun z => ?_⟩, x.keeps a.gd⟩
  · rw [← add_assoc']
    exact a.ext.trans x.side
  · obtain ⟨h1, h2, h3⟩ := k (hq z)
    obtain ⟨h4, h5, h6⟩ := a.qq z
    subst h1 h2
    exact ⟨h4, h5, h6.trans (by rw [← h5]; exact h3)⟩
/-- one part behind another -/
theorem oG.bind {o : Out α} {f : α → Env → Out γ} {R : β → Hp → Prop} (h : oG K cl ly2 q w0 A0 ρ0 σ (o.bind f) Q W) (a : At (K := K) (cl := cl) q w0 A0 ρ0 σ w A C ρ) (hq : q = true → q1 = true)
    (k : ∀ x ρ1 w1 A1 B1 b, At (K := K) (cl := cl) q w0 A0 ρ0 σ w1 A1 (B1 + C) ρ1 → Kp w w1 C → Gd w1 (A1 + B1) → Ext w A w1 (A1 + B1) → ly w1 ρ1 σ A1 x b B1 → (q1 = true → ρ1 = ρ ∧ A1 = A ∧ Kp w w1 A) → oG K cl ly2 q w0 A0 ρ0 σ (f x ρ1) Q W → R b w1.H) :
    oG K cl ly q1 w A ρ σ o R W := by
  cases o with
  | bad => exact (show False from h).elim
  | ok x ρ1 =>
    intro w1 A1 B1 b g e l x1 k1
    obtain ⟨a1, kp⟩ := a.more g e x1 hq k1
    exact k x ρ1 w1 A1 B1 b a1 kp g x1 l k1 h
  | exc x ρ1 =>
    intro w1 A1 cls dd g e x1 r
    have h' : ∀ w' A' cls dd, Gd w' A' → Es K cl w' ρ1 σ A' → Ext w0 A0 w' A' → ExR K cl w' x cls dd → W cls dd σ w'.H := h
    exact h' w1 A1 cls dd g e (a.ext.trans (x1.pre fun b y p => by rw [add_at]; omega)) r
/-- the last part, the very outcome -/
theorem oG.tail {o : Out γ} (h : oG K cl ly2 q w0 A0 ρ0 σ o Q W) (a : At (K := K) (cl := cl) q w0 A0 ρ0 σ w A C ρ) (hq : q = true → q1 = true) : oG K cl ly2 q1 w A ρ σ o Q W := by
  cases o with
  | bad => exact (show False from h).elim
  | ok x ρ1 =>
    intro w1 A1 B1 b g e l x1 k1
    obtain ⟨a1, kp⟩ := a.more g e x1 hq k1
    refine h w1 A1 B1 b g e l (a1.ext.weak fun b y p => by simp only [add_at] at p ⊢; omega) a1.qq
  | exc x ρ1 =>
    intro w1 A1 cls dd g e x1 r
    exact h w1 A1 cls dd g e (a.ext.trans (x1.pre fun b y p => by rw [add_at]; omega)) r
/-- an end: a result that lies at w' with B in hand, what is held of the names as it was -/
theorem oG.fin {x : γ} {b : δ} {w' : Hs} {B : Ft} (h : oG K cl ly2 q w0 A0 ρ0 σ (.ok x ρ) Q W) (a : At (K := K) (cl := cl) q w0 A0 ρ0 σ w A C ρ) (g : Gd w' (A + B)) (x1 : Ext w (A + C) w' (A + B)) (kA : Kp w w' A) (l : ly2 w' ρ σ A x b B) : Q b w'.H := by
  exact h w' A B b g (a.es.keep kA) l (a.ext.trans x1) fun z => by
    obtain ⟨h1, h2, h3⟩ := a.qq z
    exact ⟨h1, h2, h3.trans (by rw [← h2]; exact kA)⟩
/-- .. a part of what is in hand, the heap as it is -/
theorem oG.fin1 {x : γ} {b : δ} {B : Ft} (h : oG K cl ly2 q w0 A0 ρ0 σ (.ok x ρ) Q W) (a : At (K := K) (cl := cl) q w0 A0 ρ0 σ w A C ρ) (hB : ∀ b y, B b y ≤ C b y) (l : ly2 w ρ σ A x b B) : Q b w.H :=
  h.fin a (a.gd.sub fun b y => by have := hB b y; simp only [add_at]; omega) ((Ext.refl _ _).weak fun b y p => by have := hB b y; simp only [add_at] at p ⊢; omega) (.refl _ _) l
theorem oG.fin0 {x : γ} {b : δ} (h : oG K cl ly2 q w0 A0 ρ0 σ (.ok x ρ) Q W) (a : At (K := K) (cl := cl) q w0 A0 ρ0 σ w A C ρ) (l : ly2 w ρ σ A x b 0) : Q b w.H :=
  h.fin1 a (fun b y => Nat.zero_le _) l
/-- another wish -/
theorem oG.imp {α β : Type} {ly : Ly α β} {q : Bool} {w0 : Hs} {A0 : Ft} {ρ0 : Env} {σ : Sg} {o : Out α} {Q Q' : β → Hp → Prop} {W : WX} (h : oG K cl ly q w0 A0 ρ0 σ o Q W) (k : ∀ b H, Q b H → Q' b H) : oG K cl ly q w0 A0 ρ0 σ o Q' W := by
  cases o with
  | bad => exact h
  | ok x ρ1 => exact fun w1 A1 B1 b g e l x1 k1 => k _ _ (h w1 A1 B1 b g e l x1 k1)
  | exc x ρ1 => exact h
/-- a value to be kept, behind it more -/
theorem oG.bindU {o : Out (D × Option Pl)} {f : D → Env → Out γ} {R : V → Hp → Prop} (h : oG K cl ly2 q w0 A0 ρ0 σ ((use o).bind f) Q W) (a : At (K := K) (cl := cl) q w0 A0 ρ0 σ w A C ρ) (hq : q = true → q1 = true)
    (k : ∀ x ρ1 w1 A1 B1 b, At (K := K) (cl := cl) q w0 A0 ρ0 σ w1 A1 (B1 + C) ρ1 → Kp w w1 C → Gd w1 (A1 + B1) → Ext w A w1 (A1 + B1) → T K cl w1 x b B1 → (q1 = true → ρ1 = ρ ∧ A1 = A ∧ Kp w w1 A) → oG K cl ly2 q w0 A0 ρ0 σ (f x ρ1) Q W → R b w1.H) :
    oG K cl (lyV K cl) q1 w A ρ σ o R W := by
  cases o with
  | bad => exact (show False from h).elim
  | ok x ρ1 =>
    obtain ⟨d, pl⟩ := x
    intro w1 A1 B1 b g e l x1 k1
    obtain ⟨a1, kp⟩ := a.more g e x1 hq k1
    cases pl with
    | none => exact k d ρ1 w1 A1 B1 b a1 kp g x1 l k1 h
    | some p =>
      obtain ⟨rfl, fc⟩ := l
      by_cases hf : isFrz d = true
      · have h' : oG K cl ly2 q w0 A0 ρ0 σ (f d ρ1) Q W := by
          have e2 : use (.ok (d, some p) ρ1) = .ok d ρ1 := if_pos hf
          rw [e2] at h
          exact h
        obtain ⟨A2, Ar, t, _⟩ := fc.tree
        rw [T.frz0 _ _ _ hf t] at t
        exact k d ρ1 w1 A1 0 b a1 kp g x1 t k1 h'
      · have e2 : use (.ok (d, some p) ρ1) = .bad := if_neg hf
        rw [e2] at h
        exact (show False from h).elim
  | exc x ρ1 =>
    intro w1 A1 cls dd g e x1 r
    have h' : ∀ w' A' cls dd, Gd w' A' → Es K cl w' ρ1 σ A' → Ext w0 A0 w' A' → ExR K cl w' x cls dd → W cls dd σ w'.H := h
    exact h' w1 A1 cls dd g e (a.ext.trans (x1.pre fun b y p => by rw [add_at]; omega)) r
end

/-! ### new objects -/
section
variable {w : Hs} {p : Addr}
def Hs.newL (w : Hs) (p : Addr) (o : HO) : Hs := ⟨w.F, w.R, upd w.H p o⟩
def Hs.newT (w : Hs) (p : Addr) (o : HO) : Hs := ⟨upd w.F p o, upd w.R p o, upd w.H p o⟩
theorem sm_upd {H : Hp} {o : HO} (h : H p = none) : Sm H (upd H p o) := Sm.of fun b u e => by rw [upd_ne (ne_of_none e h)]; exact e
theorem Gd.fresh {A : Ft} (g : Gd w A) (h : w.H p = none) : w.R p = none ∧ w.F p = none ∧ ∀ x, A p x = 0 := by
  have h1 : w.R p = none := by
    cases e : w.R p with
    | none => rfl
    | some o => exact absurd h (g.RH.nn (by rw [e]; simp))
  have h2 : w.F p = none := by
    cases e : w.F p with
    | none => rfl
    | some o => exact absurd h1 (g.FR.nn (by rw [e]; simp))
  refine ⟨h1, h2, fun x => ?_⟩
  cases x with
  | true =>
    by_cases z : 0 < A p true
    · exact absurd h (g.own p z).2
    · omega
  | false =>
    by_cases z : 0 < A p false
    · exact absurd h1 (g.lnt p z).1
    · omega
theorem newL_gd {A : Ft} {o : HO} (g : Gd w A) (h : w.H p = none) : Gd (w.newL p o) (A + fo1 p true) := by
  obtain ⟨h1, h2, h3⟩ := g.fresh h
  refine ⟨g.FR, fun b u r => sm_upd h b u (g.RH b u r), fun b x => ?_, fun b z => ?_, fun b z => ?_⟩
  · rw [add_at, one_at]
    have := g.one b x
    by_cases hb : b = p
    · subst hb; rw [h3 x]; split <;> omega
    · rw [if_neg (fun q => hb q.1)]; omega
  · by_cases hb : b = p
    · subst hb; exact ⟨h1, by show upd w.H b o b ≠ none; rw [upd_same]; simp⟩
    · rw [add_at, one_at, if_neg (fun q => hb q.1)] at z
      obtain ⟨r1, r2⟩ := g.own b z
      exact ⟨r1, by show upd w.H p o b ≠ none; rw [upd_ne hb]; exact r2⟩
  · rw [add_at, one_at, if_neg (fun q => by cases q.2)] at z
    exact g.lnt b z
theorem newL_ext {A : Ft} {o : HO} (g : Gd w A) (h : w.H p = none) : Ext w A (w.newL p o) (A + fo1 p true) := by
  refine ⟨.refl _, .refl _, fun b u e _ => by show upd w.H p o b = _; rw [upd_ne (ne_of_none e h)]; exact e, fun b z n => absurd n z, fun b z n => absurd n z, fun b z => ?_, fun b z => ?_⟩
  · by_cases hb : b = p
    · subst hb; exact .inr h
    · rw [add_at, one_at, if_neg (fun q => hb q.1)] at z; exact .inl z
  · rw [add_at, one_at, if_neg (fun q => by cases q.2)] at z; exact z
theorem newL_kp {A : Ft} {o : HO} (h : w.H p = none) : Kp w (w.newL p o) A := ⟨.refl _, fun _ _ _ r => r, fun b u _ e => by show upd w.H p o b = _; rw [upd_ne (ne_of_none e h)]; exact e⟩
theorem newT_gd {A : Ft} {o : HO} (g : Gd w A) (h : w.H p = none) : Gd (w.newT p o) A := by
  obtain ⟨h1, h2, h3⟩ := g.fresh h
  have key : ∀ {F H : Hp}, Sm F H → F p = none → Sm (upd F p o) (upd H p o) := fun {F H} s hF b u r => by
    by_cases hb : b = p
    · subst hb; exact rd_eq (upd_same.trans upd_same.symm) r
    · exact rd_eq (upd_ne hb).symm (s b u (rd_eq (upd_ne hb) r))
  refine ⟨key g.FR h2, key g.RH h1, g.one, fun b z => ?_, fun b z => ?_⟩
  · have hb : b ≠ p := fun e => by subst e; rw [h3] at z; omega
    obtain ⟨r1, r2⟩ := g.own b z
    exact ⟨by show upd w.R p o b = none; rw [upd_ne hb]; exact r1, by show upd w.H p o b ≠ none; rw [upd_ne hb]; exact r2⟩
  · have hb : b ≠ p := fun e => by subst e; rw [h3] at z; omega
    obtain ⟨r1, r2⟩ := g.lnt b z
    exact ⟨by show upd w.R p o b ≠ none; rw [upd_ne hb]; exact r1, by show upd w.F p o b = none; rw [upd_ne hb]; exact r2⟩
theorem newT_ext {A : Ft} {o : HO} (g : Gd w A) (h : w.H p = none) : Ext w A (w.newT p o) A := by
  obtain ⟨h1, h2, h3⟩ := g.fresh h
  refine ⟨sm_upd h2, sm_upd h1, fun b u e _ => by show upd w.H p o b = _; rw [upd_ne (ne_of_none e h)]; exact e, fun b z n => ?_, fun b z n => ?_, fun b z => .inl z, fun b z => z⟩
  · by_cases hb : b = p
    · subst hb; exact .inr h
    · exact absurd (show upd w.F p o b = none by rw [upd_ne hb]; exact n) z
  · by_cases hb : b = p
    · subst hb; exact .inr h
    · exact absurd (show upd w.R p o b = none by rw [upd_ne hb]; exact n) z
theorem newT_kp {A B : Ft} {o : HO} (g : Gd w A) (h : w.H p = none) : Kp w (w.newT p o) B := by
  obtain ⟨h1, h2, h3⟩ := g.fresh h
  exact ⟨sm_upd h2, fun b u _ r => sm_upd h1 b u r, fun b u _ e => by show upd w.H p o b = _; rw [upd_ne (ne_of_none e h)]; exact e⟩
end
section
variable {K : PySem.W.Frag} {cl : Str → Option Addr} {w : Hs}
theorem T.newL {ds : List D} {vs : List V} {B : Ft} {p : Addr} (h : w.H p = none) (t : Ts K cl w ds vs B) : T K cl (w.newL p (.lst vs)) (.lst .own ds) (.ref p) (B + fo1 p true) := by
  unfold T
  exact ⟨p, vs, B, rfl, upd_same, Ts.keep _ _ _ (newL_kp h) t, rfl⟩
theorem T.newT {A : Ft} {ds : List D} {vs : List V} {B : Ft} {p : Addr} (g : Gd w A) (h : w.H p = none) (t : Ts K cl w ds vs B) : T K cl (w.newT p (.tup vs)) (.tup ds) (.ref p) B := by
  unfold T
  exact ⟨p, vs, rfl, .inl (.inl upd_same), Ts.keep _ _ _ (newT_kp g h) t⟩
/-- how what is told of a tree is read -/
theorem LAt.seq {o : Ow} {a : Addr} {vs : List V} {A : Ft} (g : Gd w A) (h : LAt K w o a vs) : SqL K w.H a vs := by
  cases o with
  | own => exact .inl (.inl h)
  | lent => exact .inl (g.RH _ _ h)
  | frz => exact g.FH.seq h
theorem T.list {o : Ow} {ds : List D} {v : V} {A B : Ft} (g : Gd w A) (h : T K cl w (.lst o ds) v B) : ∃ a vs C, v = .ref a ∧ SqL K w.H a vs ∧ Ts K cl w ds vs C := by
  unfold T at h
  obtain ⟨a, vs, C, e, l, t, _⟩ := h
  exact ⟨a, vs, C, e, l.seq g, t⟩
theorem T.tuple {ds : List D} {v : V} {A B : Ft} (g : Gd w A) (h : T K cl w (.tup ds) v B) : ∃ a vs, v = .ref a ∧ SqT K w.H a vs ∧ Ts K cl w ds vs B := by
  unfold T at h
  obtain ⟨a, vs, e, l, t⟩ := h
  exact ⟨a, vs, e, same_seqT g.FH l, t⟩
end
end Ev

/-! Ev, part F: expressions. -/
namespace Ev
open PySem PySem.Spec PyProof.Rows L2

theorem PE.weak {X : Cx} {e : Expr} {t t' : TE} (h : PE X e t) (k : ∀ σ H Q, t' σ H Q → t σ H Q) : PE X e t' := ⟨fun pins s σ H Q I q => h.run pins s σ H Q I (k σ H Q q)⟩
theorem PA.weak {X : Cx} {e : List Expr} {t t' : TA} (h : PA X e t) (k : ∀ σ H Q, t' σ H Q → t σ H Q) : PA X e t' := ⟨fun pos pins s σ H Q I q => h.run pos pins s σ H Q I (k σ H Q q)⟩
theorem PT.weak {X : Cx} {e : Expr} {t t' : TT} (h : PT X e t) (k : ∀ σ H Q, t' σ H Q → t σ H Q) : PT X e t' := ⟨fun pins s σ H Q I q => h.run pins s σ H Q I (k σ H Q q)⟩

def blts : List Str := ["len", "list", "tuple", "sum", "all", "any", "int", "str", "abs", "max", "min", "isinstance", "range", "enumerate", "zip", "reversed", "bool", "dict", "set", "sorted"]
section
variable (cl : Str → Option Addr) (G : Str → Option D) (C : CT)
/-- what a def's promise says by the evaluator -/
def spEv (K : PySem.W.Frag) (f : List D → CO) : Sp := fun vs H Q E => ∃ w A ds, w.H = H ∧ Gd w A ∧ Ts K cl w ds vs A ∧
  match f ds with
  | .ok d ds' => ∀ w' A' B v, Gd w' (A' + B) → Ts K cl w' ds' vs A' → T K cl w' d v B → Ext w A w' (A' + B) → Q v w'.H
  | .exc x ds' => ∀ w' A' cls dd, Gd w' A' → Ts K cl w' ds' vs A' → Ext w A w' A' → ExR K cl w' x cls dd → E cls dd w'.H
  | .bad => False
/-- what a text's surroundings give -/
structure Lib (X : Cx) : Prop where
  calm : X.calm = true
  nd : X.N.Nodup
  un : X.A.units + 65 < cLine
  gl : ∀ x d, G x = some d → mark x = false → ∃ u v, X.mg x = some u ∧ RelV v u ∧ ∀ w, T X.K cl w d v 0
  bl : ∀ x ∈ blts, X.mg x = none
  kc : ∀ c a f, cl c = some a → fldOk c f = true → Cls X.K a
  na : ∀ c a f, cl c = some a → fldOk c f = true → NoAttr X.K a f
  gcd : (G "math.gcd").isSome = true → X.mg "gcd" = some (.builtin "math.gcd")
  fn : ∀ f F, C f = some F → ∃ (a : Addr) (fd : FuncData) (ps : List Str) (k : Nat), X.mg f = some (.ref a) ∧ PySem.W.keepIn X.K (.ref a) = true ∧ Binds X.K fd ps [] ∧ Room k X.A ∧
    FnOk X.prog X.w X.K X.mg X.base (L2.CX X.prog X.w) k a fd ps (spEv cl X.K F)
/-- an expression; rows of them; what is walked -/
def SndE (e : E) : Prop := ∀ (X : Cx) (W : WX) (L : Lib cl G C X) (tk : Takes X W) (t : Expr), chk X.N X.env.scope e t = true → PE X t (tG X.K cl (lyV X.K cl) (qt e) (ev C G e) W)
def SndL (e : E) : Prop := ∀ (X : Cx) (W : WX) (L : Lib cl G C X) (tk : Takes X W) (t : List Expr), chks X.N X.env.scope e t = true → PA X t (tG X.K cl (lyL X.K cl) (qt e) (evs C G e) W)
def SndA (e : E) : Prop := ∀ (X : Cx) (W : WX) (L : Lib cl G C X) (tk : Takes X W) (t : List Expr), chks X.N X.env.scope e t = true → PA X t (tG X.K cl (lyA X.K cl) (qt e) (eva C G e) W)
end

section
variable {cl : Str → Option Addr} {G : Str → Option D} {C : CT} {X : Cx} {W : WX}
theorem vis_of {sc : Scope} {x : Str} (h : visB sc x = true) : Vis sc x := by
  unfold visB at h
  simp only [Bool.or_eq_true, decide_eq_true_eq] at h
  rcases h with (h | h) | h
  · exact .inl h
  · exact .inr (.inl h)
  · exact .inr (.inr h)
theorem gl_of {x : Str} (h : gloB X.env.scope x = true) : Gl X x := by
  show X.env.kindOf x = some .globalImplicit
  exact of_decide_eq_true h
theorem okN_of {x : Str} (h : okN x = true) : (x == ("__debug__" : Str)) = false ∧ (x == ("__classdict__" : Str)) = false ∧ x ≠ "__name__" ∧ mark x = false := by
  unfold okN at h
  simp only [Bool.and_eq_true, Bool.not_eq_true', beq_eq_false_iff_ne] at h
  exact ⟨by simpa using h.1.1.1, by simpa using h.1.1.2, h.1.2, h.2⟩

/-! ### names and constants -/
theorem s_v (i : Nat) : SndE cl G C (.v i) := fun X W L tk t hc => by
  cases t <;> first | (simp [chk] at hc; done) | skip
  rename_i x p
  unfold chk chkV at hc
  simp only [Bool.and_eq_true, decide_eq_true_eq] at hc
  obtain ⟨o1, o2, o3⟩ := okN_of hc.2
  refine PE.weak (pe_var hc.1.1 (vis_of hc.1.2) o1 o2) fun σ H Q h => ?_
  obtain ⟨w, A, ρ, rfl, g, e, h⟩ := h
  unfold ev at h
  cases hs : slot ρ i with
  | none => rw [hs] at h; exact (show False from h).elim
  | some d =>
    rw [hs] at h
    obtain ⟨v, e1, fc⟩ := Es.var hs e
    exact ⟨v, e1, oG.fin0 (w := w) (C := 0) h (.start g e) ⟨rfl, fc⟩⟩
theorem s_mv (i : Nat) : SndE cl G C (.mv i) := fun X W L tk t hc => by
  cases t <;> first | (simp [chk] at hc; done) | skip
  rename_i x p
  unfold chk chkV at hc
  simp only [Bool.and_eq_true, decide_eq_true_eq] at hc
  obtain ⟨o1, o2, o3⟩ := okN_of hc.2
  refine PE.weak (pe_var hc.1.1 (vis_of hc.1.2) o1 o2) fun σ H Q h => ?_
  obtain ⟨w, A, ρ, rfl, g, e, h⟩ := h
  unfold ev at h
  cases hs : slot ρ i with
  | none => rw [hs] at h; exact (show False from h).elim
  | some d =>
    rw [hs] at h
    dsimp only at h
    split at h
    · rename_i hf
      obtain ⟨v, A1, Ar, e1, t1, rfl, e2⟩ := Es.out hs e
      refine ⟨v, e1, h w Ar A1 v (by rw [add_comm']; exact g) e2 t1 ((Ext.refl _ _).weak fun b y p => by simp only [add_at] at p ⊢; omega) fun z => by cases z⟩
    · exact (show False from h).elim
theorem s_g (x : Str) : SndE cl G C (.g x) := fun X W L tk t hc => by
  cases t <;> first | (simp [chk] at hc; done) | skip
  rename_i y p
  unfold chk at hc
  simp only [Bool.and_eq_true, decide_eq_true_eq] at hc
  obtain ⟨⟨rfl, hg⟩, ho⟩ := hc
  obtain ⟨o1, o2, o3⟩ := okN_of ho
  cases hG : G x with
  | none =>
    refine ⟨fun pins s σ H Q I h => ?_⟩
    obtain ⟨w, A, ρ, rfl, g, e, h⟩ := h
    unfold ev at h
    rw [hG] at h
    exact (show False from h).elim
  | some d =>
    obtain ⟨u, v, hm, r, ht⟩ := L.gl x d hG o3.2
    refine PE.weak (pe_glob (gl_of hg) hm r o1) fun σ H Q h => ?_
    obtain ⟨w, A, ρ, rfl, g, e, h⟩ := h
    unfold ev at h
    rw [hG] at h
    exact oG.fin0 (w := w) (C := 0) h (.start g e) (ht w)
theorem s_int (i : Int) : SndE cl G C (.int i) := fun X W L tk t hc => by
  cases t <;> first | (simp [chk] at hc; done) | skip
  rename_i c j p
  cases c <;> first | (simp [chk] at hc; done) | skip
  unfold chk at hc
  cases of_decide_eq_true hc
  refine PE.weak pe_int fun σ H Q h => ?_
  obtain ⟨w, A, ρ, rfl, g, e, h⟩ := h
  unfold ev at h
  exact oG.fin0 (w := w) (C := 0) h (.start g e) (by show T X.K cl w _ _ _; unfold T; exact ⟨rfl, rfl⟩)
theorem s_str (i : Str) : SndE cl G C (.str i) := fun X W L tk t hc => by
  cases t <;> first | (simp [chk] at hc; done) | skip
  rename_i c j p
  cases c <;> first | (simp [chk] at hc; done) | skip
  unfold chk at hc
  cases of_decide_eq_true hc
  refine PE.weak pe_str fun σ H Q h => ?_
  obtain ⟨w, A, ρ, rfl, g, e, h⟩ := h
  unfold ev at h
  exact oG.fin0 (w := w) (C := 0) h (.start g e) (by show T X.K cl w _ _ _; unfold T; exact ⟨rfl, rfl⟩)
theorem s_bl (i : Bool) : SndE cl G C (.bl i) := fun X W L tk t hc => by
  cases t <;> first | (simp [chk] at hc; done) | skip
  rename_i c j p
  cases c <;> first | (simp [chk] at hc; done) | skip
  unfold chk at hc
  cases of_decide_eq_true hc
  refine PE.weak pe_bl fun σ H Q h => ?_
  obtain ⟨w, A, ρ, rfl, g, e, h⟩ := h
  unfold ev at h
  exact oG.fin0 (w := w) (C := 0) h (.start g e) (by show T X.K cl w _ _ _; unfold T; exact ⟨rfl, rfl⟩)
theorem s_non : SndE cl G C .non := fun X W L tk t hc => by
  cases t <;> first | (simp [chk] at hc; done) | skip
  rename_i c j p
  cases c <;> first | (simp [chk] at hc; done) | skip
  refine PE.weak pe_non fun σ H Q h => ?_
  obtain ⟨w, A, ρ, rfl, g, e, h⟩ := h
  unfold ev at h
  exact oG.fin0 (w := w) (C := 0) h (.start g e) (by show T X.K cl w _ _ _; unfold T; exact ⟨rfl, rfl⟩)
theorem s_fz (p : E) (ih : SndE cl G C p) : SndE cl G C (.fz p) := fun X W L tk t hc => by
  refine PE.weak (ih X W L tk t (by unfold chk at hc; exact (Bool.and_eq_true_iff.mp hc).2)) fun σ H Q h => ?_
  obtain ⟨w, A, ρ, rfl, g, e, h⟩ := h
  unfold ev at h
  refine ⟨w, A, ρ, rfl, g, e, h.bind (.start g e) (fun z => by cases z) fun x ρ1 w1 A1 B1 b a1 kp g1 x1 l k1 h1 => ?_⟩
  obtain ⟨d, pl⟩ := x
  cases pl with
  | none => exact h1.fin1 a1 (fun b y => by rw [add_at, zero_at]; omega) l
  | some pp =>
    obtain ⟨rfl, fc⟩ := l
    dsimp only at h1
    split at h1
    · rename_i hf
      obtain ⟨A2, Ar, t2, _⟩ := fc.tree
      rw [T.frz0 _ _ _ hf t2] at t2
      exact h1.fin0 a1 t2
    · split at h1
      · rename_i hn hf
        obtain ⟨eg, _, Ad, Ar, td, rfl, back⟩ := fc
        have g2 : Gd w1 (Ad + Ar) := by rw [add0] at g1; exact g1
        have gA : Gd w1 Ad := g2.left
        have tz := T.fz gA d b Ad (fun _ z => z) hf td
        have es := back (w1.fz Ad) (freeze d) 0 tz (fz_keep g2)
        refine h1 (w1.fz Ad) (0 + Ar) 0 b ?_ es tz ?_ fun z => by cases z
        · rw [add0, zero_add']; exact fz_gd g2
        · rw [add0, zero_add']
          refine (a1.ext.weak (C := Ad + Ar) fun b y p => by simp only [add_at] at p ⊢; omega).trans (fz_ext g2)
      · exact (show False from h1).elim
end
end Ev

/-! Ev, part G: operations on values. -/
namespace Ev
open PySem PySem.Spec PyProof.Rows L2

section
variable {K : PySem.W.Frag} {cl : Str → Option Addr} {w : Hs}
/-- what may be answered: a value that lies as r, out of C, A kept -/
def Can (K : PySem.W.Frag) (cl : Str → Option Addr) (w : Hs) (A C : Ft) (r : D) (Q : VK) : Prop :=
  ∀ w' B b, Gd w' (A + B) → Ext w (A + C) w' (A + B) → Kp w w' A → T K cl w' r b B → Q b w'.H
theorem oG.can {q : Bool} {w0 : Hs} {A0 A C : Ft} {ρ0 ρ : Env} {σ : Sg} {Q : VK} {W : WX} {x : D} (h : oG K cl (lyV K cl) q w0 A0 ρ0 σ (.ok (x, none) ρ) Q W) (a : At (K := K) (cl := cl) q w0 A0 ρ0 σ w A C ρ) : Can K cl w A C x Q :=
  fun w' B b g e k t => h.fin a g e k t
theorem Can.now {A C B : Ft} {r : D} {b : V} {Q : VK} (h : Can K cl w A C r Q) (g : Gd w (A + C)) (hB : ∀ b y, B b y ≤ C b y) (t : T K cl w r b B) : Q b w.H :=
  h w B b (g.sub fun b y => by have := hB b y; simp only [add_at]; omega) ((Ext.refl _ _).weak fun b y p => by have := hB b y; simp only [add_at] at p ⊢; omega) (.refl _ _) t
theorem Can.now0 {A C : Ft} {r : D} {b : V} {Q : VK} (h : Can K cl w A C r Q) (g : Gd w (A + C)) (t : T K cl w r b 0) : Q b w.H := h.now g (fun _ _ => Nat.zero_le _) t
theorem Can.newL {A C B : Ft} {ds : List D} {vs : List V} {Q : VK} (h : Can K cl w A C (.lst .own ds) Q) (g : Gd w (A + C)) (hB : ∀ b y, B b y ≤ C b y) (t : Ts K cl w ds vs B) : ∀ p, w.H p = none → Q (.ref p) (upd w.H p (.lst vs)) := fun p hp => by
  have g1 : Gd w (A + B) := g.sub fun b y => by have := hB b y; simp only [add_at]; omega
  have g2 := newL_gd (o := .lst vs) g1 hp
  have e2 := newL_ext (o := .lst vs) g1 hp
  rw [add_assoc'] at g2 e2
  exact h (w.newL p (.lst vs)) (B + fo1 p true) (.ref p) g2 (e2.pre fun b y z => by have := hB b y; simp only [add_at] at z ⊢; omega) (newL_kp hp) (T.newL hp t)
theorem Can.newT {A C B : Ft} {ds : List D} {vs : List V} {Q : VK} (h : Can K cl w A C (.tup ds) Q) (g : Gd w (A + C)) (hB : ∀ b y, B b y ≤ C b y) (t : Ts K cl w ds vs B) : ∀ p, w.H p = none → Q (.ref p) (upd w.H p (.tup vs)) := fun p hp => by
  have g1 : Gd w (A + B) := g.sub fun b y => by have := hB b y; simp only [add_at]; omega
  have g2 := newT_gd (o := .tup vs) g1 hp
  have e2 := newT_ext (o := .tup vs) g1 hp
  exact h (w.newT p (.tup vs)) B (.ref p) g2 (e2.pre fun b y z => by have := hB b y; simp only [add_at] at z ⊢; omega) (newT_kp g hp) (T.newT g hp t)

/-! flat trees -/
def fvD : D → V
  | .non => .non | .bl b => .bl b | .int i => .int i | .str x => .str x
  | _ => .non
theorem T.of_flat : ∀ {d : D} {v : V} {A : Ft}, flat d = true → T K cl w d v A → v = fvD d ∧ A = 0
  | .non, _, _, _, h => by unfold T at h; exact h
  | .bl b, _, _, _, h => by unfold T at h; exact h
  | .int b, _, _, _, h => by unfold T at h; exact h
  | .str b, _, _, _, h => by unfold T at h; exact h
  | .tup _, _, _, f, _ => by cases f
  | .lst _ _, _, _, f, _ => by cases f
  | .dct _ _, _, _, f, _ => by cases f
  | .ins _ _ _, _, _, f, _ => by cases f
theorem T.mk : ∀ {d : D}, flat d = true → T K cl w d (fvD d) 0
  | .non, _ => by unfold T; exact ⟨rfl, rfl⟩
  | .bl b, _ => by unfold T; exact ⟨rfl, rfl⟩
  | .int b, _ => by unfold T; exact ⟨rfl, rfl⟩
  | .str b, _ => by unfold T; exact ⟨rfl, rfl⟩
  | .tup _, f => by cases f
  | .lst _ _, f => by cases f
  | .dct _ _, f => by cases f
  | .ins _ _ _, f => by cases f
theorem T.int1 {i : Int} {v : V} {A : Ft} (h : T K cl w (.int i) v A) : v = .int i := by unfold T at h; exact h.1
theorem T.bl1 {i : Bool} {v : V} {A : Ft} (h : T K cl w (.bl i) v A) : v = .bl i := by unfold T at h; exact h.1
theorem T.str1 {i : Str} {v : V} {A : Ft} (h : T K cl w (.str i) v A) : v = .str i := by unfold T at h; exact h.1
theorem T.non1 {v : V} {A : Ft} (h : T K cl w .non v A) : v = .non := by unfold T at h; exact h.1
theorem T.int {i : Int} : T K cl w (.int i) (.int i) 0 := by unfold T; exact ⟨rfl, rfl⟩
theorem T.bl {i : Bool} : T K cl w (.bl i) (.bl i) 0 := by unfold T; exact ⟨rfl, rfl⟩
theorem T.str {i : Str} : T K cl w (.str i) (.str i) 0 := by unfold T; exact ⟨rfl, rfl⟩
theorem T.non : T K cl w .non .non 0 := by unfold T; exact ⟨rfl, rfl⟩
theorem oG.fInt {q : Bool} {w0 : Hs} {A0 A C : Ft} {ρ0 ρ : Env} {σ : Sg} {Q : VK} {W : WX} {i : Int} (h : oG K cl (lyV K cl) q w0 A0 ρ0 σ (.ok (.int i, none) ρ) Q W) (a : At (K := K) (cl := cl) q w0 A0 ρ0 σ w A C ρ) : Q (.int i) w.H :=
  h.fin0 a (show T K cl w (.int i) (.int i) 0 from T.int)
theorem oG.fBl {q : Bool} {w0 : Hs} {A0 A C : Ft} {ρ0 ρ : Env} {σ : Sg} {Q : VK} {W : WX} {i : Bool} (h : oG K cl (lyV K cl) q w0 A0 ρ0 σ (.ok (.bl i, none) ρ) Q W) (a : At (K := K) (cl := cl) q w0 A0 ρ0 σ w A C ρ) : Q (.bl i) w.H :=
  h.fin0 a (show T K cl w (.bl i) (.bl i) 0 from T.bl)
theorem oG.fNon {q : Bool} {w0 : Hs} {A0 A C : Ft} {ρ0 ρ : Env} {σ : Sg} {Q : VK} {W : WX} (h : oG K cl (lyV K cl) q w0 A0 ρ0 σ (.ok (.non, none) ρ) Q W) (a : At (K := K) (cl := cl) q w0 A0 ρ0 σ w A C ρ) : Q .non w.H :=
  h.fin0 a (show T K cl w .non .non 0 from T.non)
theorem Ts.append : ∀ {ds es : List D} {vs us : List V} {A B : Ft}, Ts K cl w ds vs A → Ts K cl w es us B → Ts K cl w (ds ++ es) (vs ++ us) (A + B)
  | [], _, _, _, _, _, h, k => by
    unfold Ts at h
    obtain ⟨rfl, rfl⟩ := h
    rw [zero_add']; exact k
  | d :: r, _, _, _, _, _, h, k => by
    unfold Ts at h
    obtain ⟨v, vr, A1, A2, rfl, t, h, rfl⟩ := h
    rw [List.cons_append, List.cons_append]
    unfold Ts
    exact ⟨v, _, A1, _, rfl, t, Ts.append h k, add_assoc' _ _ _⟩
theorem Ts.app0 {ds es : List D} {vs us : List V} (h : Ts K cl w ds vs 0) (k : Ts K cl w es us 0) : Ts K cl w (ds ++ es) (vs ++ us) 0 := by
  have := h.append k
  rw [add0] at this
  exact this
theorem Ts.frz {ds : List D} {vs : List V} {A : Ft} (f : frzL ds = true) (h : Ts K cl w ds vs A) : Ts K cl w ds vs 0 := by
  have := Ts.frz0 ds vs A f h
  rw [this] at h; exact h
theorem T.frz {d : D} {v : V} {A : Ft} (f : isFrz d = true) (h : T K cl w d v A) : T K cl w d v 0 := by
  have := T.frz0 d v A f h
  rw [this] at h; exact h
theorem Ts.at : ∀ {ds : List D} {vs : List V} {A : Ft} {n : Nat} {v : V}, Ts K cl w ds vs A → vs[n]? = some v → ∃ d B, ds[n]? = some d ∧ T K cl w d v B
  | [], _, _, _, _, h, e => by unfold Ts at h; rw [h.1] at e; simp at e
  | d :: r, _, _, n, v, h, e => by
    unfold Ts at h
    obtain ⟨x, vr, A1, A2, rfl, t, h, rfl⟩ := h
    cases n with
    | zero => simp at e; subst e; exact ⟨d, A1, by simp, t⟩
    | succ n => simp at e; obtain ⟨d', B, e1, t1⟩ := Ts.at h e; exact ⟨d', B, by simpa using e1, t1⟩
theorem Ts.at2 : ∀ {ds : List D} {vs : List V} {A : Ft} {n : Nat} {d : D}, Ts K cl w ds vs A → ds[n]? = some d → ∃ v B, vs[n]? = some v ∧ T K cl w d v B := fun {ds vs A n d} h e => by
  obtain ⟨v, A1, Ar, e1, t1, _⟩ := Ts.foc e h
  exact ⟨v, A1, e1, t1⟩
theorem Ts.drop : ∀ {ds : List D} {vs : List V} (n : Nat), Ts K cl w ds vs 0 → frzL ds = true → Ts K cl w (ds.drop n) (vs.drop n) 0
  | ds, vs, 0, h, f => by simpa using h
  | [], vs, n + 1, h, f => by unfold Ts at h; rw [h.1]; simp; unfold Ts; exact ⟨rfl, rfl⟩
  | d :: r, vs, n + 1, h, f => by
    unfold Ts at h
    obtain ⟨v, vr, A1, A2, rfl, t, h, _⟩ := h
    unfold frzL at f
    rw [Bool.and_eq_true] at f
    rw [List.drop_succ_cons, List.drop_succ_cons]
    exact Ts.drop n (h.frz f.2) f.2
theorem frzL_drop : ∀ {ds : List D} (n : Nat), frzL ds = true → frzL (ds.drop n) = true
  | ds, 0, f => by simpa using f
  | [], n + 1, f => by simp [frzL]
  | d :: r, n + 1, f => by
    unfold frzL at f
    rw [Bool.and_eq_true] at f
    rw [List.drop_succ_cons]
    exact frzL_drop n f.2
theorem Ts.take : ∀ {ds : List D} {vs : List V} (n : Nat), Ts K cl w ds vs 0 → frzL ds = true → Ts K cl w (ds.take n) (vs.take n) 0
  | ds, vs, 0, h, f => by simp; unfold Ts; exact ⟨rfl, rfl⟩
  | [], vs, n + 1, h, f => by unfold Ts at h; rw [h.1]; simp; unfold Ts; exact ⟨rfl, rfl⟩
  | d :: r, vs, n + 1, h, f => by
    unfold Ts at h
    obtain ⟨v, vr, A1, A2, rfl, t, h, _⟩ := h
    unfold frzL at f
    rw [Bool.and_eq_true] at f
    rw [List.take_succ_cons, List.take_succ_cons]
    unfold Ts
    exact ⟨v, _, 0, 0, rfl, t.frz f.1, Ts.take n (h.frz f.2) f.2, (add0 _).symm⟩
theorem Ts.cut {ds : List D} {vs : List V} (lo hi : Option Int) (h : Ts K cl w ds vs 0) (f : frzL ds = true) : Ts K cl w (cutD ds lo hi) (cutV vs lo hi) 0 := by
  have e := h.length
  unfold cutD cutV
  rw [e]
  exact Ts.take _ (Ts.drop _ h f) (frzL_drop _ f)
theorem Ts.isEmpty {ds : List D} {vs : List V} {A : Ft} (h : Ts K cl w ds vs A) : vs.isEmpty = ds.isEmpty := by
  have e := h.length
  cases ds <;> cases vs <;> simp at e ⊢

/-! ### truth -/
theorem T.tru {d : D} {v : V} {A B : Ft} {k : Bool} (g : Gd w A) (t : T K cl w d v B) (h : trD d = some k) : TruV K v w.H k := by
  cases d with
  | non => cases t.non1; cases h; rfl
  | bl b => cases t.bl1; cases h; rfl
  | int i => cases t.int1; cases h; rfl
  | str x =>
    cases t.str1
    have h : (if x.length ≤ sizeLine then some ((x.length : Int) != 0) else none) = some k := h
    split at h
    · rename_i hx; cases h; exact ⟨hx, rfl⟩
    · cases h
  | tup xs =>
    obtain ⟨a, vs, rfl, sq, ts⟩ := t.tuple g
    cases h
    exact .inr (.inl ⟨vs, sq, by rw [ts.isEmpty]⟩)
  | lst o xs =>
    obtain ⟨a, vs, C, rfl, sq, ts⟩ := t.list g
    cases h
    exact .inl ⟨vs, sq, by rw [ts.isEmpty]⟩
  | dct o kvs => cases h
  | ins o c fs => cases h

/-! ### data -/
mutual
def dP : D → PyData
  | .non => .none | .bl b => .bool b | .int i => .int i | .str x => .str x
  | .tup xs => .tuple (dPs xs)
  | .lst _ xs => .list (dPs xs)
  | .dct _ _ => .none | .ins _ _ _ => .none
def dPs : List D → List PyData
  | [] => []
  | d :: r => dP d :: dPs r
end
mutual
theorem T.dp {A : Ft} (g : Gd w A) : ∀ {d : D} {v : V} {B : Ft}, okD d = true → T K cl w d v B → Dp K w.H v (dP d)
  | .non, _, _, _, h => by cases h.non1; unfold dP; exact .non
  | .bl b, _, _, _, h => by cases h.bl1; unfold dP; exact .bl b
  | .int b, _, _, _, h => by cases h.int1; unfold dP; exact .int b
  | .str b, _, _, _, h => by cases h.str1; unfold dP; exact .str b
  | .tup xs, _, _, f, h => by
    obtain ⟨a, vs, rfl, sq, ts⟩ := h.tuple g
    unfold okD at f
    unfold dP
    exact .tup sq (Ts.dp g f ts)
  | .lst o xs, _, _, f, h => by
    obtain ⟨a, vs, C, rfl, sq, ts⟩ := h.list g
    unfold okD at f
    unfold dP
    exact .lst sq (Ts.dp g f ts)
  | .dct _ _, _, _, f, _ => by unfold okD at f; cases f
  | .ins _ _ _, _, _, f, _ => by unfold okD at f; cases f
theorem Ts.dp {A : Ft} (g : Gd w A) : ∀ {ds : List D} {vs : List V} {B : Ft}, okL ds = true → Ts K cl w ds vs B → DpAll K w.H vs (dPs ds)
  | [], _, _, _, h => by unfold Ts at h; rw [h.1]; unfold dPs; exact .nil
  | d :: r, _, _, f, h => by
    unfold Ts at h
    obtain ⟨v, vr, A1, A2, rfl, t, h, rfl⟩ := h
    unfold okL at f
    rw [Bool.and_eq_true] at f
    unfold dPs
    exact .cons (T.dp g f.1 t) (Ts.dp g f.2 h)
end
mutual
theorem dP_lay : ∀ d : D, okD d = true → (dP d).canLay0 = true
  | .non, _ => rfl | .bl b, _ => rfl | .int i, _ => rfl
  | .str x, h => by unfold okD at h; unfold dP; exact h
  | .tup xs, h => by unfold okD at h; unfold dP PyData.canLay0; exact dPs_lay xs h
  | .lst o xs, h => by unfold okD at h; unfold dP PyData.canLay0; exact dPs_lay xs h
  | .dct _ _, f => by unfold okD at f; cases f
  | .ins _ _ _, f => by unfold okD at f; cases f
theorem dPs_lay : ∀ d : List D, okL d = true → PyData.canLayAll0 (dPs d) = true
  | [], _ => rfl
  | d :: r, h => by
    unfold okL at h
    rw [Bool.and_eq_true] at h
    unfold dPs PyData.canLayAll0
    rw [dP_lay d h.1, dPs_lay r h.2]; rfl
end
mutual
theorem dP_dep : ∀ d : D, okD d = true → (dP d).depth = dep d
  | .non, _ => rfl | .bl b, _ => rfl | .int i, _ => rfl
  | .str x, h => rfl
  | .tup xs, h => by unfold okD at h; unfold dP PyData.depth dep; rw [dPs_dep xs h]
  | .lst o xs, h => by unfold okD at h; unfold dP PyData.depth dep; rw [dPs_dep xs h]
  | .dct _ _, f => by unfold okD at f; cases f
  | .ins _ _ _, f => by unfold okD at f; cases f
theorem dPs_dep : ∀ d : List D, okL d = true → PyData.depthAll (dPs d) = depL d
  | [], _ => rfl
  | d :: r, h => by
    unfold okL at h
    rw [Bool.and_eq_true] at h
    unfold dPs PyData.depthAll depL
    rw [dP_dep d h.1, dPs_dep r h.2]
end
mutual
theorem dP_eqv : ∀ d e : D, okD d = true → okD e = true → PyData.eqv (dP d) (dP e) = eqD d e
  | .tup xs, .tup ys, h, k => by unfold okD at h k; simp only [dP, PyData.eqv, eqD]; exact dPs_eqv xs ys h k
  | .lst _ xs, .lst _ ys, h, k => by unfold okD at h k; simp only [dP, PyData.eqv, eqD]; exact dPs_eqv xs ys h k
  | .dct _ _, _, f, _ => by unfold okD at f; cases f
  | .ins _ _ _, _, f, _ => by unfold okD at f; cases f
  | d, .dct _ _, _, f => by unfold okD at f; cases f
  | d, .ins _ _ _, _, f => by unfold okD at f; cases f
  | .non, .non, _, _ => rfl | .non, .bl _, _, _ => rfl | .non, .int _, _, _ => rfl | .non, .str _, _, _ => rfl | .non, .tup _, _, _ => rfl | .non, .lst _ _, _, _ => rfl
  | .bl _, .non, _, _ => rfl | .bl _, .bl _, _, _ => rfl | .bl _, .int _, _, _ => rfl | .bl _, .str _, _, _ => rfl | .bl _, .tup _, _, _ => rfl | .bl _, .lst _ _, _, _ => rfl
  | .int _, .non, _, _ => rfl | .int _, .bl _, _, _ => rfl | .int _, .int _, _, _ => rfl | .int _, .str _, _, _ => rfl | .int _, .tup _, _, _ => rfl | .int _, .lst _ _, _, _ => rfl
  | .str _, .non, _, _ => rfl | .str _, .bl _, _, _ => rfl | .str _, .int _, _, _ => rfl | .str _, .str _, _, _ => rfl | .str _, .tup _, _, _ => rfl | .str _, .lst _ _, _, _ => rfl
  | .tup _, .non, _, _ => rfl | .tup _, .bl _, _, _ => rfl | .tup _, .int _, _, _ => rfl | .tup _, .str _, _, _ => rfl | .tup _, .lst _ _, _, _ => rfl
  | .lst _ _, .non, _, _ => rfl | .lst _ _, .bl _, _, _ => rfl | .lst _ _, .int _, _, _ => rfl | .lst _ _, .str _, _, _ => rfl | .lst _ _, .tup _, _, _ => rfl
theorem dPs_eqv : ∀ d e : List D, okL d = true → okL e = true → PyData.eqvAll (dPs d) (dPs e) = eqL d e
  | [], [], _, _ => rfl
  | [], _ :: _, _, _ => rfl
  | _ :: _, [], _, _ => rfl
  | d :: r, e :: s, h, k => by
    unfold okL at h k
    rw [Bool.and_eq_true] at h k
    simp only [dPs, PyData.eqvAll, eqL, dP_eqv d e h.1 k.1, dPs_eqv r s h.2 k.2]
end
theorem shaped_of {d : D} (h : okD d = true) (k : dep d ≤ 64) : SeqAt.shaped (dP d) = true := by
  unfold SeqAt.shaped
  rw [dP_lay d h, dP_dep d h, Bool.true_and, decide_eq_true_eq]
  exact k
theorem dPs_any {a : D} (h : okD a = true) : ∀ {ys : List D}, okL ys = true → (dPs ys).any (fun z => PyData.eqv z (dP a)) = ys.any fun y => eqD y a
  | [], _ => rfl
  | y :: r, k => by
    unfold okL at k
    rw [Bool.and_eq_true] at k
    unfold dPs
    rw [List.any_cons, List.any_cons, dP_eqv y a k.1 h, dPs_any h k.2]
theorem flat_eqV {a b : D} (h : flat a = true) (k : flat b = true) : eqV (fvD a) (fvD b) = eqD a b := by
  cases a <;> first | exact absurd h Bool.false_ne_true | (cases b <;> first | exact absurd k Bool.false_ne_true | simp [fvD, eqV, eqD, b2n])
theorem flat_flatV : ∀ {a : D}, flat a = true → flatV (fvD a) = true := fun {a} h => by cases a <;> first | exact absurd h Bool.false_ne_true | rfl
theorem Ts.flats : ∀ {ds : List D} {vs : List V} {A : Ft}, ds.all flat = true → Ts K cl w ds vs A → vs = ds.map fvD
  | [], _, _, _, h => by unfold Ts at h; exact h.1
  | d :: r, _, _, f, h => by
    unfold Ts at h
    obtain ⟨v, vr, A1, A2, rfl, t, h, rfl⟩ := h
    rw [List.all_cons, Bool.and_eq_true] at f
    rw [(T.of_flat f.1 t).1, Ts.flats f.2 h]; rfl
theorem flats_flatV : ∀ {ds : List D}, ds.all flat = true → (ds.map fvD).all flatV = true
  | [], _ => rfl
  | d :: r, h => by
    rw [List.all_cons, Bool.and_eq_true] at h
    rw [List.map_cons, List.all_cons, flat_flatV h.1, flats_flatV h.2]; rfl
theorem flats_inV {a : D} (h : flat a = true) : ∀ {ds : List D}, ds.all flat = true → inV (fvD a) (ds.map fvD) = ds.any fun y => eqD y a
  | [], _ => rfl
  | d :: r, k => by
    rw [List.all_cons, Bool.and_eq_true] at k
    have := flats_inV h k.2
    unfold inV at this ⊢
    rw [List.map_cons, List.any_cons, List.any_cons, this, flat_eqV k.1 h]
end
end Ev

/-! Ev, part H: operators, comparisons, items, slices. -/
namespace Ev
open PySem PySem.Spec PyProof.Rows L2

section
variable {K : PySem.W.Frag} {cl : Str → Option Addr} {X : Cx}
/-- list + list, lists however they lie -/
def rCatS (K : PySem.W.Frag) : R2 := fun x y H Q => ∃ l b xs zs, x = .ref l ∧ y = .ref b ∧ SqL K H l xs ∧ SqL K H b zs ∧ xs.length + zs.length ≤ sizeLine ∧ ∀ p, H p = none → Q (.ref p) (upd H p (.lst (xs ++ zs)))
theorem op_catS : OpR X (binaryOp .Add) (rCatS X.K) := by
  intro pins s σ H x y v u Q I rx ry h
  obtain ⟨l, b, xs, zs, rfl, rfl, hH, hB, hz, q⟩ := h
  cases rx
  cases ry
  obtain ⟨its, r, hl, _⟩ := I.list hH
  obtain ⟨its2, r2, hl2, _⟩ := I.list hB
  have e1 := r.length
  have e2 := r2.length
  obtain ⟨⟨cls, dd, data, sl⟩, ho, hc, n, hd⟩ := id hl.isList
  obtain ⟨⟨cls2, dd2, data2, sl2⟩, ho2, hc2, n2, hd2⟩ := id hl2.isList
  simp only at hc hd hc2 hd2
  subst hc hd hc2 hd2
  have e : its.toArray ++ its2.toArray = (its ++ its2).toArray := by simp
  refine concat_meets ⟨_, ho, rfl⟩ ⟨_, ho2, rfl⟩ noFill_list_add seq_list_add PySem.F.slot_list_add PySem.F.entry_list_add (PySem.F.args_list_add_2 _ _)
    (list_addW l b its.toArray its2.toArray n n2 dd dd2 sl sl2 (by rw [List.size_toArray, List.size_toArray]; omega)) ⟨ho, ho2, ?_⟩
  rw [e]
  exact ⟨.ref _, _, I.lnew (t' := s.toks) (r.append r2) (by rw [List.length_append]; omega), rfl, q _ I.fresh⟩

/-- a op b, as the evaluator has it -/
def rBin (K : PySem.W.Frag) (cl : Str → Option Addr) (op : B2) : R2 := fun x y H Q =>
  ∃ w A C B1 B2 d e r, w.H = H ∧ Gd w (A + C) ∧ T K cl w d x B1 ∧ T K cl w e y B2 ∧ binD op d e = some r ∧ Can K cl w A C r Q
theorem mulOk.ok {i j : Int} (h : mulOk i j) : IntMulOk i j := by
  rcases h with h | h | h
  · exact IntMulOk.of_left (intBits_le_64 (by omega) (by omega))
  · exact IntMulOk.of_right (intBits_le_64 (by omega) (by omega))
  · exact CMulW.ok h
theorem op_mulX : OpR X (binaryOp .Mult) (rI mulOk fun i j => .int (i * j)) := opI fun _ _ _ _ _ _ _ hc q => mul_int q hc.ok
theorem op_bin (op : B2) : OpR X (binaryOp op.op) (rBin X.K cl op) := by
  intro pins s σ H x y v u Q I rx ry h
  obtain ⟨w, A, C, B1, B2, d, e, r, rfl, g, t1, t2, hr, can⟩ := h
  cases op with
  | add =>
    cases d <;> cases e <;> first | (simp [binD] at hr; done) | skip
    · cases t1.int1; cases t2.int1
      cases hr
      exact op_add pins s σ _ _ _ v u Q I rx ry ⟨_, _, rfl, rfl, can.now0 g .int⟩
    · cases t1.str1; cases t2.str1
      rename_i a b
      have hr : (if a.length + b.length ≤ sizeLine then some (D.str (a ++ b)) else none) = some r := hr
      split at hr
      · rename_i hz
        cases hr
        exact op_add_str pins s σ _ _ _ v u Q I rx ry ⟨_, _, rfl, rfl, hz, can.now0 g .str⟩
      · cases hr
    · rename_i xs ys
      have hr : (if frzL xs && frzL ys && decide (xs.length + ys.length ≤ sizeLine) then some (D.tup (xs ++ ys)) else none) = some r := hr
      split at hr
      · rename_i hz
        simp only [Bool.and_eq_true, decide_eq_true_eq] at hz
        cases hr
        obtain ⟨a, vs, rfl, sq, ts⟩ := t1.tuple g
        obtain ⟨b, us, rfl, sq2, ts2⟩ := t2.tuple g
        have ts := ts.frz hz.1.1
        have ts2 := ts2.frz hz.1.2
        refine op_catA pins s σ _ _ _ v u Q I rx ry ⟨a, b, vs, us, rfl, rfl, sq, sq2, by rw [ts.length, ts2.length]; exact hz.2, fun hv => ?_, fun hv hu => ?_, fun hv hu => ?_⟩
        · subst hv
          have h0 : xs = [] := by have := ts.length; cases xs <;> simp at this ⊢
          subst h0
          rw [List.nil_append] at can
          exact can.now0 g (T.frz (by unfold isFrz; exact hz.1.2) t2)
        · subst hu
          have h0 : ys = [] := by have := ts2.length; cases ys <;> simp at this ⊢
          subst h0
          rw [List.append_nil] at can
          exact can.now0 g (T.frz (by unfold isFrz; exact hz.1.1) t1)
        · exact can.newT g (fun _ _ => Nat.zero_le _) (ts.app0 ts2)
      · cases hr
    · rename_i o1 xs o2 ys
      have hr : (if frzL xs && frzL ys && decide (xs.length + ys.length ≤ sizeLine) then some (D.lst .own (xs ++ ys)) else none) = some r := hr
      split at hr
      · rename_i hz
        simp only [Bool.and_eq_true, decide_eq_true_eq] at hz
        cases hr
        obtain ⟨a, vs, _, rfl, sq, ts⟩ := t1.list g
        obtain ⟨b, us, _, rfl, sq2, ts2⟩ := t2.list g
        have ts := ts.frz hz.1.1
        have ts2 := ts2.frz hz.1.2
        exact op_catS pins s σ _ _ _ v u Q I rx ry ⟨a, b, vs, us, rfl, rfl, sq, sq2, by rw [ts.length, ts2.length]; exact hz.2, can.newL g (fun _ _ => Nat.zero_le _) (ts.app0 ts2)⟩
      · cases hr
  | sub =>
    cases d <;> cases e <;> first | (simp [binD] at hr; done) | skip
    cases t1.int1; cases t2.int1; cases hr
    exact op_sub pins s σ _ _ _ v u Q I rx ry ⟨_, _, rfl, rfl, can.now0 g .int⟩
  | mul =>
    cases d <;> cases e <;> first | (simp [binD] at hr; done) | skip
    cases t1.int1; cases t2.int1
    rename_i i j
    have hr : (if mulOk i j then some (D.int (i * j)) else none) = some r := hr
    split at hr
    · rename_i hz; cases hr
      exact op_mulX pins s σ _ _ _ v u Q I rx ry ⟨_, _, rfl, rfl, hz, can.now0 g .int⟩
    · cases hr
  | fdiv =>
    cases d <;> cases e <;> first | (simp [binD] at hr; done) | skip
    cases t1.int1; cases t2.int1
    rename_i i j
    have hr : (if divOk j then some (D.int (i / j)) else none) = some r := hr
    split at hr
    · rename_i hz; cases hr
      exact op_fdivW pins s σ _ _ _ v u Q I rx ry ⟨_, _, rfl, rfl, hz, can.now0 g .int⟩
    · cases hr
  | mod =>
    cases d <;> cases e <;> first | (simp [binD] at hr; done) | skip
    cases t1.int1; cases t2.int1
    rename_i i j
    have hr : (if 0 < j then some (D.int (i % j)) else none) = some r := hr
    split at hr
    · rename_i hz; cases hr
      exact op_mod pins s σ _ _ _ v u Q I rx ry ⟨_, _, rfl, rfl, hz, can.now0 g .int⟩
    · cases hr
  | pow =>
    cases d <;> cases e <;> first | (simp [binD] at hr; done) | skip
    cases t1.int1; cases t2.int1
    rename_i i j
    have hr : (if 0 ≤ j ∧ j ≤ 1000000 ∧ i.natAbs < 2 ^ 64 then some (D.int (i ^ j.toNat)) else none) = some r := hr
    split at hr
    · rename_i hz; cases hr
      exact op_pow pins s σ _ _ _ v u Q I rx ry ⟨_, _, rfl, rfl, hz, can.now0 g .int⟩
    · cases hr
  | xor =>
    cases d <;> cases e <;> first | (simp [binD] at hr; done) | skip
    cases t1.int1; cases t2.int1; cases hr
    exact op_xor pins s σ _ _ _ v u Q I rx ry ⟨_, _, rfl, rfl, can.now0 g .int⟩

/-! ### comparisons -/
def rCmp (K : PySem.W.Frag) (cl : Str → Option Addr) (op : C2) : R2 := fun x y H Q =>
  ∃ w A B1 B2 d e r, w.H = H ∧ Gd w A ∧ T K cl w d x B1 ∧ T K cl w e y B2 ∧ cmpD op d e = some r ∧ Q (.bl r) H
theorem dec_fvD {a b : D} (h : scal (fvD a) (fvD b) = true) (ha : flat a = true) (hb : flat b = true) : decide (fvD a = fvD b) = eqD a b := by
  cases a <;> first | exact absurd ha Bool.false_ne_true | (cases b <;> first | exact absurd hb Bool.false_ne_true | exact absurd h Bool.false_ne_true | simp [fvD, eqD])
  all_goals rw [Bool.eq_iff_iff]; simp
theorem eq_ways {a b : D} (h : okEq a b = true) : (flat a = true ∧ flat b = true ∧ scal (fvD a) (fvD b) = true) ∨ (okD a = true ∧ okD b = true ∧ dep a ≤ 64 ∧ dep b ≤ 64) := by
  unfold okEq at h
  simp only [Bool.or_eq_true, Bool.and_eq_true, decide_eq_true_eq] at h
  rcases h with ⟨h, k⟩ | ⟨⟨⟨h, k⟩, m⟩, n⟩
  · by_cases s : scal (fvD a) (fvD b) = true
    · exact .inl ⟨h, k, s⟩
    · refine .inr ?_
      cases a <;> first | exact absurd h Bool.false_ne_true | (cases b <;> first | exact absurd k Bool.false_ne_true | exact absurd rfl s | exact ⟨rfl, rfl, by simp [dep], by simp [dep]⟩)
  · exact .inr ⟨h, k, m, n⟩
theorem rInT_op (hu : X.A.units + 65 < cLine) : OpR X (compareOp .In) (fun x y H Q => ∃ d ds, Dp X.K H x d ∧ Dp X.K H y (.tuple ds) ∧ SeqAt.shaped d = true ∧ SeqAt.shaped (.tuple ds) = true ∧ Q (.bl (ds.any fun z => PyData.eqv z d)) H) := by
  intro pins s σ H x y v u Q I rx ry h
  obtain ⟨d, ds, hd, he, sd, se, q⟩ := h
  obtain ⟨as, r1⟩ := Dp.reads I d x v hd rx
  obtain ⟨bs, r2⟩ := Dp.reads I (.tuple ds) y u he ry
  exact SeqAt.in_tuple_reads r2 r1 (SeqAt.canLay_of_shaped se) (SeqAt.canLay_of_shaped sd) (room_in_shaped sd hu) ⟨.bl _, H, I, rfl, q⟩
theorem rNotInT_op (hu : X.A.units + 65 < cLine) : OpR X (compareOp .NotIn) (fun x y H Q => ∃ d ds, Dp X.K H x d ∧ Dp X.K H y (.tuple ds) ∧ SeqAt.shaped d = true ∧ SeqAt.shaped (.tuple ds) = true ∧ Q (.bl (!ds.any fun z => PyData.eqv z d)) H) := by
  intro pins s σ H x y v u Q I rx ry h
  obtain ⟨d, ds, hd, he, sd, se, q⟩ := h
  obtain ⟨as, r1⟩ := Dp.reads I d x v hd rx
  obtain ⟨bs, r2⟩ := Dp.reads I (.tuple ds) y u he ry
  exact SeqAt.notIn_tuple_reads r2 r1 (SeqAt.canLay_of_shaped se) (SeqAt.canLay_of_shaped sd) (room_in_shaped sd hu) ⟨.bl _, H, I, rfl, q⟩
/-- in, of a sequence -/
def inOk (a : D) (ys : List D) : Bool := (flat a && ys.all flat) || (okD a && okL ys && decide (dep a ≤ 63) && decide (depL ys ≤ 63))
theorem shapedL {ys : List D} (h : okL ys = true) (k : depL ys ≤ 63) : SeqAt.shaped (.list (dPs ys)) = true := by
  have := shaped_of (d := .lst .own ys) (by unfold okD; exact h) (by unfold dep; omega)
  unfold dP at this
  exact this
theorem shapedT {ys : List D} (h : okL ys = true) (k : depL ys ≤ 63) : SeqAt.shaped (.tuple (dPs ys)) = true := by
  have := shaped_of (d := .tup ys) (by unfold okD; exact h) (by unfold dep; omega)
  unfold dP at this
  exact this
theorem op_in_lst (hu : X.A.units + 65 < cLine) (neg : Bool) {w : Hs} {A B1 B2 : Ft} {d : D} {o : Ow} {ys : List D} {x y : V} {Q : VK} {pins : List (Addr × Obj)} {s : Shared} {σ : Sg} {v u : Value} (I : Inv X pins σ w.H s) (rx : RelV x v) (ry : RelV y u)
    (g : Gd w A) (t1 : T X.K cl w d x B1) (t2 : T X.K cl w (.lst o ys) y B2) (ok : inOk d ys = true) (q : Q (.bl (if neg then !(ys.any fun y => eqD y d) else ys.any fun y => eqD y d)) w.H) :
    wpAny (model X.prog X.w) X.A (compareOp (if neg then .NotIn else .In) v u) (EP X pins σ Q) X.xe s := by
  unfold inOk at ok
  simp only [Bool.or_eq_true, Bool.and_eq_true, decide_eq_true_eq] at ok
  rcases ok with ⟨h, k⟩ | ⟨⟨⟨h, k⟩, m⟩, n⟩
  · obtain ⟨a, vs, _, rfl, sq, ts⟩ := t2.list g
    cases (T.of_flat h t1).1
    have e := Ts.flats k ts
    cases neg with
    | false => exact op_in_seq pins s σ _ _ _ v u Q I rx ry ⟨a, vs, rfl, .inl sq, flat_flatV h, by rw [e]; exact flats_flatV k, by rw [e]; simp only [Bool.false_eq_true, if_false, flats_inV h k] at q ⊢; exact q⟩
    | true => exact op_notIn_seq pins s σ _ _ _ v u Q I rx ry ⟨a, vs, rfl, .inl sq, flat_flatV h, by rw [e]; exact flats_flatV k, by rw [e]; simp only [if_true, flats_inV h k] at q ⊢; exact q⟩
  · have p1 := T.dp g h t1
    have p2 := T.dp g (show okD (.lst o ys) = true by unfold okD; exact k) t2
    unfold dP at p2
    cases neg with
    | false => exact op_inD hu pins s σ _ _ _ v u Q I rx ry ⟨_, _, p1, p2, shaped_of h (by omega), shapedL k n, by rw [dPs_any h k]; exact q⟩
    | true => exact op_notInD hu pins s σ _ _ _ v u Q I rx ry ⟨_, _, p1, p2, shaped_of h (by omega), shapedL k n, by rw [dPs_any h k]; exact q⟩
theorem op_in_tup (hu : X.A.units + 65 < cLine) (neg : Bool) {w : Hs} {A B1 B2 : Ft} {d : D} {ys : List D} {x y : V} {Q : VK} {pins : List (Addr × Obj)} {s : Shared} {σ : Sg} {v u : Value} (I : Inv X pins σ w.H s) (rx : RelV x v) (ry : RelV y u)
    (g : Gd w A) (t1 : T X.K cl w d x B1) (t2 : T X.K cl w (.tup ys) y B2) (ok : inOk d ys = true) (q : Q (.bl (if neg then !(ys.any fun y => eqD y d) else ys.any fun y => eqD y d)) w.H) :
    wpAny (model X.prog X.w) X.A (compareOp (if neg then .NotIn else .In) v u) (EP X pins σ Q) X.xe s := by
  unfold inOk at ok
  simp only [Bool.or_eq_true, Bool.and_eq_true, decide_eq_true_eq] at ok
  rcases ok with ⟨h, k⟩ | ⟨⟨⟨h, k⟩, m⟩, n⟩
  · obtain ⟨a, vs, rfl, sq, ts⟩ := t2.tuple g
    cases (T.of_flat h t1).1
    have e := Ts.flats k ts
    cases neg with
    | false => exact op_in_seq pins s σ _ _ _ v u Q I rx ry ⟨a, vs, rfl, .inr sq, flat_flatV h, by rw [e]; exact flats_flatV k, by rw [e]; simp only [Bool.false_eq_true, if_false, flats_inV h k] at q ⊢; exact q⟩
    | true => exact op_notIn_seq pins s σ _ _ _ v u Q I rx ry ⟨a, vs, rfl, .inr sq, flat_flatV h, by rw [e]; exact flats_flatV k, by rw [e]; simp only [if_true, flats_inV h k] at q ⊢; exact q⟩
  · have p1 := T.dp g h t1
    have p2 := T.dp g (show okD (.tup ys) = true by unfold okD; exact k) t2
    unfold dP at p2
    cases neg with
    | false => exact rInT_op hu pins s σ _ _ _ v u Q I rx ry ⟨_, _, p1, p2, shaped_of h (by omega), shapedT k n, by rw [dPs_any h k]; exact q⟩
    | true => exact rNotInT_op hu pins s σ _ _ _ v u Q I rx ry ⟨_, _, p1, p2, shaped_of h (by omega), shapedT k n, by rw [dPs_any h k]; exact q⟩
def nonB : D → Bool | .non => true | _ => false
theorem is_non {w : Hs} {d : D} {x : V} {B : Ft} (t : T K cl w d x B) : decide (x = .non) = nonB d := by
  cases d with
  | non => rw [t.non1]; rfl
  | bl b => rw [t.bl1]; simp [nonB]
  | int b => rw [t.int1]; simp [nonB]
  | str b => rw [t.str1]; simp [nonB]
  | tup xs => unfold T at t; obtain ⟨a, vs, rfl, _⟩ := t; simp [nonB]
  | lst o xs => unfold T at t; obtain ⟨a, vs, B, rfl, _⟩ := t; simp [nonB]
  | dct o xs => unfold T at t; obtain ⟨a, vs, u, B, rfl, _⟩ := t; simp [nonB]
  | ins o c xs => unfold T at t; obtain ⟨a, C, dx, vs, B, rfl, _⟩ := t; simp [nonB]
theorem op_cmp (hu : X.A.units + 65 < cLine) (op : C2) : OpR X (compareOp op.op) (rCmp X.K cl op) := by
  intro pins s σ H x y v u Q I rx ry h
  obtain ⟨w, A, B1, B2, d, e, r, rfl, g, t1, t2, hr, q⟩ := h
  cases op with
  | eq =>
    have hr : (if okEq d e then some (eqD d e) else none) = some r := hr
    split at hr
    · rename_i ok
      cases hr
      rcases eq_ways ok with ⟨h1, h2, h3⟩ | ⟨h1, h2, h3, h4⟩
      · cases (T.of_flat h1 t1).1; cases (T.of_flat h2 t2).1
        exact op_eq pins s σ _ _ _ v u Q I rx ry ⟨h3, by rw [dec_fvD h3 h1 h2]; exact q⟩
      · exact op_eqD (by omega) pins s σ _ _ _ v u Q I rx ry ⟨_, _, T.dp g h1 t1, T.dp g h2 t2, shaped_of h1 h3, shaped_of h2 h4, by rw [dP_eqv d e h1 h2]; exact q⟩
    · cases hr
  | ne =>
    have hr : (if okEq d e then some (eqD d e) else none).map not = some r := hr
    split at hr
    · rename_i ok
      cases hr
      rcases eq_ways ok with ⟨h1, h2, h3⟩ | ⟨h1, h2, h3, h4⟩
      · cases (T.of_flat h1 t1).1; cases (T.of_flat h2 t2).1
        exact op_ne pins s σ _ _ _ v u Q I rx ry ⟨h3, by rw [dec_fvD h3 h1 h2]; exact q⟩
      · exact op_neD (by omega) pins s σ _ _ _ v u Q I rx ry ⟨_, _, T.dp g h1 t1, T.dp g h2 t2, shaped_of h1 h3, shaped_of h2 h4, by rw [dP_eqv d e h1 h2]; exact q⟩
    · cases hr
  | lt =>
    cases d <;> cases e <;> first | (simp [cmpD] at hr; done) | skip
    · cases t1.int1; cases t2.int1; cases hr
      exact op_lt pins s σ _ _ _ v u Q I rx ry ⟨_, _, rfl, rfl, q⟩
    · cases t1.str1; cases t2.str1; cases hr
      exact op_lt_str pins s σ _ _ _ v u Q I rx ry ⟨_, _, rfl, rfl, q⟩
  | le =>
    cases d <;> cases e <;> first | (simp [cmpD] at hr; done) | skip
    cases t1.int1; cases t2.int1; cases hr
    exact op_le pins s σ _ _ _ v u Q I rx ry ⟨_, _, rfl, rfl, q⟩
  | gt =>
    cases d <;> cases e <;> first | (simp [cmpD] at hr; done) | skip
    cases t1.int1; cases t2.int1; cases hr
    exact op_gt pins s σ _ _ _ v u Q I rx ry ⟨_, _, rfl, rfl, q⟩
  | ge =>
    cases d <;> cases e <;> first | (simp [cmpD] at hr; done) | skip
    cases t1.int1; cases t2.int1; cases hr
    exact op_ge pins s σ _ _ _ v u Q I rx ry ⟨_, _, rfl, rfl, q⟩
  | is =>
    cases e <;> first | (simp [cmpD] at hr; done) | skip
    cases t2.non1
    refine op_isN pins s σ _ _ _ v u Q I rx ry ⟨rfl, ?_⟩
    rw [is_non t1]
    cases hr
    cases d <;> exact q
  | isnot =>
    cases e <;> first | (simp [cmpD] at hr; done) | skip
    cases t2.non1
    refine op_notN pins s σ _ _ _ v u Q I rx ry ⟨rfl, ?_⟩
    rw [is_non t1]
    cases hr
    cases d <;> exact q
  | inn =>
    cases e <;> first | (simp [cmpD] at hr; done) | skip
    · rename_i ys
      have hr : (if inOk d ys then some (ys.any fun y => eqD y d) else none) = some r := hr
      split at hr
      · rename_i ok; cases hr; exact op_in_tup hu false I rx ry g t1 t2 ok q
      · cases hr
    · rename_i o ys
      have hr : (if inOk d ys then some (ys.any fun y => eqD y d) else none) = some r := hr
      split at hr
      · rename_i ok; cases hr; exact op_in_lst hu false I rx ry g t1 t2 ok q
      · cases hr
  | notin =>
    cases e <;> first | (simp [cmpD] at hr; done) | skip
    · rename_i ys
      have hr : (if inOk d ys then some (!(ys.any fun y => eqD y d)) else none) = some r := hr
      split at hr
      · rename_i ok; cases hr; exact op_in_tup hu true I rx ry g t1 t2 ok q
      · cases hr
    · rename_i o ys
      have hr : (if inOk d ys then some (!(ys.any fun y => eqD y d)) else none) = some r := hr
      split at hr
      · rename_i ok; cases hr; exact op_in_lst hu true I rx ry g t1 t2 ok q
      · cases hr
end
end Ev

/-! Ev, part I: expressions over operands. -/
namespace Ev
open PySem PySem.Spec PyProof.Rows L2

section
variable {X : Cx}
theorem star_of {e : Expr} {es : List Expr} (h : plainE e = true) : starEach (e :: es) X.env = (false, eval e X.env) :: starEach es X.env := by
  cases e <;> first | exact absurd h Bool.false_ne_true | rfl
theorem hpl_of {pos : Pos} : ∀ {es : List Expr}, es.all plainE = true → (backTo pos (starEach es X.env)).any (·.1) = false
  | [], _ => rfl
  | e :: es, h => by
    rw [List.all_cons, Bool.and_eq_true] at h
    rw [star_of h.1]
    show (false || (backTo pos (starEach es X.env)).any (·.1)) = false
    rw [hpl_of h.2]; rfl
theorem plainIx_of {b : Expr} (h : noSl b = true) : PlainIx b := by
  intro o i
  cases b <;> first | exact absurd h Bool.false_ne_true | rfl
theorem chks_plain {N : List Str} {sc : Scope} : ∀ {es : List Expr} {e : E}, chks N sc e es = true → es.all plainE = true
  | [], _, _ => rfl
  | x :: xs, e, h => by
    cases e <;> first | (simp [chks] at h; done) | skip
    unfold chks at h
    simp only [Bool.and_eq_true] at h
    rw [List.all_cons, h.1.2, chks_plain h.2]; rfl
theorem po_val {e : Expr} {te : TE} (h : PE X e te) : PO X (some e) (fun σ H Q => te σ H fun x H1 => ∃ o, ((x = .non ∧ o = none) ∨ ∃ i, x = .int i ∧ o = some i) ∧ Q o H1) := by
  refine ⟨fun pins s σ H Q I hw => ?_⟩
  rw [evalPart_some]
  refine thn (h.run pins s σ H _ I hw) fun u s1 ⟨x, H1, I1, r1, o, q1, q⟩ => ?_
  rcases q1 with ⟨rfl, rfl⟩ | ⟨i, rfl, rfl⟩
  · cases r1
    exact ⟨none, H1, I1, .none, q⟩
  · obtain ⟨t, rfl⟩ := r1
    exact ⟨some i, H1, I1, .int i t, q⟩
end

section
variable {K : PySem.W.Frag} {cl : Str → Option Addr} {w w1 w2 : Hs} {ρ ρ1 ρ2 : Env} {σ : Sg} {A A1 A2 : Ft}
/-! places, further -/
theorem Foc.stepL {p : Pl} {o : Ow} {ds : List D} {d : D} {v : V} {n : Nat} (f : Foc K cl w ρ σ A p (.lst o ds) v) (e : ds[n]? = some d) :
    ∃ a vs v', v = .ref a ∧ LAt K w o a vs ∧ vs.length = ds.length ∧ vs[n]? = some v' ∧ Foc K cl w ρ σ A (.stp p (.i n)) d v' := by
  obtain ⟨eg, _, B1, Br, t, rfl, back⟩ := f
  obtain ⟨a, vs, v', A1, Ar, rfl, sq, hl, e1, t1, rfl, up⟩ := t.stepL e
  refine ⟨a, vs, v', rfl, sq, hl, e1, by unfold getE; rw [eg]; exact e, trivial, A1, Ar + Br, t1, add_assoc' _ _ _, fun w' d'' A'' t' k => ?_⟩
  unfold setE
  rw [eg]
  have := back w' _ _ (up w' d'' A'' t' k.left) k.right
  rw [add_assoc'] at this
  exact this
theorem Foc.stepT {p : Pl} {ds : List D} {d : D} {v : V} {n : Nat} (f : Foc K cl w ρ σ A p (.tup ds) v) (e : ds[n]? = some d) :
    ∃ a vs v', v = .ref a ∧ SqT K w.F a vs ∧ vs.length = ds.length ∧ vs[n]? = some v' ∧ Foc K cl w ρ σ A (.stp p (.i n)) d v' := by
  obtain ⟨eg, _, B1, Br, t, rfl, back⟩ := f
  obtain ⟨a, vs, v', A1, Ar, rfl, sq, hl, e1, t1, rfl, up⟩ := t.stepT e
  refine ⟨a, vs, v', rfl, sq, hl, e1, by unfold getE; rw [eg]; exact e, trivial, A1, Ar + Br, t1, add_assoc' _ _ _, fun w' d'' A'' t' k => ?_⟩
  unfold setE
  rw [eg]
  have := back w' _ _ (up w' d'' A'' t' k.left) k.right
  rw [add_assoc'] at this
  exact this
theorem Foc.stepF {p : Pl} {o : Ow} {c : Str} {fs : List (Str × D)} {d : D} {v : V} {x : Str} (f : Foc K cl w ρ σ A p (.ins o c fs) v) (e : aget fs x = some d) :
    ∃ (a C dx : Addr) (vs : List V) (n : Nat) (v' : V), v = .ref a ∧ cl c = some C ∧ hpO w o a (.ins C dx ((fs.map (·.1)).zip vs)) ∧ vs.length = fs.length ∧ (fs.map (·.1))[n]? = some x ∧ (∀ m : Nat, m < n → (fs.map (·.1))[m]? ≠ some x) ∧ vs[n]? = some v' ∧ Foc K cl w ρ σ A (.stp p (.f x)) d v' := by
  obtain ⟨eg, _, B1, Br, t, rfl, back⟩ := f
  obtain ⟨a, C, dx, vs, n, v', A1, Ar, rfl, hc, sq, hl, e0, no, e1, t1, rfl, up⟩ := t.stepF e
  refine ⟨a, C, dx, vs, n, v', rfl, hc, sq, hl, e0, no, e1, by unfold getE; rw [eg]; exact e, trivial, A1, Ar + Br, t1, add_assoc' _ _ _, fun w' d'' A'' t' k => ?_⟩
  unfold setE
  rw [eg]
  have := back w' _ _ (up w' d'' A'' t' k.left) k.right
  rw [add_assoc'] at this
  exact this
/-- what is told of a value or a place -/
theorem lyV.tree {d : D} {p : Option Pl} {b : V} {B : Ft} (l : lyV K cl w ρ σ A (d, p) b B) : ∃ B', T K cl w d b B' := by
  cases p with
  | none => exact ⟨B, l⟩
  | some p => obtain ⟨rfl, f⟩ := l; obtain ⟨A1, _, t, _⟩ := f.tree; exact ⟨A1, t⟩
/-- the first operand behind the second one -/
theorem lyV.hold {d : D} {p : Option Pl} {b : V} {B1 : Ft} {i : E} (l : lyV K cl w1 ρ1 σ A1 (d, p) b B1) (c : calmP d p i = true) (kB : Kp w1 w2 B1) (k : qt i = true → ρ2 = ρ1 ∧ A2 = A1 ∧ Kp w1 w2 A1) : ∃ B, T K cl w2 d b B := by
  cases p with
  | none => exact ⟨B1, T.keep _ _ _ kB l⟩
  | some pp =>
    obtain ⟨rfl, f⟩ := l
    unfold calmP at c
    simp only [Option.isNone_some, Bool.false_or, Bool.or_eq_true] at c
    obtain ⟨A', Ar, t, e⟩ := f.tree
    rcases c with c | c
    · exact ⟨0, T.keep _ _ _ kB (t.frz c)⟩
    · obtain ⟨_, _, kk⟩ := k c
      rw [e] at kk
      exact ⟨A', T.keep _ _ _ kk.left t⟩
theorem lyV.hold2 {w3 : Hs} {ρ3 : Env} {A3 : Ft} {d : D} {p : Option Pl} {b : V} {B1 : Ft} {i j : E} (l : lyV K cl w1 ρ1 σ A1 (d, p) b B1) (c : calmP d p i = true) (c2 : calmP d p j = true) (kB : Kp w1 w2 B1) (k : qt i = true → ρ2 = ρ1 ∧ A2 = A1 ∧ Kp w1 w2 A1)
    (kB2 : Kp w2 w3 B1) (k2 : qt j = true → ρ3 = ρ2 ∧ A3 = A2 ∧ Kp w2 w3 A2) : ∃ B, T K cl w3 d b B := by
  cases p with
  | none => exact ⟨B1, T.keep _ _ _ kB2 (T.keep _ _ _ kB l)⟩
  | some pp =>
    obtain ⟨rfl, f⟩ := l
    unfold calmP at c c2
    simp only [Option.isNone_some, Bool.false_or, Bool.or_eq_true] at c c2
    obtain ⟨A', Ar, t, e⟩ := f.tree
    rcases c with c | c
    · exact ⟨0, T.keep _ _ _ kB2 (T.keep _ _ _ kB (t.frz c))⟩
    · rcases c2 with c2 | c2
      · exact ⟨0, T.keep _ _ _ kB2 (T.keep _ _ _ kB (t.frz c2))⟩
      · obtain ⟨_, e2, kk⟩ := k c
        obtain ⟨_, _, kk2⟩ := k2 c2
        rw [e2] at kk2
        rw [e] at kk kk2
        exact ⟨A', T.keep _ _ _ kk2.left (T.keep _ _ _ kk.left t)⟩
theorem lyV.holdF {d : D} {pp : Pl} {b : V} {B1 : Ft} {i : E} (l : lyV K cl w1 ρ1 σ A1 (d, some pp) b B1) (c : qt i = true) (k : qt i = true → ρ2 = ρ1 ∧ A2 = A1 ∧ Kp w1 w2 A1) : Foc K cl w2 ρ2 σ A2 pp d b := by
  obtain ⟨rfl, f⟩ := l
  obtain ⟨rfl, rfl, kk⟩ := k c
  exact f.keep kk
end

section
variable {cl : Str → Option Addr} {G : Str → Option D} {C : CT} {X : Cx} {W : WX}
theorem qtL {a b : E} {q : Bool} (h : (qt a && qt b) = q) : (q = true → qt a = true) ∧ (q = true → qt b = true) := by
  subst h
  exact ⟨fun z => (Bool.and_eq_true_iff.mp z).1, fun z => (Bool.and_eq_true_iff.mp z).2⟩

/-! ### a op b -/
theorem s_bin (op : B2) (a b : E) (iha : SndE cl G C a) (ihb : SndE cl G C b) : SndE cl G C (.bin op a b) := fun X W L tk t hc => by
  cases t <;> first | (simp [chk] at hc; done) | skip
  rename_i a' op' b' p
  unfold chk at hc
  simp only [Bool.and_eq_true, decide_eq_true_eq] at hc
  obtain ⟨⟨rfl, ha⟩, hb⟩ := hc
  refine PE.weak (pe_op (op_bin (cl := cl) op) (iha X W L tk a' ha) (ihb X W L tk b' hb)) fun σ H Q h => ?_
  obtain ⟨w, A, ρ, rfl, g, e, h⟩ := h
  unfold ev at h
  obtain ⟨q1, q2⟩ := qtL (rfl : (qt a && qt b) = qt (.bin op a b))
  refine ⟨w, A, ρ, rfl, g, e, h.bind (.start g e) q1 fun x ρ1 w1 A1 B1 b1 a1 kp g1 x1 l1 k1 h1 => ?_⟩
  obtain ⟨d, pl⟩ := x
  dsimp only at h1
  split at h1
  · rename_i hcl
    refine ⟨w1, A1, ρ1, rfl, a1.gd.left, a1.es, h1.bind a1 q2 fun y ρ2 w2 A2 B2 b2 a2 kp2 g2 x2 l2 k2 h2 => ?_⟩
    obtain ⟨e, pe⟩ := y
    dsimp only at h2
    cases hr : binD op d e with
    | none => rw [hr] at h2; exact (show False from h2).elim
    | some r =>
      rw [hr] at h2
      obtain ⟨Bd, td⟩ := lyV.hold (A2 := A2) (ρ2 := ρ2) l1 hcl kp2.left k2
      obtain ⟨Be, te⟩ := l2.tree
      exact ⟨w2, A2, _, Bd, Be, d, e, r, rfl, a2.gd, td, te, hr, oG.can h2 a2⟩
  · exact (show False from h1).elim
theorem s_neg (a : E) (iha : SndE cl G C a) : SndE cl G C (.neg a) := fun X W L tk t hc => by
  cases t <;> first | (simp [chk] at hc; done) | skip
  rename_i op a' p
  cases op <;> first | (simp [chk] at hc; done) | skip
  unfold chk at hc
  refine PE.weak (pe_un un_neg (iha X W L tk a' hc)) fun σ H Q h => ?_
  obtain ⟨w, A, ρ, rfl, g, e, h⟩ := h
  unfold ev at h
  refine ⟨w, A, ρ, rfl, g, e, h.bind (.start g e) (fun z => z) fun x ρ1 w1 A1 B1 b1 a1 kp g1 x1 l1 k1 h1 => ?_⟩
  obtain ⟨d, pl⟩ := x
  cases d <;> first | exact (show False from h1).elim | skip
  obtain ⟨B', t⟩ := l1.tree
  cases t.int1
  exact ⟨_, rfl, oG.fInt h1 a1⟩
theorem s_not (a : E) (iha : SndE cl G C a) : SndE cl G C (.not a) := fun X W L tk t hc => by
  cases t <;> first | (simp [chk] at hc; done) | skip
  rename_i op a' p
  cases op <;> first | (simp [chk] at hc; done) | skip
  unfold chk at hc
  refine PE.weak (pe_notT (iha X W L tk a' hc)) fun σ H Q h => ?_
  obtain ⟨w, A, ρ, rfl, g, e, h⟩ := h
  unfold ev at h
  refine ⟨w, A, ρ, rfl, g, e, h.bind (.start g e) (fun z => z) fun x ρ1 w1 A1 B1 b1 a1 kp g1 x1 l1 k1 h1 => ?_⟩
  obtain ⟨d, pl⟩ := x
  dsimp only at h1
  obtain ⟨B', t⟩ := l1.tree
  cases hk : trD d with
  | none => rw [hk] at h1; exact (show False from h1).elim
  | some k =>
    rw [hk] at h1
    exact ⟨k, T.tru a1.gd t hk, oG.fBl h1 a1⟩

theorem noSet_mark {op : CmpOp} {e : Expr} (h : noSet e = true) : behindInMarks op e = false := by
  cases e <;> first | exact absurd h Bool.false_ne_true | rfl
theorem s_cmp (op : C2) (a b : E) (iha : SndE cl G C a) (ihb : SndE cl G C b) : SndE cl G C (.cmp op a b) := fun X W L tk t hc => by
  cases t <;> first | (simp [chk] at hc; done) | skip
  rename_i a' ops bs p
  cases ops <;> first | (simp [chk] at hc; done) | skip
  rename_i op' ops
  cases ops with
  | cons o2 os => cases bs with
    | nil => simp [chk] at hc
    | cons b2 bs => cases bs <;> simp [chk] at hc
  | nil =>
    cases bs <;> first | (simp [chk] at hc; done) | skip
    rename_i b' bs
    cases bs <;> first | (simp [chk] at hc; done) | skip
    unfold chk at hc
    simp only [Bool.and_eq_true, decide_eq_true_eq] at hc
    obtain ⟨⟨⟨rfl, ha⟩, hb⟩, hs⟩ := hc
    refine PE.weak (pe_cmpR (op_cmp (cl := cl) L.un op) (iha X W L tk a' ha) (ihb X W L tk b' hb) (noSet_mark hs)) fun σ H Q h => ?_
    obtain ⟨w, A, ρ, rfl, g, e, h⟩ := h
    unfold ev at h
    obtain ⟨q1, q2⟩ := qtL (rfl : (qt a && qt b) = qt (.cmp op a b))
    refine ⟨w, A, ρ, rfl, g, e, h.bind (.start g e) q1 fun x ρ1 w1 A1 B1 b1 a1 kp g1 x1 l1 k1 h1 => ?_⟩
    obtain ⟨d, pl⟩ := x
    dsimp only at h1
    split at h1
    · rename_i hcl
      refine ⟨w1, A1, ρ1, rfl, a1.gd.left, a1.es, h1.bind a1 q2 fun y ρ2 w2 A2 B2 b2 a2 kp2 g2 x2 l2 k2 h2 => ?_⟩
      obtain ⟨e, pe⟩ := y
      dsimp only at h2
      cases hr : cmpD op d e with
      | none => rw [hr] at h2; exact (show False from h2).elim
      | some r =>
        rw [hr] at h2
        obtain ⟨Bd, td⟩ := lyV.hold (A2 := A2) (ρ2 := ρ2) l1 hcl kp2.left k2
        obtain ⟨Be, te⟩ := l2.tree
        exact ⟨w2, _, Bd, Be, d, e, r, rfl, a2.gd, td, te, hr, oG.fBl h2 a2⟩
    · exact (show False from h1).elim
theorem qt3 {a b c : E} {q : Bool} (h : (qt a && qt b && qt c) = q) : (q = true → qt a = true) ∧ (q = true → qt b = true) ∧ (q = true → qt c = true) := by
  subst h
  refine ⟨fun z => ?_, fun z => ?_, fun z => ?_⟩ <;> simp only [Bool.and_eq_true] at z
  · exact z.1.1
  · exact z.1.2
  · exact z.2
theorem s_chain (op op' : C2) (a b c : E) (iha : SndE cl G C a) (ihb : SndE cl G C b) (ihc : SndE cl G C c) : SndE cl G C (.chain op op' a b c) := fun X W L tk t hc => by
  cases t <;> first | (simp [chk] at hc; done) | skip
  rename_i a' ops bs p
  match ops, bs, hc with
  | [q, q'], [b', c'], hc =>
    unfold chk at hc
    simp only [Bool.and_eq_true, decide_eq_true_eq] at hc
    obtain ⟨⟨⟨⟨⟨rfl, rfl⟩, ha⟩, hb⟩, hcc⟩, hs⟩ := hc
    refine PE.weak (pe_chain (op_cmp (cl := cl) L.un op) (op_cmp (cl := cl) L.un op') (iha X W L tk a' ha) (ihb X W L tk b' hb) (ihc X W L tk c' hcc) (noSet_mark hs)) fun σ H Q h => ?_
    obtain ⟨w, A, ρ, rfl, g, e, h⟩ := h
    unfold ev at h
    obtain ⟨q1, q2, q3⟩ := qt3 (rfl : (qt a && qt b && qt c) = qt (.chain op op' a b c))
    refine ⟨w, A, ρ, rfl, g, e, h.bindU (.start g e) q1 fun d ρ1 w1 A1 B1 b1 a1 kp g1 x1 l1 k1 h1 => ?_⟩
    refine ⟨w1, A1, ρ1, rfl, a1.gd.left, a1.es, h1.bindU a1 q2 fun e ρ2 w2 A2 B2 b2 a2 kp2 g2 x2 l2 k2 h2 => ?_⟩
    have l1' := T.keep _ _ _ kp2.left l1
    cases hr : cmpD op d e with
    | none => rw [hr] at h2; exact (show False from h2).elim
    | some r =>
      rw [hr] at h2
      refine ⟨w2, _, _, _, d, e, r, rfl, a2.gd, l1', l2, hr, r, rfl, ?_⟩
      cases r with
      | false => exact oG.fBl h2 a2
      | true =>
        refine ⟨w2, A2, ρ2, rfl, a2.gd.left, a2.es, oG.bindU h2 a2 q3 fun f ρ3 w3 A3 B3 b3 a3 kp3 g3 x3 l3 k3 h3 => ?_⟩
        have l2' := T.keep _ _ _ kp3.left l2
        cases hr2 : cmpD op' e f with
        | none => rw [hr2] at h3; exact (show False from h3).elim
        | some r2 =>
          rw [hr2] at h3
          exact ⟨w3, _, _, _, e, f, r2, rfl, a3.gd, l2', l3, hr2, oG.fBl h3 a3⟩
  | [], _, hc => simp [chk] at hc
  | [_], [], hc => simp [chk] at hc
  | [_], [_], hc => simp [chk] at hc
  | [_], _ :: _ :: _, hc => simp [chk] at hc
  | _ :: _ :: _ :: _, _, hc => simp [chk] at hc
  | [_, _], [], hc => simp [chk] at hc
  | [_, _], [_], hc => simp [chk] at hc
  | [_, _], _ :: _ :: _ :: _, hc => simp [chk] at hc

/-! ### and, or -/
theorem s_and (a b : E) (iha : SndE cl G C a) (ihb : SndE cl G C b) : SndE cl G C (.and a b) := fun X W L tk t hc => by
  cases t <;> first | (simp [chk] at hc; done) | skip
  rename_i op es p
  cases op <;> first | (simp [chk] at hc; done) | skip
  match es, hc with
  | x :: y :: r, hc =>
    unfold chk at hc
    rw [Bool.and_eq_true] at hc
    have hb : PE X (.BoolOp .And (y :: r) p) (tG X.K cl (lyV X.K cl) (qt b) (ev C G b) W) := by
      cases r with
      | nil => exact pe_one (ihb X W L tk y hc.2)
      | cons z r => exact ihb X W L tk _ hc.2
    refine PE.weak (pe_andT (iha X W L tk x hc.1) hb) fun σ H Q h => ?_
    obtain ⟨w, A, ρ, rfl, g, e, h⟩ := h
    unfold ev at h
    obtain ⟨q1, q2⟩ := qtL (rfl : (qt a && qt b) = qt (.and a b))
    refine ⟨w, A, ρ, rfl, g, e, h.bind (.start g e) q1 fun x ρ1 w1 A1 B1 b1 a1 kp g1 x1 l1 k1 h1 => ?_⟩
    obtain ⟨d, pl⟩ := x
    dsimp only at h1
    obtain ⟨Bd, td⟩ := l1.tree
    cases hk : trD d with
    | none => rw [hk] at h1; exact (show False from h1).elim
    | some k =>
      rw [hk] at h1
      refine ⟨k, T.tru a1.gd td hk, ?_⟩
      cases k with
      | true => exact ⟨w1, A1, ρ1, rfl, a1.gd.left, a1.es, oG.tail h1 a1 q2⟩
      | false => exact h1.fin1 a1 (fun b y => by rw [add_at]; omega) l1
  | [], hc => simp [chk] at hc
  | [_], hc => simp [chk] at hc
theorem s_or (a b : E) (iha : SndE cl G C a) (ihb : SndE cl G C b) : SndE cl G C (.or a b) := fun X W L tk t hc => by
  cases t <;> first | (simp [chk] at hc; done) | skip
  rename_i op es p
  cases op <;> first | (simp [chk] at hc; done) | skip
  match es, hc with
  | x :: y :: r, hc =>
    unfold chk at hc
    rw [Bool.and_eq_true] at hc
    have hb : PE X (.BoolOp .Or (y :: r) p) (tG X.K cl (lyV X.K cl) (qt b) (ev C G b) W) := by
      cases r with
      | nil => exact pe_one (ihb X W L tk y hc.2)
      | cons z r => exact ihb X W L tk _ hc.2
    refine PE.weak (pe_orT (iha X W L tk x hc.1) hb) fun σ H Q h => ?_
    obtain ⟨w, A, ρ, rfl, g, e, h⟩ := h
    unfold ev at h
    obtain ⟨q1, q2⟩ := qtL (rfl : (qt a && qt b) = qt (.or a b))
    refine ⟨w, A, ρ, rfl, g, e, h.bind (.start g e) q1 fun x ρ1 w1 A1 B1 b1 a1 kp g1 x1 l1 k1 h1 => ?_⟩
    obtain ⟨d, pl⟩ := x
    dsimp only at h1
    obtain ⟨Bd, td⟩ := l1.tree
    cases hk : trD d with
    | none => rw [hk] at h1; exact (show False from h1).elim
    | some k =>
      rw [hk] at h1
      refine ⟨k, T.tru a1.gd td hk, ?_⟩
      cases k with
      | false => exact ⟨w1, A1, ρ1, rfl, a1.gd.left, a1.es, oG.tail h1 a1 q2⟩
      | true => exact h1.fin1 a1 (fun b y => by rw [add_at]; omega) l1
  | [], hc => simp [chk] at hc
  | [_], hc => simp [chk] at hc
end
end Ev

/-! Ev, part J: tests, items, fields, slices, displays, arguments. -/
namespace Ev
open PySem PySem.Spec PyProof.Rows L2

section
variable (cl : Str → Option Addr) (G : Str → Option D) (C : CT)
/-- a test's reading -/
def evT (e : E) : Env → Out Bool := fun ρ => tru (ev C G e ρ)
def SndT (e : E) : Prop := ∀ (X : Cx) (W : WX) (L : Lib cl G C X) (tk : Takes X W) (t : Expr), chk X.N X.env.scope e t = true → PT X t (tG X.K cl (lyB) (qt e) (evT G C e) W)
end
def plainT : Expr → Bool
  | .UnaryOp .Not _ _ => false | .BoolOp .. => false | .IfExp .. => false | .Compare .. => false | _ => true
section
variable {X : Cx}
theorem true_of {t : Expr} (h : plainT t = true) : ∀ whole, isTrue t X.env whole = (do let v ← whole; standAt t.pos; holding [v] (truthy v)) := by
  intro whole
  cases t <;> first | exact absurd h Bool.false_ne_true | rfl | skip
  rename_i op a p
  cases op <;> first | exact absurd h Bool.false_ne_true | rfl
theorem PW.of_bool {op : BoolOp} {vs : List Expr} {p : Pos} {t : TT} (h : PT X (.BoolOp op vs p) t) : PW X (.BoolOp op vs p) t := ⟨fun whole pins s σ H Q I q => by
  have := h.run pins s σ H Q I q
  have e : isTrue (.BoolOp op vs p) X.env whole = isTrue (.BoolOp op vs p) X.env (eval (.BoolOp op vs p) X.env) := rfl
  rw [e]; exact this⟩
theorem pt_ifExp {c a b : Expr} {pos : Pos} {tc ta tb : TT} (hc : PT X c tc) (ha : PT X a ta) (hb : PT X b tb) : PT X (.IfExp c a b pos) (fun σ H Q => tc σ H fun k H1 => if k = true then ta σ H1 Q else tb σ H1 Q) := by
  refine ⟨fun pins s σ H Q I h => ?_⟩
  refine isTrue_IfExp (thn (hc.run pins s σ H _ I h) fun d s1 ⟨H1, I1, q1⟩ => ?_)
  cases d with
  | true => exact ha.run pins s1 σ H1 Q I1 q1
  | false => exact hb.run pins s1 σ H1 Q I1 q1
end
section
variable {cl : Str → Option Addr} {G : Str → Option D} {C : CT} {X : Cx} {W : WX}
/-- a value's truth -/
theorem oG.truth {q q1 : Bool} {w0 w : Hs} {A0 A CC : Ft} {ρ0 ρ : Env} {σ : Sg} {Q : Bool → Hp → Prop} {o : Out (D × Option Pl)} (h : oG X.K cl lyB q w0 A0 ρ0 σ (tru o) Q W)
    (a : At (K := X.K) (cl := cl) q w0 A0 ρ0 σ w A CC ρ) (hq : q = true → q1 = true) : oG X.K cl (lyV X.K cl) q1 w A ρ σ o (fun x H' => ∃ k, TruV X.K x H' k ∧ Q k H') W := by
  have h : oG X.K cl lyB q w0 A0 ρ0 σ (o.bind fun (d, _) ρ => liftO (trD d) ρ) Q W := h
  refine oG.bind h a hq fun x ρ1 w1 A1 B1 b1 a1 kp g1 x1 l1 k1 h1 => ?_
  obtain ⟨d, pl⟩ := x
  dsimp only at h1
  obtain ⟨Bd, td⟩ := l1.tree
  cases hk : trD d with
  | none => rw [hk] at h1; exact (show False from h1).elim
  | some k =>
    rw [hk] at h1
    exact ⟨k, T.tru a1.gd td hk, h1.fin0 a1 ⟨rfl, rfl⟩⟩
theorem sT_gen {e : E} (ih : SndE cl G C e) (X : Cx) (W : WX) (L : Lib cl G C X) (tk : Takes X W) (t : Expr) (hc : chk X.N X.env.scope e t = true) (hp : plainT t = true) : PT X t (tG X.K cl lyB (qt e) (evT G C e) W) := by
  have := pt_truth (ih X W L tk t hc) (true_of hp)
  refine PT.weak this fun σ H Q h => ?_
  obtain ⟨w, A, ρ, rfl, g, e, h⟩ := h
  exact ⟨w, A, ρ, rfl, g, e, oG.truth h (.start g e) fun z => z⟩
/-- a test of a test -/
theorem oG.testB {γ δ : Type} {ly : Ly γ δ} {q q1 : Bool} {w0 w : Hs} {A0 A CC : Ft} {ρ0 ρ : Env} {σ : Sg} {Q : δ → Hp → Prop} {o : Out Bool} {f : Bool → Env → Out γ} {R : Bool → Hp → Prop} (h : oG X.K cl ly q w0 A0 ρ0 σ (o.bind f) Q W)
    (a : At (K := X.K) (cl := cl) q w0 A0 ρ0 σ w A CC ρ) (hq : q = true → q1 = true)
    (k : ∀ c ρ1 w1 A1, At (K := X.K) (cl := cl) q w0 A0 ρ0 σ w1 A1 CC ρ1 → Kp w w1 CC → oG X.K cl ly q w0 A0 ρ0 σ (f c ρ1) Q W → R c w1.H) : oG X.K cl lyB q1 w A ρ σ o R W :=
  h.bind a hq fun c ρ1 w1 A1 B1 b a1 kp g1 x1 l k1 h1 => by
    obtain ⟨rfl, rfl⟩ := l
    rw [zero_add'] at a1
    exact k c ρ1 w1 A1 a1 kp h1
theorem evT_and (a b : E) (ρ : Env) : evT G C (.and a b) ρ = (evT G C a ρ).bind fun k ρ1 => if k then evT G C b ρ1 else .ok false ρ1 := by
  unfold evT
  rw [show ev C G (.and a b) ρ = (ev C G a ρ).bind fun (d, p) ρ1 => match trD d with
    | some true => ev C G b ρ1
    | some false => .ok (d, p) ρ1
    | none => .bad from by rw [ev] <;> rfl]
  cases ev C G a ρ with
  | exc x ρ => rfl
  | bad => rfl
  | ok x ρ1 =>
    obtain ⟨d, p⟩ := x
    show tru (match trD d with
      | some true => ev C G b ρ1
      | some false => .ok (d, p) ρ1
      | none => .bad) = (liftO (trD d) ρ1).bind fun k ρ1 => if k then tru (ev C G b ρ1) else .ok false ρ1
    cases hk : trD d with
    | none => rfl
    | some k =>
      cases k with
      | true => rfl
      | false =>
        show (liftO (trD d) ρ1 : Out Bool) = .ok false ρ1
        rw [hk]; rfl
theorem evT_or (a b : E) (ρ : Env) : evT G C (.or a b) ρ = (evT G C a ρ).bind fun k ρ1 => if k then .ok true ρ1 else evT G C b ρ1 := by
  unfold evT
  rw [show ev C G (.or a b) ρ = (ev C G a ρ).bind fun (d, p) ρ1 => match trD d with
    | some true => .ok (d, p) ρ1
    | some false => ev C G b ρ1
    | none => .bad from by rw [ev] <;> rfl]
  cases ev C G a ρ with
  | exc x ρ => rfl
  | bad => rfl
  | ok x ρ1 =>
    obtain ⟨d, p⟩ := x
    show tru (match trD d with
      | some true => .ok (d, p) ρ1
      | some false => ev C G b ρ1
      | none => .bad) = (liftO (trD d) ρ1).bind fun k ρ1 => if k then .ok true ρ1 else tru (ev C G b ρ1)
    cases hk : trD d with
    | none => rfl
    | some k =>
      cases k with
      | false => rfl
      | true =>
        show (liftO (trD d) ρ1 : Out Bool) = .ok true ρ1
        rw [hk]; rfl
theorem ev_ite (c a b : E) (ρ : Env) : ev C G (.ite c a b) ρ = (evT G C c ρ).bind fun k ρ1 => if k then ev C G a ρ1 else ev C G b ρ1 := by
  rw [show ev C G (.ite c a b) ρ = (ev C G c ρ).bind fun (d, _) ρ1 => match trD d with
    | some true => ev C G a ρ1
    | some false => ev C G b ρ1
    | none => .bad from by rw [ev] <;> rfl]
  unfold evT
  cases ev C G c ρ with
  | exc x ρ => rfl
  | bad => rfl
  | ok x ρ1 =>
    obtain ⟨d, p⟩ := x
    show (match trD d with
      | some true => ev C G a ρ1
      | some false => ev C G b ρ1
      | none => .bad) = (liftO (trD d) ρ1).bind fun k ρ1 => if k then ev C G a ρ1 else ev C G b ρ1
    cases hk : trD d with
    | none => rfl
    | some k => cases k <;> rfl
theorem evT_ite (c a b : E) (ρ : Env) : evT G C (.ite c a b) ρ = (evT G C c ρ).bind fun k ρ1 => if k then evT G C a ρ1 else evT G C b ρ1 := by
  unfold evT
  rw [ev_ite]
  unfold evT
  cases tru (ev C G c ρ) with
  | exc x ρ => rfl
  | bad => rfl
  | ok k ρ1 => cases k <;> rfl
theorem evT_not (a : E) (ρ : Env) : evT G C (.not a) ρ = (evT G C a ρ).bind fun k ρ1 => .ok (!k) ρ1 := by
  unfold evT
  rw [show ev C G (.not a) ρ = (ev C G a ρ).bind fun (d, _) ρ1 => match trD d with
    | some b => .ok (.bl (!b), none) ρ1
    | none => .bad from by rw [ev] <;> rfl]
  cases ev C G a ρ with
  | exc x ρ => rfl
  | bad => rfl
  | ok x ρ1 =>
    obtain ⟨d, p⟩ := x
    show tru (match trD d with
      | some b => .ok (.bl (!b), none) ρ1
      | none => .bad) = (liftO (trD d) ρ1).bind fun k ρ1 => .ok (!k) ρ1
    cases hk : trD d <;> rfl
theorem sT_not (a : E) (iha : SndT cl G C a) : SndT cl G C (.not a) := fun X W L tk t hc => by
  cases t <;> first | (simp [chk] at hc; done) | skip
  rename_i op a' p
  cases op <;> first | (simp [chk] at hc; done) | skip
  unfold chk at hc
  refine PT.weak (pt_not (iha X W L tk a' hc)) fun σ H Q h => ?_
  obtain ⟨w, A, ρ, rfl, g, e, h⟩ := h
  rw [evT_not] at h
  exact ⟨w, A, ρ, rfl, g, e, oG.testB h (.start g e) (fun z => z) fun c ρ1 w1 A1 a1 kp h1 => h1.fin0 a1 ⟨rfl, rfl⟩⟩
theorem sT_ite (c a b : E) (ihc : SndT cl G C c) (iha : SndT cl G C a) (ihb : SndT cl G C b) : SndT cl G C (.ite c a b) := fun X W L tk t hc => by
  cases t <;> first | (simp [chk] at hc; done) | skip
  rename_i c' a' b' p
  unfold chk at hc
  simp only [Bool.and_eq_true] at hc
  refine PT.weak (pt_ifExp (ihc X W L tk c' hc.1.1) (iha X W L tk a' hc.1.2) (ihb X W L tk b' hc.2)) fun σ H Q h => ?_
  obtain ⟨w, A, ρ, rfl, g, e, h⟩ := h
  rw [evT_ite] at h
  obtain ⟨q1, q2, q3⟩ := qt3 (rfl : (qt c && qt a && qt b) = qt (.ite c a b))
  refine ⟨w, A, ρ, rfl, g, e, oG.testB h (.start g e) q1 fun k ρ1 w1 A1 a1 kp h1 => ?_⟩
  cases k with
  | true => exact ⟨w1, A1, ρ1, rfl, a1.gd.left, a1.es, oG.tail h1 a1 q2⟩
  | false => exact ⟨w1, A1, ρ1, rfl, a1.gd.left, a1.es, oG.tail h1 a1 q3⟩
theorem s_ite (c a b : E) (ihc : SndT cl G C c) (iha : SndE cl G C a) (ihb : SndE cl G C b) : SndE cl G C (.ite c a b) := fun X W L tk t hc => by
  cases t <;> first | (simp [chk] at hc; done) | skip
  rename_i c' a' b' p
  unfold chk at hc
  simp only [Bool.and_eq_true] at hc
  refine PE.weak (pe_ifExp (ihc X W L tk c' hc.1.1) (iha X W L tk a' hc.1.2) (ihb X W L tk b' hc.2)) fun σ H Q h => ?_
  obtain ⟨w, A, ρ, rfl, g, e, h⟩ := h
  rw [ev_ite] at h
  obtain ⟨q1, q2, q3⟩ := qt3 (rfl : (qt c && qt a && qt b) = qt (.ite c a b))
  refine ⟨w, A, ρ, rfl, g, e, oG.testB h (.start g e) q1 fun k ρ1 w1 A1 a1 kp h1 => ?_⟩
  cases k with
  | true => exact ⟨w1, A1, ρ1, rfl, a1.gd.left, a1.es, oG.tail h1 a1 q2⟩
  | false => exact ⟨w1, A1, ρ1, rfl, a1.gd.left, a1.es, oG.tail h1 a1 q3⟩
theorem sT_and (a b : E) (iha : SndT cl G C a) (ihb : SndT cl G C b) : SndT cl G C (.and a b) := fun X W L tk t hc => by
  cases t <;> first | (simp [chk] at hc; done) | skip
  rename_i op es p
  cases op <;> first | (simp [chk] at hc; done) | skip
  match es, hc with
  | x :: y :: r, hc =>
    unfold chk at hc
    rw [Bool.and_eq_true] at hc
    have hb : PW X (.BoolOp .And (y :: r) p) (tG X.K cl lyB (qt b) (evT G C b) W) := by
      cases r with
      | nil => exact pw_and1 (ihb X W L tk y hc.2)
      | cons z r => exact PW.of_bool (ihb X W L tk _ hc.2)
    refine PT.weak (pw_and (iha X W L tk x hc.1) hb).pt fun σ H Q h => ?_
    obtain ⟨w, A, ρ, rfl, g, e, h⟩ := h
    rw [evT_and] at h
    obtain ⟨q1, q2⟩ := qtL (rfl : (qt a && qt b) = qt (.and a b))
    refine ⟨w, A, ρ, rfl, g, e, oG.testB h (.start g e) q1 fun c ρ1 w1 A1 a1 kp h1 => ?_⟩
    cases c with
    | true => exact ⟨w1, A1, ρ1, rfl, a1.gd.left, a1.es, oG.tail h1 a1 q2⟩
    | false => exact h1.fin0 a1 ⟨rfl, rfl⟩
  | [], hc => simp [chk] at hc
  | [_], hc => simp [chk] at hc
theorem sT_or (a b : E) (iha : SndT cl G C a) (ihb : SndT cl G C b) : SndT cl G C (.or a b) := fun X W L tk t hc => by
  cases t <;> first | (simp [chk] at hc; done) | skip
  rename_i op es p
  cases op <;> first | (simp [chk] at hc; done) | skip
  match es, hc with
  | x :: y :: r, hc =>
    unfold chk at hc
    rw [Bool.and_eq_true] at hc
    have hb : PW X (.BoolOp .Or (y :: r) p) (tG X.K cl lyB (qt b) (evT G C b) W) := by
      cases r with
      | nil => exact pw_or1 (ihb X W L tk y hc.2)
      | cons z r => exact PW.of_bool (ihb X W L tk _ hc.2)
    refine PT.weak (pw_or (iha X W L tk x hc.1) hb).pt fun σ H Q h => ?_
    obtain ⟨w, A, ρ, rfl, g, e, h⟩ := h
    rw [evT_or] at h
    obtain ⟨q1, q2⟩ := qtL (rfl : (qt a && qt b) = qt (.or a b))
    refine ⟨w, A, ρ, rfl, g, e, oG.testB h (.start g e) q1 fun c ρ1 w1 A1 a1 kp h1 => ?_⟩
    cases c with
    | false => exact ⟨w1, A1, ρ1, rfl, a1.gd.left, a1.es, oG.tail h1 a1 q2⟩
    | true => exact h1.fin0 a1 ⟨rfl, rfl⟩
  | [], hc => simp [chk] at hc
  | [_], hc => simp [chk] at hc
/-- a test of a place or a value: not, comparisons -/
theorem sT_cmp (op : C2) (a b : E) (iha : SndE cl G C a) (ihb : SndE cl G C b) : SndT cl G C (.cmp op a b) := fun X W L tk t hc => by
  have hc0 := hc
  cases t <;> first | (simp [chk] at hc; done) | skip
  rename_i a' ops bs p
  cases ops <;> first | (simp [chk] at hc; done) | skip
  rename_i op' ops
  cases ops with
  | cons o2 os => cases bs with
    | nil => simp [chk] at hc
    | cons b2 bs => cases bs <;> simp [chk] at hc
  | nil =>
    cases bs <;> first | (simp [chk] at hc; done) | skip
    rename_i b' bs
    cases bs <;> first | (simp [chk] at hc; done) | skip
    unfold chk at hc
    simp only [Bool.and_eq_true, decide_eq_true_eq] at hc
    obtain ⟨⟨⟨rfl, ha⟩, hb⟩, hs⟩ := hc
    refine PT.weak (pt_cmpR (op_cmp (cl := cl) L.un op) (iha X W L tk a' ha) (ihb X W L tk b' hb) (noSet_mark hs)) fun σ H Q h => ?_
    obtain ⟨w, A, ρ, rfl, g, e, h⟩ := h
    obtain ⟨q1, q2⟩ := qtL (rfl : (qt a && qt b) = qt (.cmp op a b))
    have h : oG X.K cl lyB (qt (.cmp op a b)) w A ρ σ ((ev C G a ρ).bind fun (d, p) ρ1 =>
        if calmP d p b then (ev C G b ρ1).bind fun (e, _) ρ2 => liftO (cmpD op d e) ρ2 else .bad) Q W := by
      have he : evT G C (.cmp op a b) ρ = ((ev C G a ρ).bind fun (d, p) ρ1 =>
        if calmP d p b then (ev C G b ρ1).bind fun (e, _) ρ2 => liftO (cmpD op d e) ρ2 else .bad) := by
        unfold evT
        rw [show ev C G (.cmp op a b) ρ = (ev C G a ρ).bind fun (d, p) ρ1 =>
          if calmP d p b then (ev C G b ρ1).bind fun (e, _) ρ2 => match cmpD op d e with
            | some r => .ok (.bl r, none) ρ2
            | none => .bad
          else .bad from by rw [ev] <;> rfl]
        cases ev C G a ρ with
        | exc x ρ => rfl
        | bad => rfl
        | ok x ρ1 =>
          obtain ⟨d, pl⟩ := x
          show tru (if calmP d pl b then _ else _) = if calmP d pl b then _ else _
          split
          · cases ev C G b ρ1 with
            | exc x ρ => rfl
            | bad => rfl
            | ok y ρ2 =>
              obtain ⟨e, pe⟩ := y
              show tru (match cmpD op d e with
                | some r => .ok (.bl r, none) ρ2
                | none => .bad) = liftO (cmpD op d e) ρ2
              cases cmpD op d e <;> rfl
          · rfl
      rw [he] at h
      exact h
    refine ⟨w, A, ρ, rfl, g, e, h.bind (.start g e) q1 fun x ρ1 w1 A1 B1 b1 a1 kp g1 x1 l1 k1 h1 => ?_⟩
    obtain ⟨d, pl⟩ := x
    dsimp only at h1
    split at h1
    · rename_i hcl
      refine ⟨w1, A1, ρ1, rfl, a1.gd.left, a1.es, h1.bind a1 q2 fun y ρ2 w2 A2 B2 b2 a2 kp2 g2 x2 l2 k2 h2 => ?_⟩
      obtain ⟨e, pe⟩ := y
      dsimp only at h2
      cases hr : cmpD op d e with
      | none => rw [hr] at h2; exact (show False from h2).elim
      | some r =>
        rw [hr] at h2
        obtain ⟨Bd, td⟩ := lyV.hold (A2 := A2) (ρ2 := ρ2) l1 hcl kp2.left k2
        obtain ⟨Be, te⟩ := l2.tree
        exact ⟨w2, _, Bd, Be, d, e, r, rfl, a2.gd, td, te, hr, r, rfl, h2.fin0 a2 ⟨rfl, rfl⟩⟩
    · exact (show False from h1).elim
theorem evT_chain (op op' : C2) (a b c : E) (ρ : Env) : evT G C (.chain op op' a b c) ρ = (use (ev C G a ρ)).bind fun d ρ1 => (use (ev C G b ρ1)).bind fun e ρ2 => match cmpD op d e with
    | some true => (use (ev C G c ρ2)).bind fun f ρ3 => liftO (cmpD op' e f) ρ3
    | some false => .ok false ρ2
    | none => .bad := by
  unfold evT
  rw [show ev C G (.chain op op' a b c) ρ = (use (ev C G a ρ)).bind fun d ρ1 => (use (ev C G b ρ1)).bind fun e ρ2 => match cmpD op d e with
    | some true => (use (ev C G c ρ2)).bind fun f ρ3 => (match cmpD op' e f with
      | some r => .ok (.bl r, none) ρ3
      | none => .bad)
    | some false => .ok (.bl false, none) ρ2
    | none => .bad from by rw [ev] <;> rfl]
  cases use (ev C G a ρ) with
  | exc x ρ => rfl
  | bad => rfl
  | ok d ρ1 =>
    dsimp only [Out.bind]
    cases use (ev C G b ρ1) with
    | exc x ρ => rfl
    | bad => rfl
    | ok e ρ2 =>
      dsimp only [Out.bind]
      cases cmpD op d e with
      | none => rfl
      | some r =>
        cases r with
        | false => rfl
        | true =>
          dsimp only
          cases use (ev C G c ρ2) with
          | exc x ρ => rfl
          | bad => rfl
          | ok f ρ3 =>
            dsimp only [Out.bind]
            cases cmpD op' e f <;> rfl
theorem sT_chain (op op' : C2) (a b c : E) (iha : SndE cl G C a) (ihb : SndE cl G C b) (ihc : SndE cl G C c) : SndT cl G C (.chain op op' a b c) := fun X W L tk t hc => by
  cases t <;> first | (simp [chk] at hc; done) | skip
  rename_i a' ops bs p
  match ops, bs, hc with
  | [q, q'], [b', c'], hc =>
    unfold chk at hc
    simp only [Bool.and_eq_true, decide_eq_true_eq] at hc
    obtain ⟨⟨⟨⟨⟨rfl, rfl⟩, ha⟩, hb⟩, hcc⟩, hs⟩ := hc
    refine PT.weak (pt_chain (op_cmp (cl := cl) L.un op) (op_cmp (cl := cl) L.un op') (iha X W L tk a' ha) (ihb X W L tk b' hb) (ihc X W L tk c' hcc) (noSet_mark hs)) fun σ H Q h => ?_
    obtain ⟨w, A, ρ, rfl, g, e, h⟩ := h
    rw [evT_chain] at h
    obtain ⟨q1, q2, q3⟩ := qt3 (rfl : (qt a && qt b && qt c) = qt (.chain op op' a b c))
    refine ⟨w, A, ρ, rfl, g, e, h.bindU (.start g e) q1 fun d ρ1 w1 A1 B1 b1 a1 kp g1 x1 l1 k1 h1 => ?_⟩
    refine ⟨w1, A1, ρ1, rfl, a1.gd.left, a1.es, h1.bindU a1 q2 fun e ρ2 w2 A2 B2 b2 a2 kp2 g2 x2 l2 k2 h2 => ?_⟩
    have l1' := T.keep _ _ _ kp2.left l1
    cases hr : cmpD op d e with
    | none => rw [hr] at h2; exact (show False from h2).elim
    | some r =>
      rw [hr] at h2
      refine ⟨w2, _, _, _, d, e, r, rfl, a2.gd, l1', l2, hr, r, rfl, ?_⟩
      cases r with
      | false => exact ⟨false, rfl, h2.fin0 a2 ⟨rfl, rfl⟩⟩
      | true =>
        refine ⟨w2, A2, ρ2, rfl, a2.gd.left, a2.es, oG.bindU h2 a2 q3 fun f ρ3 w3 A3 B3 b3 a3 kp3 g3 x3 l3 k3 h3 => ?_⟩
        have l2' := T.keep _ _ _ kp3.left l2
        cases hr2 : cmpD op' e f with
        | none => rw [hr2] at h3; exact (show False from h3).elim
        | some r2 =>
          rw [hr2] at h3
          exact ⟨w3, _, _, _, e, f, r2, rfl, a3.gd, l2', l3, hr2, r2, rfl, h3.fin0 a3 ⟨rfl, rfl⟩⟩
  | [], _, hc => simp [chk] at hc
  | [_], [], hc => simp [chk] at hc
  | [_], [_], hc => simp [chk] at hc
  | [_], _ :: _ :: _, hc => simp [chk] at hc
  | _ :: _ :: _ :: _, _, hc => simp [chk] at hc
  | [_, _], [], hc => simp [chk] at hc
  | [_, _], [_], hc => simp [chk] at hc
  | [_, _], _ :: _ :: _ :: _, hc => simp [chk] at hc
end
end Ev

/-! Ev, part K: items, slices, displays, arguments. -/
namespace Ev
open PySem PySem.Spec PyProof.Rows L2

section
variable {cl : Str → Option Addr} {G : Str → Option D} {C : CT} {X : Cx} {W : WX}
theorem qt_ix (a i : E) : qt (.ix a i) = (qt a && qt i) := rfl
theorem ix_some {α : Type} {xs : List α} {i : Int} {n : Nat} {v : α} (h : ixN xs.length i = some n) (k : xs[n]? = some v) : atI xs i = some v := by unfold atI; rw [h]; exact k
theorem frzL_at : ∀ {xs : List D} {m : Nat} {y : D}, frzL xs = true → xs[m]? = some y → isFrz y = true
  | [], _, _, _, e => by simp at e
  | d :: r, 0, y, f, e => by
    unfold frzL at f
    rw [Bool.and_eq_true] at f
    simp at e; subst e; exact f.1
  | d :: r, m + 1, y, f, e => by
    unfold frzL at f
    rw [Bool.and_eq_true] at f
    exact frzL_at f.2 (by simpa using e)
theorem frz_at {xs : List D} {m : Nat} {y : D} (f : isFrz (.tup xs) = true) (e : xs[m]? = some y) : isFrz y = true := by unfold isFrz at f; exact frzL_at f e
theorem frz_atL {o : Ow} {xs : List D} {m : Nat} {y : D} (f : isFrz (.lst o xs) = true) (e : xs[m]? = some y) : isFrz y = true := by unfold isFrz at f; rw [Bool.and_eq_true] at f; exact frzL_at f.2 e
theorem s_ix (a i : E) (iha : SndE cl G C a) (ihi : SndE cl G C i) : SndE cl G C (.ix a i) := fun X W L tk t hc => by
  cases t <;> first | (simp [chk] at hc; done) | skip
  rename_i a' j p
  unfold chk at hc
  simp only [Bool.and_eq_true] at hc
  obtain ⟨⟨ha, hj⟩, hs⟩ := hc
  refine PE.weak (pe_ix ix_seq (iha X W L tk a' ha) (ihi X W L tk j hj) (plainIx_of hs)) fun σ H Q h => ?_
  obtain ⟨w, A, ρ, rfl, g, e, h⟩ := h
  unfold ev at h
  obtain ⟨q1, q2⟩ := qtL (rfl : (qt a && qt i) = qt (.ix a i))
  refine ⟨w, A, ρ, rfl, g, e, h.bind (.start g e) q1 fun x ρ1 w1 A1 B1 b1 a1 kp g1 x1 l1 k1 h1 => ?_⟩
  obtain ⟨d, pl⟩ := x
  dsimp only at h1
  split at h1
  · rename_i hcl
    refine ⟨w1, A1, ρ1, rfl, a1.gd.left, a1.es, h1.bindU a1 q2 fun k ρ2 w2 A2 B2 b2 a2 kp2 g2 x2 l2 k2 h2 => ?_⟩
    obtain ⟨Bd, td⟩ := lyV.hold (A2 := A2) (ρ2 := ρ2) l1 hcl kp2.left k2
    cases k with
    | int n =>
      cases l2.int1
      -- an item of d, by its place or as a value
      have fin : ∀ {j : Nat} {y : D} {v' : V} (hd : ixD d (.int n) = some (y, some (.i j))),
          (∀ pp, pl = some pp → qt i = true → Foc X.K cl w2 ρ2 σ A2 (.stp pp (.i j)) y v') →
          (∃ By, T X.K cl w2 y v' By ∧ (pl = none → ∀ b x, By b x ≤ B1 b x) ∧ (isFrz d = true → By = 0)) → Q v' w2.H := by
        intro j y v' hd hpl ⟨By, ty, hB, hF⟩
        rw [hd] at h2
        dsimp only at h2
        cases pl with
        | none => exact h2.fin1 a2 (fun b x => by have := hB rfl b x; simp only [add_at]; omega) ty
        | some pp =>
          dsimp only at h2
          split at h2
          · rename_i hq
            exact h2.fin0 a2 ⟨rfl, hpl pp rfl hq⟩
          · rename_i hq
            have hf : isFrz d = true := by
              unfold calmP at hcl
              simp only [Option.isNone_some, Bool.false_or, Bool.or_eq_true] at hcl
              rcases hcl with z | z
              · exact z
              · exact absurd z hq
            rw [hF hf] at ty
            exact h2.fin0 a2 ty
      cases d <;> first | (simp [ixD] at h2; exact (show False from h2).elim) | skip
      · rename_i x
        cases td.str1
        by_cases hz : x.length ≤ sizeLine
        · cases hat : atI x.cps.toList n with
          | none =>
            have e0 : ixD (.str x) (.int n) = none := by show (if x.length ≤ sizeLine then (atI x.cps.toList n).map _ else none) = none; rw [if_pos hz, hat]; rfl
            rw [e0] at h2; exact (show False from h2).elim
          | some c =>
            have e0 : ixD (.str x) (.int n) = some (.str ⟨#[c]⟩, none) := by show (if x.length ≤ sizeLine then (atI x.cps.toList n).map _ else none) = _; rw [if_pos hz, hat]; rfl
            rw [e0] at h2
            refine .inr (.inr ⟨x, n, c, rfl, rfl, hz, hat, ?_⟩)
            have h3 : oG X.K cl (lyV X.K cl) (qt (.ix a i)) w A ρ σ (.ok (.str ⟨#[c]⟩, none) ρ2) Q W := by
              cases pl <;> exact h2
            exact h3.fin0 a2 (show T X.K cl w2 (.str ⟨#[c]⟩) (.str ⟨#[c]⟩) 0 from T.str)
        · have e0 : ixD (.str x) (.int n) = none := by show (if x.length ≤ sizeLine then (atI x.cps.toList n).map _ else none) = none; rw [if_neg hz]
          rw [e0] at h2; exact (show False from h2).elim
      · rename_i xs
        cases hn : ixN xs.length n with
        | none => rw [show ixD (.tup xs) (.int n) = none by show (ixN xs.length n).bind _ = none; rw [hn]; rfl] at h2; exact (show False from h2).elim
        | some m =>
          cases hm : xs[m]? with
          | none => rw [show ixD (.tup xs) (.int n) = none by show (ixN xs.length n).bind _ = none; rw [hn]; show (xs[m]?).map _ = none; rw [hm]; rfl] at h2; exact (show False from h2).elim
          | some y =>
            have e0 : ixD (.tup xs) (.int n) = some (y, some (.i m)) := by show (ixN xs.length n).bind _ = _; rw [hn]; show (xs[m]?).map _ = _; rw [hm]; rfl
            cases pl with
            | none =>
              have l1' := T.keep _ _ _ kp2.left (show T X.K cl w1 (.tup xs) b1 B1 from l1)
              obtain ⟨p0, vs, v', Ay, Ar, rfl, sq, hl, e1, t1, rfl, _⟩ := T.stepT hm l1'
              refine .inr (.inl ⟨p0, vs, n, v', rfl, rfl, same_seqT a2.gd.FH sq, ix_some (by rw [hl]; exact hn) e1, fin e0 (fun pp z => nomatch z) ⟨Ay, t1, fun _ b x => by rw [add_at]; omega, fun hf => ?_⟩⟩)
              have := T.frz0 _ _ _ hf l1'
              exact ft_ext fun b x => by have := congrFun (congrFun this b) x; rw [add_at, zero_at] at this; rw [zero_at]; omega
            | some pp =>
              by_cases hq : qt i = true
              · have f := lyV.holdF (ρ2 := ρ2) (A2 := A2) l1 hq k2
                obtain ⟨p0, vs, v', rfl, sq, hl, e1, f2⟩ := f.stepT hm
                obtain ⟨Ay, _, ty, _⟩ := f2.tree
                refine .inr (.inl ⟨p0, vs, n, v', rfl, rfl, same_seqT a2.gd.FH sq, ix_some (by rw [hl]; exact hn) e1, fin e0 (fun pp' z _ => by cases z; exact f2) ⟨Ay, ty, (fun z => nomatch z), fun hf => ?_⟩⟩)
                exact T.frz0 _ _ _ (frz_at hf hm) ty
              · have hf : isFrz (.tup xs) = true := by
                  unfold calmP at hcl
                  simp only [Option.isNone_some, Bool.false_or, Bool.or_eq_true] at hcl
                  rcases hcl with z | z
                  · exact z
                  · exact absurd z hq
                obtain ⟨p0, vs, v', Ay, Ar, rfl, sq, hl, e1, t1, e2, _⟩ := T.stepT hm td
                refine .inr (.inl ⟨p0, vs, n, v', rfl, rfl, same_seqT a2.gd.FH sq, ix_some (by rw [hl]; exact hn) e1, fin e0 (fun pp' z hq' => absurd hq' hq) ⟨Ay, t1, (fun z => nomatch z), fun hf => ?_⟩⟩)
                exact T.frz0 _ _ _ (frz_at hf hm) t1
      · rename_i o xs
        cases hn : ixN xs.length n with
        | none => rw [show ixD (.lst o xs) (.int n) = none by show (ixN xs.length n).bind _ = none; rw [hn]; rfl] at h2; exact (show False from h2).elim
        | some m =>
          cases hm : xs[m]? with
          | none => rw [show ixD (.lst o xs) (.int n) = none by show (ixN xs.length n).bind _ = none; rw [hn]; show (xs[m]?).map _ = none; rw [hm]; rfl] at h2; exact (show False from h2).elim
          | some y =>
            have e0 : ixD (.lst o xs) (.int n) = some (y, some (.i m)) := by show (ixN xs.length n).bind _ = _; rw [hn]; show (xs[m]?).map _ = _; rw [hm]; rfl
            cases pl with
            | none =>
              have l1' := T.keep _ _ _ kp2.left (show T X.K cl w1 (.lst o xs) b1 B1 from l1)
              obtain ⟨p0, vs, v', Ay, Ar, rfl, sq, hl, e1, t1, rfl, _⟩ := T.stepL hm l1'
              refine .inl ⟨p0, vs, n, v', rfl, rfl, sq.seq a2.gd, ix_some (by rw [hl]; exact hn) e1, fin e0 (fun pp z => nomatch z) ⟨Ay, t1, fun _ b x => by rw [add_at]; omega, fun hf => ?_⟩⟩
              have := T.frz0 _ _ _ hf l1'
              exact ft_ext fun b x => by have := congrFun (congrFun this b) x; rw [add_at, zero_at] at this; rw [zero_at]; omega
            | some pp =>
              by_cases hq : qt i = true
              · have f := lyV.holdF (ρ2 := ρ2) (A2 := A2) l1 hq k2
                obtain ⟨p0, vs, v', rfl, sq, hl, e1, f2⟩ := f.stepL hm
                obtain ⟨Ay, _, ty, _⟩ := f2.tree
                refine .inl ⟨p0, vs, n, v', rfl, rfl, sq.seq a2.gd, ix_some (by rw [hl]; exact hn) e1, fin e0 (fun pp' z _ => by cases z; exact f2) ⟨Ay, ty, (fun z => nomatch z), fun hf => ?_⟩⟩
                exact T.frz0 _ _ _ (frz_atL hf hm) ty
              · have hf : isFrz (.lst o xs) = true := by
                  unfold calmP at hcl
                  simp only [Option.isNone_some, Bool.false_or, Bool.or_eq_true] at hcl
                  rcases hcl with z | z
                  · exact z
                  · exact absurd z hq
                obtain ⟨p0, vs, v', Ay, Ar, rfl, sq, hl, e1, t1, e2, _⟩ := T.stepL hm td
                refine .inl ⟨p0, vs, n, v', rfl, rfl, sq.seq a2.gd, ix_some (by rw [hl]; exact hn) e1, fin e0 (fun pp' z hq' => absurd hq' hq) ⟨Ay, t1, (fun z => nomatch z), fun hf => ?_⟩⟩
                exact T.frz0 _ _ _ (frz_atL hf hm) t1
    | _ => cases d <;> exact (show False from h2).elim
  · exact (show False from h1).elim

/-! ### fields -/
theorem getattr_rd {pins : List (Addr × Obj)} {σ : Sg} {H : Hp} {s : Shared} {a Ca dx : Addr} {fs : List (Str × V)} {f : Str} {v : V} {A : Around} {E : Value → Shared → Prop} {b : Bool} {Q : Value → Shared → Prop} (I : Inv X pins σ H s) (e : Rd H a (.ins Ca dx fs)) (c : Cls X.K Ca) (n : NoAttr X.K Ca f) (l : fs.lookup f = some v)
    (h : ∀ u s', Inv X pins σ H s' → RelV v u → Q u s') : wpAny (model X.prog X.w) A (getAttr (.ref a) f b) Q E s := by
  obtain ⟨d, z, ne, ob, mA, nn, r, q⟩ := (show ObjOk X.prog X.w H s.heap a (.ins Ca dx fs) from e.ok I.hok)
  obtain ⟨u, hu, ru⟩ := RelO.some_of (v := v) (o := mA f) (by rw [← l]; exact r f)
  exact get_map I.kIn ⟨ob, nn, ne⟩ (c.get f) c.hd n hu (handed_of ru) (h u _ (I.tok _) ru)
theorem pe_fldR {e : Expr} {f : Str} {pos : Pos} {ta : TE} (he : PE X e ta) (hb : attributeBase e f X.env (eval e X.env) = eval e X.env) : PE X (.Attribute e f pos) (fun σ H Q => ta σ H fun x H1 => ∃ a Ca dx fs v, x = .ref a ∧ Rd H1 a (.ins Ca dx fs) ∧ Cls X.K Ca ∧ NoAttr X.K Ca f ∧ fs.lookup f = some v ∧ Q v H1) := by
  refine ⟨fun pins s σ H Q I h => ?_⟩
  refine attr_of hb (thn (he.run pins s σ H _ I h) fun u s1 ⟨x, H1, I1, rx, a, Ca, dx, fs, v, ex, ea, c, n, l, q⟩ => ?_)
  subst ex
  obtain rfl : u = Value.ref a := rx
  exact getattr_rd I1 ea c n l fun u' s2 I2 ru => ⟨v, H1, I2, ru, q⟩
theorem hpO.rd {w : Hs} {A : Ft} {o : Ow} {a : Addr} {u : HO} (g : Gd w A) (h : hpO w o a u) : Rd w.H a u := by
  cases o with
  | own => exact .inl h
  | lent => exact g.RH _ _ h
  | frz => exact g.FH _ _ h
theorem lookup_zip : ∀ {ks : List Str} {vs : List V} {n : Nat} {x : Str} {v : V}, ks.length = vs.length → ks[n]? = some x → (∀ m : Nat, m < n → ks[m]? ≠ some x) → vs[n]? = some v → (ks.zip vs).lookup x = some v
  | [], _, _, _, _, _, e, _, _ => by simp at e
  | k :: ks, [], _, _, _, h, _, _, _ => by simp at h
  | k :: ks, v :: vs, 0, x, y, h, e, no, ev => by
    simp at e ev
    subst e ev
    simp
  | k :: ks, v :: vs, n + 1, x, y, h, e, no, ev => by
    have hk : k ≠ x := fun z => no 0 (by omega) (by rw [z]; rfl)
    rw [List.zip_cons_cons, List.lookup_cons, show (x == k) = false from by simpa using fun z => hk z.symm]
    exact lookup_zip (by simpa using h) (by simpa using e) (fun m hm => by have := no (m + 1) (by omega); simpa using this) (by simpa using ev)
theorem base_of {e : Expr} {f : Str} (h : noCall e = true) : attributeBase e f X.env (eval e X.env) = eval e X.env := by
  cases e <;> first | exact absurd h Bool.false_ne_true | rfl
theorem s_fld (a : E) (f : Str) (iha : SndE cl G C a) : SndE cl G C (.fld a f) := fun X W L tk t hc => by
  cases t <;> first | (simp [chk] at hc; done) | skip
  rename_i a' f' p
  unfold chk at hc
  simp only [Bool.and_eq_true, decide_eq_true_eq] at hc
  obtain ⟨⟨ha, rfl⟩, hb⟩ := hc
  refine PE.weak (pe_fldR (iha X W L tk a' ha) (base_of hb)) fun σ H Q h => ?_
  obtain ⟨w, A, ρ, rfl, g, e, h⟩ := h
  unfold ev at h
  refine ⟨w, A, ρ, rfl, g, e, h.bind (.start g e) (fun z => z) fun x ρ1 w1 A1 B1 b1 a1 kp g1 x1 l1 k1 h1 => ?_⟩
  obtain ⟨d, pl⟩ := x
  cases d <;> first | exact (show False from h1).elim | skip
  rename_i o c fs
  dsimp only at h1
  split at h1
  · rename_i hf
    cases hy : aget fs f with
    | none => rw [hy] at h1; exact (show False from h1).elim
    | some y =>
      rw [hy] at h1
      cases pl with
      | none =>
        obtain ⟨p0, Ca, dx, vs, n, v', Ay, Ar, rfl, hcl, sq, hl, e0, no, e1, t1, rfl, _⟩ := T.stepF hy (show T X.K cl w1 (.ins o c fs) b1 B1 from l1)
        exact ⟨p0, Ca, dx, _, v', rfl, sq.rd a1.gd, L.kc _ _ _ hcl hf, L.na _ _ _ hcl hf, lookup_zip (by rw [List.length_map, hl]) e0 no e1, h1.fin1 a1 (fun b x => by simp only [add_at]; omega) (show T X.K cl w1 y v' Ay from t1)⟩
      | some pp =>
        obtain ⟨rfl, fc⟩ := l1
        obtain ⟨p0, Ca, dx, vs, n, v', rfl, hcl, sq, hl, e0, no, e1, f2⟩ := fc.stepF hy
        exact ⟨p0, Ca, dx, _, v', rfl, sq.rd a1.gd, L.kc _ _ _ hcl hf, L.na _ _ _ hcl hf, lookup_zip (by rw [List.length_map, hl]) e0 no e1, h1.fin0 a1 ⟨rfl, f2⟩⟩
  · exact (show False from h1).elim

/-! ### slices -/
theorem nop_ev (lo : E) (h : isNop lo = true) (ρ : Env) : ev C G lo ρ = .ok (.non, none) ρ := by
  cases lo <;> first | exact absurd h Bool.false_ne_true | (unfold ev; rfl)
theorem qt_nop (lo : E) (h : isNop lo = true) : qt lo = true := by cases lo <;> first | exact absurd h Bool.false_ne_true | rfl
/-- a slice's part -/
def tPartE (te : TE) : TO := fun σ H Q => te σ H fun x H1 => ∃ o, ((x = .non ∧ o = none) ∨ ∃ i, x = .int i ∧ o = some i) ∧ Q o H1
theorem PO.weak {e : Option Expr} {t t' : TO} (h : PO X e t) (k : ∀ σ H Q, t' σ H Q → t σ H Q) : PO X e t' := ⟨fun pins s σ H Q I q => h.run pins s σ H Q I (k σ H Q q)⟩
theorem po_ev (lo : E) (ih : SndE cl G C lo) (L : Lib cl G C X) (tk : Takes X W) (l : Option Expr) (hc : (match l with | some l' => chk X.N X.env.scope lo l' | none => isNop lo) = true) :
    PO X l (tPartE (tG X.K cl (lyV X.K cl) (qt lo) (ev C G lo) W)) := by
  cases l with
  | some l' => exact po_val (ih X W L tk l' hc)
  | none =>
    refine PO.weak po_none fun σ H Q h => ?_
    obtain ⟨w, A, ρ, rfl, g, e, h⟩ := h
    rw [nop_ev lo hc] at h
    obtain ⟨o, ho, q⟩ := h.fin0 (w := w) (b := V.non) (.start g e) (show T X.K cl w .non .non 0 from T.non)
    rcases ho with ⟨_, rfl⟩ | ⟨i, z, _⟩
    · exact q
    · cases z
theorem s_sl (a lo hi : E) (iha : SndE cl G C a) (ihl : SndE cl G C lo) (ihh : SndE cl G C hi) : SndE cl G C (.sl a lo hi) := fun X W L tk t hc => by
  cases t <;> first | (simp [chk] at hc; done) | skip
  rename_i a' j p
  cases j <;> first | (simp [chk] at hc; done) | skip
  rename_i l h' st p2
  cases st <;> first | (simp [chk] at hc; done) | skip
  unfold chk at hc
  simp only [Bool.and_eq_true] at hc
  obtain ⟨⟨ha, hl⟩, hh⟩ := hc
  refine PE.weak (pe_slice (SlR.or sl_list sl_tupA) (iha X W L tk a' ha) (po_ev lo ihl L tk l hl) (po_ev hi ihh L tk h' hh)) fun σ H Q h => ?_
  obtain ⟨w, A, ρ, rfl, g, e, h⟩ := h
  unfold ev at h
  obtain ⟨q1, q2, q3⟩ := qt3 (rfl : (qt a && qt lo && qt hi) = qt (.sl a lo hi))
  refine ⟨w, A, ρ, rfl, g, e, h.bind (.start g e) q1 fun x ρ1 w1 A1 B1 b1 a1 kp g1 x1 l1 k1 h1 => ?_⟩
  obtain ⟨d, pl⟩ := x
  dsimp only at h1
  split at h1
  · rename_i hcl
    rw [Bool.and_eq_true] at hcl
    refine ⟨w1, A1, ρ1, rfl, a1.gd.left, a1.es, h1.bindU a1 q2 fun k ρ2 w2 A2 B2 b2 a2 kp2 g2 x2 l2 k2 h2 => ?_⟩
    have part : ∀ {z : D} {bz : V} {B : Ft} {wz : Hs} {o : Option Int}, T X.K cl wz z bz B → partD z = some o → (bz = .non ∧ o = none) ∨ ∃ i, bz = .int i ∧ o = some i := by
      intro z bz B wz o tz hz
      cases z <;> first | (cases hz; done) | skip
      · exact .inl ⟨tz.non1, by cases hz; rfl⟩
      · exact .inr ⟨_, tz.int1, by cases hz; rfl⟩
    cases hk : partD k with
    | none => rw [hk] at h2; exact (show False from h2).elim
    | some o1 =>
      rw [hk] at h2
      refine ⟨o1, part l2 hk, w2, A2, ρ2, rfl, a2.gd.left, a2.es, oG.bindU h2 a2 q3 fun m ρ3 w3 A3 B3 b3 a3 kp3 g3 x3 l3 k3 h3 => ?_⟩
      cases hm : partD m with
      | none => rw [hm] at h3; exact (show False from h3).elim
      | some o2 =>
        rw [hm] at h3
        refine ⟨o2, part l3 hm, ?_⟩
        obtain ⟨Bd, td⟩ := lyV.hold2 l1 hcl.1 hcl.2 kp2.left k2 kp3.right.left k3
        cases d <;> first | exact (show False from h3).elim | skip
        · rename_i xs
          have h3 : oG X.K cl (lyV X.K cl) (qt (.sl a lo hi)) w A ρ σ (tmp (liftO (if frzL xs then some (.tup (cutD xs o1 o2)) else none) ρ3)) Q W := h3
          split at h3
          · rename_i hf
            obtain ⟨p0, vs, rfl, sq, ts⟩ := td.tuple a3.gd
            have ts := ts.frz hf
            have can := oG.can h3 a3
            refine .inr ⟨p0, vs, rfl, sq, fun hw => ?_, fun hw => can.newT a3.gd (fun _ _ => Nat.zero_le _) (ts.cut o1 o2 hf)⟩
            have hx : cutD xs o1 o2 = xs := by
              unfold cutD
              have e := ts.length
              rw [e] at hw
              rw [hw.1, hw.2, List.drop_zero, Nat.sub_zero, List.take_length]
            rw [hx] at can
            exact can.now0 a3.gd (T.frz (by unfold isFrz; exact hf) td)
          · exact (show False from h3).elim
        · rename_i ow xs
          have h3 : oG X.K cl (lyV X.K cl) (qt (.sl a lo hi)) w A ρ σ (tmp (liftO (if frzL xs then some (.lst .own (cutD xs o1 o2)) else none) ρ3)) Q W := h3
          split at h3
          · rename_i hf
            obtain ⟨p0, vs, _, rfl, sq, ts⟩ := td.list a3.gd
            exact .inl ⟨p0, vs, rfl, sq, (oG.can h3 a3).newL a3.gd (fun _ _ => Nat.zero_le _) ((ts.frz hf).cut o1 o2 hf)⟩
          · exact (show False from h3).elim
  · exact (show False from h1).elim

/-! ### displays, rows -/
theorem s_tup (es : E) (ih : SndL cl G C es) : SndE cl G C (.tup es) := fun X W L tk t hc => by
  cases t <;> first | (simp [chk] at hc; done) | skip
  rename_i xs c p
  unfold chk at hc
  refine PE.weak (pe_tup (ih X W L tk xs hc)) fun σ H Q h => ?_
  obtain ⟨w, A, ρ, rfl, g, e, h⟩ := h
  unfold ev at h
  refine ⟨w, A, ρ, rfl, g, e, h.bind (.start g e) (fun z => z) fun ds ρ1 w1 A1 B1 vs a1 kp g1 x1 l1 k1 h1 => ?_⟩
  split at h1
  · rename_i hl
    exact ⟨by rw [Ts.length l1]; exact hl, (oG.can h1 a1).newT a1.gd (fun b x => by simp only [add_at]; omega) l1⟩
  · exact (show False from h1).elim
theorem s_lst (es : E) (ih : SndL cl G C es) : SndE cl G C (.lst es) := fun X W L tk t hc => by
  cases t <;> first | (simp [chk] at hc; done) | skip
  rename_i xs p
  unfold chk at hc
  refine PE.weak (pe_lst (ih X W L tk xs hc)) fun σ H Q h => ?_
  obtain ⟨w, A, ρ, rfl, g, e, h⟩ := h
  unfold ev at h
  refine ⟨w, A, ρ, rfl, g, e, h.bind (.start g e) (fun z => z) fun ds ρ1 w1 A1 B1 vs a1 kp g1 x1 l1 k1 h1 => ?_⟩
  split at h1
  · rename_i hl
    exact ⟨by rw [Ts.length l1]; exact hl, (oG.can h1 a1).newL a1.gd (fun b x => by simp only [add_at]; omega) l1⟩
  · exact (show False from h1).elim
theorem sL_nil : SndL cl G C .nil := fun X W L tk t hc => by
  cases t with
  | cons x xs => simp [chks] at hc
  | nil =>
    refine PA.weak pa_nil fun σ H Q h => ?_
    obtain ⟨w, A, ρ, rfl, g, e, h⟩ := h
    unfold evs at h
    exact h.fin0 (w := w) (b := []) (.start g e) (show Ts X.K cl w [] [] 0 from by unfold Ts; exact ⟨rfl, rfl⟩)
theorem sL_cons (a r : E) (iha : SndE cl G C a) (ihr : SndL cl G C r) : SndL cl G C (.cons a r) := fun X W L tk t hc => by
  cases t with
  | nil => simp [chks] at hc
  | cons x xs =>
    unfold chks at hc
    simp only [Bool.and_eq_true] at hc
    obtain ⟨⟨ha, hp⟩, hr⟩ := hc
    refine PA.weak (pa_cons (iha X W L tk x ha) (ihr X W L tk xs hr) (star_of hp)) fun σ H Q h => ?_
    obtain ⟨w, A, ρ, rfl, g, e, h⟩ := h
    unfold evs at h
    obtain ⟨q1, q2⟩ := qtL (rfl : (qt a && qt r) = qt (.cons a r))
    refine ⟨w, A, ρ, rfl, g, e, h.bindU (.start g e) q1 fun d ρ1 w1 A1 B1 b1 a1 kp g1 x1 l1 k1 h1 => ?_⟩
    refine ⟨w1, A1, ρ1, rfl, a1.gd.left, a1.es, h1.bind a1 q2 fun ds ρ2 w2 A2 B2 vs a2 kp2 g2 x2 l2 k2 h2 => ?_⟩
    refine h2.fin1 (B := B1 + B2) a2 (fun b x => by simp only [add_at]; omega) (show Ts X.K cl w2 (d :: ds) (b1 :: vs) (B1 + B2) from ?_)
    unfold Ts
    exact ⟨b1, vs, B1, B2, rfl, T.keep _ _ _ kp2.left l1, l2, rfl⟩

/-! ### arguments -/
theorem sA_nil : SndA cl G C .nil := fun X W L tk t hc => by
  cases t with
  | cons x xs => simp [chks] at hc
  | nil =>
    refine PA.weak pa_nil fun σ H Q h => ?_
    obtain ⟨w, A, ρ, rfl, g, e, h⟩ := h
    unfold eva at h
    exact h.fin0 (w := w) (b := []) (.start g e) (show lyA.go X.K cl w ρ σ A [] [] 0 from by unfold lyA.go; exact ⟨rfl, rfl⟩)
theorem sA_cons (a r : E) (iha : SndE cl G C a) (ihr : SndA cl G C r) : SndA cl G C (.cons a r) := fun X W L tk t hc => by
  cases t with
  | nil => simp [chks] at hc
  | cons x xs =>
    unfold chks at hc
    simp only [Bool.and_eq_true] at hc
    obtain ⟨⟨ha, hp⟩, hr⟩ := hc
    refine PA.weak (pa_cons (iha X W L tk x ha) (ihr X W L tk xs hr) (star_of hp)) fun σ H Q h => ?_
    obtain ⟨w, A, ρ, rfl, g, e, h⟩ := h
    unfold eva at h
    obtain ⟨q1, q2⟩ := qtL (rfl : (qt a && qt r) = qt (.cons a r))
    refine ⟨w, A, ρ, rfl, g, e, h.bind (.start g e) q1 fun x ρ1 w1 A1 B1 b1 a1 kp g1 x1 l1 k1 h1 => ?_⟩
    obtain ⟨d, pl⟩ := x
    have value : ∀ B', (∀ b x, B' b x ≤ B1 b x) → T X.K cl w1 d b1 B' → oG X.K cl (lyA X.K cl) (qt (.cons a r)) w A ρ σ ((eva C G r ρ1).bind fun avs ρ2 => .ok (.val d :: avs) ρ2) (fun vs H' => Q vs H') W → tG X.K cl (lyA X.K cl) (qt r) (eva C G r) W σ w1.H fun xs H2 => Q (b1 :: xs) H2 := by
      intro B' hB td h1
      refine ⟨w1, A1, ρ1, rfl, a1.gd.left, a1.es, h1.bind a1 q2 fun avs ρ2 w2 A2 B2 vs a2 kp2 g2 x2 l2 k2 h2 => ?_⟩
      refine h2.fin1 (B := B' + B2) a2 (fun b x => by have := hB b x; simp only [add_at]; omega) (show lyA.go X.K cl w2 ρ2 σ A2 (.val d :: avs) (b1 :: vs) (B' + B2) from ?_)
      unfold lyA.go
      exact ⟨b1, vs, B', B2, rfl, T.keep _ _ _ (kp2.left.sub fun b x z => Nat.lt_of_lt_of_le z (hB b x)) td, l2, rfl⟩
    cases pl with
    | none => exact value B1 (fun _ _ => Nat.le_refl _) l1 h1
    | some pp =>
      dsimp only at h1
      split at h1
      · rename_i hf
        obtain ⟨rfl, fc⟩ := l1
        obtain ⟨A', Ar, td, _⟩ := fc.tree
        exact value 0 (fun _ _ => Nat.le_refl _) (td.frz hf) h1
      · cases pp with
        | var i =>
          obtain ⟨rfl, fc⟩ := l1
          have hv : σ[i]? = some (some b1) := fc.2.1
          refine ⟨w1, A1, ρ1, rfl, a1.gd.left, a1.es, oG.bind h1 a1 q2 fun avs ρ2 w2 A2 B2 vs a2 kp2 g2 x2 l2 k2 h2 => ?_⟩
          refine h2.fin1 (B := B2) a2 (fun b x => by simp only [add_at]; omega) (show lyA.go X.K cl w2 ρ2 σ A2 (.pl (.var i) :: avs) (b1 :: vs) B2 from ?_)
          unfold lyA.go
          exact ⟨b1, vs, rfl, hv, l2⟩
        | stp pp ss =>
          dsimp only at h1
          split at h1
          · rename_i hq
            refine ⟨w1, A1, ρ1, rfl, a1.gd.left, a1.es, oG.bind h1 a1 q2 fun avs ρ2 w2 A2 B2 vs a2 kp2 g2 x2 l2 k2 h2 => ?_⟩
            have f2 := lyV.holdF (ρ2 := ρ2) (A2 := A2) l1 hq k2
            refine h2.fin1 (B := B2) a2 (fun b x => by simp only [add_at]; omega) (show lyA.go X.K cl w2 ρ2 σ A2 (.pl (.stp pp ss) :: avs) (b1 :: vs) B2 from ?_)
            unfold lyA.go
            exact ⟨b1, vs, rfl, ⟨d, f2⟩, l2⟩
          · exact (show False from h1).elim
end
end Ev

/-! Ev, part L: calls of built-ins. -/
namespace Ev
open PySem PySem.Spec PyProof.Rows L2

section
variable {K : PySem.W.Frag} {cl : Str → Option Addr} {X : Cx}
/-- f(x), as the evaluator has it -/
def rB1 (K : PySem.W.Frag) (cl : Str → Option Addr) (f : F1) : List V → Hp → VK → Prop := fun xs H Q =>
  ∃ w A C B d x r, xs = [x] ∧ w.H = H ∧ Gd w (A + C) ∧ T K cl w d x B ∧ b1D f d = some r ∧ Can K cl w A C r Q
def rB2 (K : PySem.W.Frag) (cl : Str → Option Addr) (f : F2) : List V → Hp → VK → Prop := fun xs H Q =>
  ∃ w A C B1 B2 d e x y r, xs = [x, y] ∧ w.H = H ∧ Gd w (A + C) ∧ T K cl w d x B1 ∧ T K cl w e y B2 ∧ b2D f d e = some r ∧ Can K cl w A C r Q
/-- the value that the name tells -/
def F1.val : F1 → Value
  | .len => .builtin "len" | .list => .type "list" | .tuple => .type "tuple" | .sum => .builtin "sum" | .all => .builtin "all" | .any => .builtin "any" | .int => .type "int" | .str => .type "str" | .abs => .builtin "abs"
theorem allI_map : ∀ {xs : List D} {ns : List Int}, allI xs = some ns → xs.all flat = true ∧ xs.map fvD = ns.map V.int
  | [], _, h => by cases h; exact ⟨rfl, rfl⟩
  | d :: r, ns, h => by
    cases d <;> first | (simp [allI] at h; done) | skip
    rename_i i
    unfold allI at h
    cases hr : allI r with
    | none => rw [hr] at h; cases h
    | some ms =>
      rw [hr] at h
      cases h
      obtain ⟨h1, h2⟩ := allI_map hr
      exact ⟨by rw [List.all_cons, h1]; rfl, by rw [List.map_cons, h2]; rfl⟩
theorem allB_map : ∀ {xs : List D} {ns : List Bool}, allB xs = some ns → xs.all flat = true ∧ xs.map fvD = ns.map V.bl
  | [], _, h => by cases h; exact ⟨rfl, rfl⟩
  | d :: r, ns, h => by
    cases d <;> first | (simp [allB] at h; done) | skip
    rename_i i
    unfold allB at h
    cases hr : allB r with
    | none => rw [hr] at h; cases h
    | some ms =>
      rw [hr] at h
      cases h
      obtain ⟨h1, h2⟩ := allB_map hr
      exact ⟨by rw [List.all_cons, h1]; rfl, by rw [List.map_cons, h2]; rfl⟩
theorem cr_b1 (hc : X.calm = true) (f : F1) : CallR X f.val (rB1 X.K cl f) := by
  intro pins s σ H xs us Q I r h
  obtain ⟨w, A, C, B, d, x, z, rfl, rfl, g, t, hr, can⟩ := h
  cases f with
  | len =>
    cases d <;> first | (simp [b1D] at hr; done) | skip
    · cases t.str1
      rename_i y
      have hr : (if y.length ≤ sizeLine then some (D.int y.length) else none) = some z := hr
      split at hr
      · rename_i hz; cases hr
        exact call_len_str pins s σ _ _ us Q I r ⟨y, rfl, hz, can.now0 g .int⟩
      · cases hr
    · obtain ⟨a, vs, rfl, sq, ts⟩ := t.tuple g
      cases hr
      rw [← ts.length] at can
      exact call_len_seq pins s σ _ _ us Q I r ⟨a, vs, rfl, .inr sq, can.now0 g .int⟩
    · obtain ⟨a, vs, _, rfl, sq, ts⟩ := t.list g
      cases hr
      rw [← ts.length] at can
      exact call_len_seq pins s σ _ _ us Q I r ⟨a, vs, rfl, .inl sq, can.now0 g .int⟩
  | list =>
    cases d <;> first | (simp [b1D] at hr; done) | skip
    · rename_i ys
      obtain ⟨a, vs, rfl, sq, ts⟩ := t.tuple g
      have hr : (if frzL ys then some (D.lst .own ys) else none) = some z := hr
      split at hr
      · rename_i hf; cases hr
        exact call_list_of pins s σ _ _ us Q I r ⟨a, vs, rfl, .inr sq, can.newL g (fun _ _ => Nat.zero_le _) (ts.frz hf)⟩
      · cases hr
    · rename_i o ys
      obtain ⟨a, vs, _, rfl, sq, ts⟩ := t.list g
      have hr : (if frzL ys then some (D.lst .own ys) else none) = some z := hr
      split at hr
      · rename_i hf; cases hr
        exact call_list_of pins s σ _ _ us Q I r ⟨a, vs, rfl, .inl sq, can.newL g (fun _ _ => Nat.zero_le _) (ts.frz hf)⟩
      · cases hr
  | tuple =>
    cases d <;> first | (simp [b1D] at hr; done) | skip
    · rename_i ys
      obtain ⟨a, vs, rfl, sq, ts⟩ := t.tuple g
      have hr : (if frzL ys then some (D.tup ys) else none) = some z := hr
      split at hr
      · rename_i hf; cases hr
        exact call_tuple_of pins s σ _ _ us Q I r ⟨a, vs, rfl, .inr ⟨sq, can.now0 g (T.frz (by unfold isFrz; exact hf) t)⟩⟩
      · cases hr
    · rename_i o ys
      obtain ⟨a, vs, _, rfl, sq, ts⟩ := t.list g
      have hr : (if frzL ys then some (D.tup ys) else none) = some z := hr
      split at hr
      · rename_i hf; cases hr
        exact call_tuple_of pins s σ _ _ us Q I r ⟨a, vs, rfl, .inl ⟨sq, can.newT g (fun _ _ => Nat.zero_le _) (ts.frz hf)⟩⟩
      · cases hr
  | sum =>
    cases d <;> first | (simp [b1D] at hr; done) | skip
    rename_i o ys
    obtain ⟨a, vs, _, rfl, sq, ts⟩ := t.list g
    have hr : (allI ys).map (fun ns => D.int ns.sum) = some z := hr
    obtain ⟨ns, hn, rfl⟩ := Option.map_eq_some_iff.mp hr
    obtain ⟨h1, h2⟩ := allI_map hn
    have e := Ts.flats h1 ts
    rw [e, h2] at sq
    exact cr_sum hc pins s σ _ _ us Q I r ⟨a, ns, rfl, sq, can.now0 g .int⟩
  | all =>
    cases d <;> first | (simp [b1D] at hr; done) | skip
    rename_i o ys
    obtain ⟨a, vs, _, rfl, sq, ts⟩ := t.list g
    have hr : (allB ys).map (fun ns => D.bl (ns.all id)) = some z := hr
    obtain ⟨ns, hn, rfl⟩ := Option.map_eq_some_iff.mp hr
    obtain ⟨h1, h2⟩ := allB_map hn
    have e := Ts.flats h1 ts
    rw [e, h2] at sq
    exact cr_all hc pins s σ _ _ us Q I r ⟨a, ns, rfl, sq, can.now0 g .bl⟩
  | any =>
    cases d <;> first | (simp [b1D] at hr; done) | skip
    rename_i o ys
    obtain ⟨a, vs, _, rfl, sq, ts⟩ := t.list g
    have hr : (allB ys).map (fun ns => D.bl (ns.any id)) = some z := hr
    obtain ⟨ns, hn, rfl⟩ := Option.map_eq_some_iff.mp hr
    obtain ⟨h1, h2⟩ := allB_map hn
    have e := Ts.flats h1 ts
    rw [e, h2] at sq
    exact cr_any hc pins s σ _ _ us Q I r ⟨a, ns, rfl, sq, can.now0 g .bl⟩
  | int =>
    cases d <;> first | (simp [b1D] at hr; done) | skip
    · cases t.bl1; cases hr
      exact call_int1 pins s σ _ _ us Q I r (.inr ⟨_, rfl, can.now0 g .int⟩)
    · cases t.int1; cases hr
      exact call_int1 pins s σ _ _ us Q I r (.inl ⟨_, rfl, can.now0 g .int⟩)
  | str =>
    cases d <;> first | (simp [b1D] at hr; done) | skip
    cases t.int1
    rename_i i
    have hr : (if i.natAbs.log2 < 1920 then some (D.str (toString i)) else none) = some z := hr
    split at hr
    · rename_i hz; cases hr
      exact call_str_int pins s σ _ _ us Q I r ⟨i, rfl, hz, can.now0 g .str⟩
    · cases hr
  | abs =>
    cases d <;> first | (simp [b1D] at hr; done) | skip
    cases t.int1; cases hr
    exact call_abs pins s σ _ _ us Q I r ⟨_, rfl, can.now0 g .int⟩
/-- which built-in the name tells -/
def F2.val : F2 → Value
  | .max => .builtin "max" | .min => .builtin "min" | .gcd => .builtin "math.gcd"
theorem cr_b2 (hc : X.calm = true) (f : F2) : CallR X f.val (rB2 X.K cl f) := by
  intro pins s σ H xs us Q I r h
  obtain ⟨w, A, C, B1, B2, d, e, x, y, z, rfl, rfl, g, t1, t2, hr, can⟩ := h
  cases f with
  | max =>
    cases d <;> cases e <;> first | (simp [b2D] at hr; done) | skip
    cases t1.int1; cases t2.int1; cases hr
    exact call_max2 hc pins s σ _ _ us Q I r ⟨_, _, rfl, can.now0 g .int⟩
  | min =>
    cases d <;> cases e <;> first | (simp [b2D] at hr; done) | skip
    cases t1.int1; cases t2.int1; cases hr
    exact call_min2 hc pins s σ _ _ us Q I r ⟨_, _, rfl, can.now0 g .int⟩
  | gcd =>
    cases d <;> cases e <;> first | (simp [b2D] at hr; done) | skip
    cases t1.int1; cases t2.int1; cases hr
    exact cr_gcd pins s σ _ _ us Q I r ⟨_, _, rfl, can.now0 g .int⟩

/-! ### as calls by name -/
theorem bt_sum : bootBuiltins "sum" = some (.builtin "sum") := by decide +kernel
theorem bt_all : bootBuiltins "all" = some (.builtin "all") := by decide +kernel
theorem bt_any : bootBuiltins "any" = some (.builtin "any") := by decide +kernel
theorem bt_len : bootBuiltins "len" = some (.builtin "len") := by decide +kernel
theorem bt_abs : bootBuiltins "abs" = some (.builtin "abs") := by decide +kernel
theorem bt_max : bootBuiltins "max" = some (.builtin "max") := by decide +kernel
theorem bt_min : bootBuiltins "min" = some (.builtin "min") := by decide +kernel
theorem bt_isi : bootBuiltins "isinstance" = some (.builtin "isinstance") := by decide +kernel
theorem bt_list : bootBuiltins "list" = some (.type "list") := by decide +kernel
theorem bt_tuple : bootBuiltins "tuple" = some (.type "tuple") := by decide +kernel
theorem bt_int : bootBuiltins "int" = some (.type "int") := by decide +kernel
theorem bt_str : bootBuiltins "str" = some (.type "str") := by decide +kernel
theorem bt_bool : bootBuiltins "bool" = some (.type "bool") := by decide +kernel
theorem bt_dict : bootBuiltins "dict" = some (.type "dict") := by decide +kernel
theorem nblt {x : Str} (h : x ∈ blts) (hm : ∀ y ∈ blts, X.mg y = none) : X.mg x = none := hm x h
theorem pe_b1 {f : F1} {e : Expr} {p pos : Pos} {t : TA} (hc : X.calm = true) (hg : Gl X f.nm) (hm : ∀ y ∈ blts, X.mg y = none) (hp : plainE e = true) (ha : PA X [e] t) : PE X (.Call (.Name f.nm p) [e] [] pos) (tCB (rB1 X.K cl f) t) := by
  have st := star_of (X := X) (es := []) hp
  cases f with
  | len => exact pe_callB (cr_b1 hc .len) hg (hm _ (by decide)) bt_len ha (he := st)
  | sum => exact pe_callB (cr_b1 hc .sum) hg (hm _ (by decide)) bt_sum ha (he := st)
  | all => exact pe_callB (cr_b1 hc .all) hg (hm _ (by decide)) bt_all ha (he := st)
  | any => exact pe_callB (cr_b1 hc .any) hg (hm _ (by decide)) bt_any ha (he := st)
  | abs => exact pe_callB (cr_b1 hc .abs) hg (hm _ (by decide)) bt_abs ha (he := st)
  | list => exact pe_callTy (cr_b1 hc .list) hg (hm _ (by decide)) bt_list ha (he := st)
  | tuple => exact pe_callTy (cr_b1 hc .tuple) hg (hm _ (by decide)) bt_tuple ha (he := st)
  | int => exact pe_callTy (cr_b1 hc .int) hg (hm _ (by decide)) bt_int ha (he := st)
  | str => exact pe_callTy (cr_b1 hc .str) hg (hm _ (by decide)) bt_str ha (he := st)
theorem pe_b2 {f : F2} {d e : Expr} {p pos : Pos} {t : TA} (hc : X.calm = true) (hg : Gl X f.nm) (hm : ∀ y ∈ blts, X.mg y = none) (hgcd : f = .gcd → X.mg "gcd" = some (.builtin "math.gcd")) (hp : plainE d = true) (hq : plainE e = true) (ha : PA X [d, e] t) :
    PE X (.Call (.Name f.nm p) [d, e] [] pos) (tCB (rB2 X.K cl f) t) := by
  have st := star_of (X := X) (es := [e]) hp
  have pl : ∀ pos, (backTo pos (starEach [e] X.env)).any (·.1) = false := fun pos => hpl_of (by rw [List.all_cons, hq]; rfl)
  cases f with
  | max => exact pe_callB (cr_b2 hc .max) hg (hm _ (by decide)) bt_max ha (he := st) (hpl := pl _)
  | min => exact pe_callB (cr_b2 hc .min) hg (hm _ (by decide)) bt_min ha (he := st) (hpl := pl _)
  | gcd => exact pe_callBfun (cr_b2 hc .gcd) hg (hgcd rfl) ha (he := st) (hpl := pl _)
end

section
variable {cl : Str → Option Addr} {G : Str → Option D} {C : CT} {X : Cx} {W : WX}
theorem s_b1 (f : F1) (a : E) (iha : SndE cl G C a) : SndE cl G C (.b1 f a) := fun X W L tk t hc => by
  cases t <;> first | (simp [chk] at hc; done) | skip
  rename_i fn es ks p
  cases fn <;> first | (cases es <;> simp [chk] at hc; done) | skip
  rename_i g gp
  match es, ks, hc with
  | [e], [], hc =>
    unfold chk at hc
    simp only [Bool.and_eq_true, decide_eq_true_eq] at hc
    obtain ⟨⟨⟨rfl, hg⟩, ha⟩, hp⟩ := hc
    refine PE.weak (pe_b1 (cl := cl) L.calm (gl_of hg) L.bl hp (pa_cons (iha X W L tk e ha) pa_nil (star_of hp))) fun σ H Q h => ?_
    obtain ⟨w, A, ρ, rfl, g, e, h⟩ := h
    unfold ev at h
    refine ⟨w, A, ρ, rfl, g, e, h.bind (.start g e) (fun z => z) fun x ρ1 w1 A1 B1 b1 a1 kp g1 x1 l1 k1 h1 => ?_⟩
    obtain ⟨d, pl⟩ := x
    dsimp only at h1
    obtain ⟨Bd, td⟩ := l1.tree
    cases hr : b1D f d with
    | none => rw [hr] at h1; exact (show False from h1).elim
    | some r =>
      rw [hr] at h1
      exact ⟨w1, A1, _, Bd, d, b1, r, rfl, rfl, a1.gd, td, hr, oG.can h1 a1⟩
  | [], _, hc => simp [chk] at hc
  | _ :: _ :: _, _, hc => simp [chk] at hc
  | [_], _ :: _, hc => simp [chk] at hc
theorem s_b2 (f : F2) (a b : E) (iha : SndE cl G C a) (ihb : SndE cl G C b) : SndE cl G C (.b2 f a b) := fun X W L tk t hc => by
  cases t <;> first | (simp [chk] at hc; done) | skip
  rename_i fn es ks p
  cases fn <;> first | (cases es <;> simp [chk] at hc; done) | skip
  rename_i g gp
  match es, ks, hc with
  | [d, e], [], hc =>
    unfold chk at hc
    simp only [Bool.and_eq_true, decide_eq_true_eq] at hc
    obtain ⟨⟨⟨⟨⟨rfl, hg⟩, ha⟩, hb⟩, hp⟩, hq⟩ := hc
    by_cases hgc : f2Ok G f = true
    · refine PE.weak (pe_b2 (cl := cl) L.calm (gl_of hg) L.bl (fun z => L.gcd (by subst z; exact hgc)) hp hq (pa_cons (iha X W L tk d ha) (pa_cons (ihb X W L tk e hb) pa_nil (star_of hq)) (star_of hp))) fun σ H Q h => ?_
      obtain ⟨w, A, ρ, rfl, g, e, h⟩ := h
      unfold ev at h
      rw [if_pos hgc] at h
      obtain ⟨q1, q2⟩ := qtL (rfl : (qt a && qt b) = qt (.b2 f a b))
      refine ⟨w, A, ρ, rfl, g, e, h.bindU (.start g e) q1 fun d ρ1 w1 A1 B1 b1 a1 kp g1 x1 l1 k1 h1 => ?_⟩
      refine ⟨w1, A1, ρ1, rfl, a1.gd.left, a1.es, h1.bindU a1 q2 fun e ρ2 w2 A2 B2 b2 a2 kp2 g2 x2 l2 k2 h2 => ?_⟩
      cases hr : b2D f d e with
      | none => rw [hr] at h2; exact (show False from h2).elim
      | some r =>
        rw [hr] at h2
        exact ⟨w2, A2, _, _, _, d, e, b1, b2, r, rfl, rfl, a2.gd, T.keep _ _ _ kp2.left l1, l2, hr, oG.can h2 a2⟩
    · refine ⟨fun pins s σ H Q I h => ?_⟩
      obtain ⟨w, A, ρ, rfl, g, e, h⟩ := h
      unfold ev at h
      rw [if_neg hgc] at h
      exact (show False from h).elim
  | [], _, hc => simp [chk] at hc
  | [_], _, hc => simp [chk] at hc
  | _ :: _ :: _ :: _, _, hc => simp [chk] at hc
  | [_, _], _ :: _, hc => simp [chk] at hc

/-! ### isinstance -/
theorem ty_of {w : Hs} {A B : Ft} {d : D} {x : V} (g : Gd w A) (t : T X.K cl w d x B) :
    match d with
    | .non => TyX X.K w.H x (.type "NoneType") | .bl _ => TyX X.K w.H x (.type "bool") | .int _ => TyX X.K w.H x (.type "int") | .str _ => TyX X.K w.H x (.type "str")
    | .tup _ => TyX X.K w.H x (.type "tuple") | .lst _ _ => TyX X.K w.H x (.type "list") | _ => True := by
  cases d with
  | non => cases t.non1; exact .base .non
  | bl b => cases t.bl1; exact .base (.bl b)
  | int b => cases t.int1; exact .base (.int b)
  | str b => cases t.str1; exact .base (.str b)
  | tup xs =>
    obtain ⟨a, vs, rfl, sq, ts⟩ := t.tuple g
    rcases sq with (h | ⟨o, h⟩) | ⟨o, its, n, hk, hc, _⟩
    · exact .base (.tup h)
    · exact .fTuple h
    · exact .kTuple hk hc
  | lst o xs =>
    obtain ⟨a, vs, _, rfl, sq, ts⟩ := t.list g
    rcases sq with (h | ⟨o, h⟩) | ⟨o, its, n, hk, hc, _⟩
    · exact .base (.lst h)
    · exact .base (.frz h)
    · exact .kList hk hc
  | dct _ _ => trivial
  | ins _ _ _ => trivial
theorem pe_tyName {x : Str} {n : String} {p : Pos} (hg : Gl X x) (hm : X.mg x = none) (hv : bootBuiltins x = some (.type n)) (hn : x ≠ "__name__") (hd : (x == ("__debug__" : Str)) = false) : PE X (.Name x p) (tC (.ty n)) :=
  ⟨fun pins s σ H Q I h => ld_blt I hg hm hv ⟨.ty n, H, I, rfl, h⟩ hn hd⟩
theorem kits (K : PySem.W.Frag) : ∀ n ∈ (["NoneType", "bool", "int", "str", "tuple", "list"] : List String), ∀ t ∈ (["bool", "int", "str", "tuple", "list"] : List String), PySem.W.kitOne K (.type n) (.type t) = some (n == t || (n == "bool" && t == "int")) := by
  intro n hn t ht
  apply kit_ty
  revert n t
  decide +kernel
/-- a type's name -/
def tyTab : List (Str × String) := [("bool", "bool"), ("int", "int"), ("str", "str"), ("tuple", "tuple"), ("list", "list")]
theorem tyTab_of {ty : Str} (h : ty ∈ isiTys) : ∃ t, (ty, t) ∈ tyTab := by
  simp only [isiTys, List.mem_cons, List.not_mem_nil, or_false] at h
  rcases h with rfl | rfl | rfl | rfl | rfl
  · exact ⟨"bool", by decide⟩
  · exact ⟨"int", by decide⟩
  · exact ⟨"str", by decide⟩
  · exact ⟨"tuple", by decide⟩
  · exact ⟨"list", by decide⟩
theorem isi_ok {w : Hs} {A B : Ft} {d : D} {x : V} {ty : Str} {t : String} {b : Bool} (g : Gd w A) (hT : T X.K cl w d x B) (ht : (ty, t) ∈ tyTab) (h : isiR ty d = some b) : ∃ n : String, TyX X.K w.H x (.type n) ∧ PySem.W.kitOne X.K (.type n) (.type t) = some b := by
  have k := kits X.K
  have tt := ty_of g hT
  simp only [tyTab, List.mem_cons, List.not_mem_nil, or_false, Prod.mk.injEq] at ht
  cases d with
  | non =>
    cases h
    refine ⟨_, tt, ?_⟩
    rcases ht with ⟨rfl, rfl⟩ | ⟨rfl, rfl⟩ | ⟨rfl, rfl⟩ | ⟨rfl, rfl⟩ | ⟨rfl, rfl⟩ <;> exact (k _ (by decide) _ (by decide)).trans (by decide)
  | bl z =>
    cases h
    refine ⟨_, tt, ?_⟩
    rcases ht with ⟨rfl, rfl⟩ | ⟨rfl, rfl⟩ | ⟨rfl, rfl⟩ | ⟨rfl, rfl⟩ | ⟨rfl, rfl⟩ <;> exact (k _ (by decide) _ (by decide)).trans (by decide)
  | int z =>
    cases h
    refine ⟨_, tt, ?_⟩
    rcases ht with ⟨rfl, rfl⟩ | ⟨rfl, rfl⟩ | ⟨rfl, rfl⟩ | ⟨rfl, rfl⟩ | ⟨rfl, rfl⟩ <;> exact (k _ (by decide) _ (by decide)).trans (by decide)
  | str z =>
    cases h
    refine ⟨_, tt, ?_⟩
    rcases ht with ⟨rfl, rfl⟩ | ⟨rfl, rfl⟩ | ⟨rfl, rfl⟩ | ⟨rfl, rfl⟩ | ⟨rfl, rfl⟩ <;> exact (k _ (by decide) _ (by decide)).trans (by decide)
  | tup z =>
    cases h
    refine ⟨_, tt, ?_⟩
    rcases ht with ⟨rfl, rfl⟩ | ⟨rfl, rfl⟩ | ⟨rfl, rfl⟩ | ⟨rfl, rfl⟩ | ⟨rfl, rfl⟩ <;> exact (k _ (by decide) _ (by decide)).trans (by decide)
  | lst o z =>
    cases h
    refine ⟨_, tt, ?_⟩
    rcases ht with ⟨rfl, rfl⟩ | ⟨rfl, rfl⟩ | ⟨rfl, rfl⟩ | ⟨rfl, rfl⟩ | ⟨rfl, rfl⟩ <;> exact (k _ (by decide) _ (by decide)).trans (by decide)
  | dct _ _ => cases h
  | ins _ _ _ => cases h
theorem pe_tyTab {ty : Str} {t : String} {p : Pos} (ht : (ty, t) ∈ tyTab) (hg : Gl X ty) (hm : ∀ y ∈ blts, X.mg y = none) : PE X (.Name ty p) (tC (.ty t)) := by
  simp only [tyTab, List.mem_cons, List.not_mem_nil, or_false, Prod.mk.injEq] at ht
  rcases ht with ⟨rfl, rfl⟩ | ⟨rfl, rfl⟩ | ⟨rfl, rfl⟩ | ⟨rfl, rfl⟩ | ⟨rfl, rfl⟩
  · exact pe_tyName hg (hm _ (by decide)) bt_bool (by decide) (by decide)
  · exact pe_tyName hg (hm _ (by decide)) bt_int (by decide) (by decide)
  · exact pe_tyName hg (hm _ (by decide)) bt_str (by decide) (by decide)
  · exact pe_tyName hg (hm _ (by decide)) bt_tuple (by decide) (by decide)
  · exact pe_tyName hg (hm _ (by decide)) bt_list (by decide) (by decide)
theorem s_isi (a : E) (ty : Str) (iha : SndE cl G C a) : SndE cl G C (.isi a ty) := fun X W L tk t hc => by
  cases t <;> first | (simp [chk] at hc; done) | skip
  rename_i fn es ks p
  cases fn <;> first | (cases es <;> simp [chk] at hc; done) | skip
  rename_i g gp
  match es, ks, hc with
  | [e, t], [], hc =>
    cases t <;> first | (simp [chk] at hc; done) | skip
    rename_i t tp
    unfold chk at hc
    simp only [Bool.and_eq_true, decide_eq_true_eq] at hc
    obtain ⟨⟨⟨⟨⟨⟨rfl, hg⟩, ha⟩, hp⟩, rfl⟩, hgt⟩, hty⟩ := hc
    · obtain ⟨n, hn⟩ := tyTab_of hty
      have st := star_of (X := X) (es := [.Name t tp]) hp
      refine PE.weak (pe_callB call_isi (gl_of hg) (L.bl _ (by decide)) bt_isi (pa_cons (iha X W L tk e ha) (pa_cons (pe_tyTab hn (gl_of hgt) L.bl) pa_nil) st) (he := st)) fun σ H Q h => ?_
      obtain ⟨w, A, ρ, rfl, g, e, h⟩ := h
      unfold ev at h
      refine ⟨w, A, ρ, rfl, g, e, h.bind (.start g e) (fun z => z) fun x ρ1 w1 A1 B1 b1 a1 kp g1 x1 l1 k1 h1 => ?_⟩
      obtain ⟨d, pl⟩ := x
      dsimp only at h1
      obtain ⟨Bd, td⟩ := l1.tree
      have e1 : isiD t d = isiR t d := if_pos hty
      rw [e1] at h1
      cases hr : isiR t d with
      | none => rw [hr] at h1; exact (show False from h1).elim
      | some b =>
        rw [hr] at h1
        obtain ⟨m, hm, hk⟩ := isi_ok a1.gd td hn hr
        exact ⟨b1, .ty n, .type m, .type n, b, rfl, .ty n, hm, hk, oG.fBl h1 a1⟩
  | [], _, hc => simp [chk] at hc
  | [_], _, hc => simp [chk] at hc
  | _ :: _ :: _ :: _, _, hc => simp [chk] at hc
  | [_, _], _ :: _, hc => simp [chk] at hc
end
end Ev

/-! Ev, part M: calls of defs. -/
namespace Ev
open PySem PySem.Spec PyProof.Rows L2

section
variable {K : PySem.W.Frag} {cl : Str → Option Addr} {w : Hs} {σ : Sg}
theorem getE_none {ρ : Env} {i : Nat} : ∀ {p : Pl}, p.root ≠ i → getE (ρ.set i none) p = getE ρ p
  | .var j, h => by
    have h : j ≠ i := h
    show slot (ρ.set i none) j = slot ρ j
    unfold slot
    rw [List.getElem?_set_ne (fun z => h z.symm)]
  | .stp p s, h => by
    have h : p.root ≠ i := h
    show (getE (ρ.set i none) p).bind _ = (getE ρ p).bind _
    rw [getE_none h]
theorem avDs_none {ρ : Env} {i : Nat} : ∀ {avs : List Av}, i ∉ avRoots avs → avDs (ρ.set i none) avs = avDs ρ avs
  | [], _ => rfl
  | .val d :: r, h => by
    have h : i ∉ avRoots r := h
    show (some d).bind _ = (some d).bind _
    rw [avDs_none h]
  | .pl p :: r, h => by
    have h : i ∉ p.root :: avRoots r := h
    rw [List.mem_cons, not_or] at h
    show (getE (ρ.set i none) p).bind _ = (getE ρ p).bind _
    rw [getE_none (fun z => h.1 z.symm), avDs_none h.2]
theorem go_vars {w : Hs} {ρ ρ' : Env} {A A' : Ft} : ∀ {avs : List Av} {vs : List V} {B : Ft}, avs.all Av.isVar = true → lyA.go K cl w ρ σ A avs vs B → lyA.go K cl w ρ' σ A' avs vs B
  | [], _, _, _, h => by unfold lyA.go at h ⊢; exact h
  | .val d :: r, _, _, f, h => by
    rw [List.all_cons, Bool.and_eq_true] at f
    unfold lyA.go at h ⊢
    obtain ⟨v, vr, B1, B2, e, t, g, e2⟩ := h
    exact ⟨v, vr, B1, B2, e, t, go_vars f.2 g, e2⟩
  | .pl (.var i) :: r, _, _, f, h => by
    rw [List.all_cons, Bool.and_eq_true] at f
    unfold lyA.go at h ⊢
    obtain ⟨v, vr, e, hv, g⟩ := h
    exact ⟨v, vr, e, hv, go_vars f.2 g⟩
  | .pl (.stp p s) :: r, _, _, f, h => by
    rw [List.all_cons, Bool.and_eq_true] at f
    exact absurd f.1 Bool.false_ne_true
theorem giveA_set {i : Nat} {x : Option D} : ∀ {avs : List Av} {ds : List D} {ρ : Env}, avs.all Av.isVar = true → i ∉ avRoots avs → giveA avs ds (ρ.set i x) = (giveA avs ds ρ).set i x
  | [], _, _, _, _ => rfl
  | .val d :: r, [], _, _, _ => rfl
  | .val d :: r, e :: ds, ρ, f, h => by
    rw [List.all_cons, Bool.and_eq_true] at f
    show giveA r ds (ρ.set i x) = (giveA r ds ρ).set i x
    exact giveA_set f.2 h
  | .pl p :: r, [], _, _, _ => rfl
  | .pl (.var j) :: r, e :: ds, ρ, f, h => by
    rw [List.all_cons, Bool.and_eq_true] at f
    have h : i ∉ j :: avRoots r := h
    rw [List.mem_cons, not_or] at h
    show giveA r ds ((ρ.set i x).set j (some e)) = (giveA r ds (ρ.set j (some e))).set i x
    rw [← giveA_set f.2 h.2, List.set_comm _ _ h.1]
  | .pl (.stp p s) :: r, e :: ds, ρ, f, h => by
    rw [List.all_cons, Bool.and_eq_true] at f
    exact absurd f.1 Bool.false_ne_true
theorem giveA_length : ∀ {avs : List Av} {ds : List D} {ρ : Env}, avs.all Av.isVar = true → (giveA avs ds ρ).length = ρ.length
  | [], _, _, _ => rfl
  | .val d :: r, [], _, _ => rfl
  | .val d :: r, e :: ds, ρ, f => by
    rw [List.all_cons, Bool.and_eq_true] at f
    exact giveA_length (avs := r) (ds := ds) (ρ := ρ) f.2
  | .pl p :: r, [], _, _ => rfl
  | .pl (.var j) :: r, e :: ds, ρ, f => by
    rw [List.all_cons, Bool.and_eq_true] at f
    show (giveA r ds (ρ.set j (some e))).length = _
    rw [giveA_length (avs := r) f.2, List.length_set]
  | .pl (.stp p s) :: r, e :: ds, ρ, f => by
    rw [List.all_cons, Bool.and_eq_true] at f
    exact absurd f.1 Bool.false_ne_true
/-- what is handed on, what is kept, the way back -/
def HandOn (K : PySem.W.Frag) (cl : Str → Option Addr) (w : Hs) (ρ : Env) (σ : Sg) (A B : Ft) (avs : List Av) (vs : List V) (ds : List D) : Prop :=
  ∃ P R, A = P + R ∧ Ts K cl w ds vs (P + B) ∧ ∀ w' ds' B', Ts K cl w' ds' vs B' → Kp w w' R → ∃ P', (∀ b x, P' b x ≤ B' b x) ∧ Es K cl w' (giveA avs ds' ρ) σ (P' + R)
theorem hand_vars : ∀ {avs : List Av} {vs : List V} {ds : List D} {ρ : Env} {A B : Ft}, avs.all Av.isVar = true → (avRoots avs).Nodup → Es K cl w ρ σ A → lyA.go K cl w ρ σ A avs vs B → avDs ρ avs = some ds → HandOn K cl w ρ σ A B avs vs ds
  | [], _, _, ρ, A, B, _, _, e, h, hd => by
    unfold lyA.go at h
    obtain ⟨rfl, rfl⟩ := h
    cases hd
    refine ⟨0, A, (zero_add' _).symm, by unfold Ts; exact ⟨rfl, add0 _⟩, fun w' ds' B' t k => ⟨0, fun _ _ => Nat.zero_le _, ?_⟩⟩
    rw [zero_add']
    exact e.keep k
  | .val d :: r, _, _, ρ, A, B, f, n, e, h, hd => by
    rw [List.all_cons, Bool.and_eq_true] at f
    unfold lyA.go at h
    obtain ⟨v, vr, B1, B2, rfl, t, h, rfl⟩ := h
    have hd : (avDs ρ r).map (d :: ·) = some _ := hd
    obtain ⟨dr, hr, rfl⟩ := Option.map_eq_some_iff.mp hd
    obtain ⟨P, R, rfl, ts, back⟩ := hand_vars f.2 n e h hr
    refine ⟨P, R, rfl, ?_, fun w' ds' B' t' k => ?_⟩
    · unfold Ts
      exact ⟨v, vr, B1, _, rfl, t, ts, ft_ext fun b x => by simp only [add_at]; omega⟩
    · cases ds' with
      | nil => unfold Ts at t'; cases t'.1
      | cons d' ds' =>
        unfold Ts at t'
        obtain ⟨v', vr', C1, C2, e2, _, t2, rfl⟩ := t'
        cases e2
        obtain ⟨P', hP, es⟩ := back w' ds' C2 t2 k
        exact ⟨P', fun b x => by have := hP b x; simp only [add_at]; omega, es⟩
  | .pl (.var i) :: r, _, _, ρ, A, B, f, n, e, h, hd => by
    rw [List.all_cons, Bool.and_eq_true] at f
    have n : (i :: avRoots r).Nodup := n
    rw [List.nodup_cons] at n
    unfold lyA.go at h
    obtain ⟨v, vr, rfl, hv, h⟩ := h
    have hd : (slot ρ i).bind (fun d => (avDs ρ r).map (d :: ·)) = some _ := hd
    cases hs : slot ρ i with
    | none => rw [hs] at hd; cases hd
    | some d =>
      rw [hs] at hd
      have hd : (avDs ρ r).map (d :: ·) = some _ := hd
      obtain ⟨dr, hr, rfl⟩ := Option.map_eq_some_iff.mp hd
      obtain ⟨v', A1, Ar, e1, t1, rfl, e2⟩ := Es.out hs e
      rw [hv] at e1
      cases e1
      obtain ⟨P, R, rfl, ts, back⟩ := hand_vars (ρ := ρ.set i none) f.2 n.2 e2 (go_vars f.2 h) (by rw [avDs_none n.1]; exact hr)
      refine ⟨A1 + P, R, (add_assoc' _ _ _).symm, ?_, fun w' ds' B' t' k => ?_⟩
      · unfold Ts
        exact ⟨v, vr, A1, _, rfl, t1, ts, ft_ext fun b x => by simp only [add_at]; omega⟩
      · cases ds' with
        | nil => unfold Ts at t'; cases t'.1
        | cons d' ds' =>
          unfold Ts at t'
          obtain ⟨v', vr', C1, C2, e3, t3, t2, rfl⟩ := t'
          cases e3
          obtain ⟨P', hP, es⟩ := back w' ds' C2 t2 k
          refine ⟨C1 + P', fun b x => by have := hP b x; simp only [add_at]; omega, ?_⟩
          show Es K cl w' (giveA r ds' (ρ.set i (some d'))) σ _
          rw [giveA_set f.2 n.1] at es ⊢
          have := Es.into (ρ := giveA r ds' ρ) (i := i) (by rw [giveA_length f.2]; exact slot_lt hs) t3 es
          rw [set_same hv] at this
          rw [add_assoc']
          exact this
  | .pl (.stp p s) :: r, _, _, ρ, A, B, f, n, e, h, hd => by
    rw [List.all_cons, Bool.and_eq_true] at f
    exact absurd f.1 Bool.false_ne_true
/-- no place -/
theorem vals_vars : ∀ {avs : List Av}, avRoots avs = [] → avs.all Av.isVar = true
  | [], _ => rfl
  | .val d :: r, h => by rw [List.all_cons, vals_vars (show avRoots r = [] from h)]; rfl
  | .pl p :: r, h => by cases h
theorem giveA_vals : ∀ {avs : List Av} {ds : List D} {ρ : Env}, avRoots avs = [] → giveA avs ds ρ = ρ
  | [], _, _, _ => rfl
  | .val d :: r, [], _, _ => rfl
  | .val d :: r, e :: ds, ρ, h => giveA_vals (avs := r) (ds := ds) h
  | .pl p :: r, _, _, h => by cases h
/-- values alone: nothing of the frame is handed on -/
theorem hand_vals : ∀ {avs : List Av} {vs : List V} {ds : List D} {ρ : Env} {A B : Ft}, avRoots avs = [] → lyA.go K cl w ρ σ A avs vs B → avDs ρ avs = some ds → Ts K cl w ds vs B
  | [], _, _, ρ, A, B, _, h, hd => by
    unfold lyA.go at h
    obtain ⟨rfl, rfl⟩ := h
    cases hd
    unfold Ts
    exact ⟨rfl, rfl⟩
  | .val d :: r, _, _, ρ, A, B, n, h, hd => by
    unfold lyA.go at h
    obtain ⟨v, vr, B1, B2, rfl, t, h, rfl⟩ := h
    have hd : (avDs ρ r).map (d :: ·) = some _ := hd
    obtain ⟨dr, hr, rfl⟩ := Option.map_eq_some_iff.mp hd
    unfold Ts
    exact ⟨v, vr, B1, B2, rfl, t, hand_vals (avs := r) n h hr, rfl⟩
  | .pl p :: r, _, _, _, _, _, n, _, _ => by cases n
theorem hand_one : ∀ {avs : List Av} {vs : List V} {ds : List D} {ρ : Env} {A B : Ft}, (avRoots avs).length = 1 → Es K cl w ρ σ A → lyA.go K cl w ρ σ A avs vs B → avDs ρ avs = some ds → HandOn K cl w ρ σ A B avs vs ds
  | [], _, _, ρ, A, B, n, e, h, hd => by cases n
  | .val d :: r, _, _, ρ, A, B, n, e, h, hd => by
    unfold lyA.go at h
    obtain ⟨v, vr, B1, B2, rfl, t, h, rfl⟩ := h
    have hd : (avDs ρ r).map (d :: ·) = some _ := hd
    obtain ⟨dr, hr, rfl⟩ := Option.map_eq_some_iff.mp hd
    obtain ⟨P, R, rfl, ts, back⟩ := hand_one (avs := r) n e h hr
    refine ⟨P, R, rfl, ?_, fun w' ds' B' t' k => ?_⟩
    · unfold Ts
      exact ⟨v, vr, B1, _, rfl, t, ts, ft_ext fun b x => by simp only [add_at]; omega⟩
    · cases ds' with
      | nil => unfold Ts at t'; cases t'.1
      | cons d' ds' =>
        unfold Ts at t'
        obtain ⟨v', vr', C1, C2, e2, _, t2, rfl⟩ := t'
        cases e2
        obtain ⟨P', hP, es⟩ := back w' ds' C2 t2 k
        exact ⟨P', fun b x => by have := hP b x; simp only [add_at]; omega, es⟩
  | .pl p :: r, _, _, ρ, A, B, n, e, h, hd => by
    have nr : avRoots r = [] := by
      have n : (p.root :: avRoots r).length = 1 := n
      rw [List.length_cons] at n
      exact List.eq_nil_of_length_eq_zero (by omega)
    unfold lyA.go at h
    obtain ⟨v, vr, rfl, hv, h⟩ := h
    have hd : (getE ρ p).bind (fun d => (avDs ρ r).map (d :: ·)) = some _ := hd
    cases hs : getE ρ p with
    | none => rw [hs] at hd; cases hd
    | some d =>
      rw [hs] at hd
      have hd : (avDs ρ r).map (d :: ·) = some _ := hd
      obtain ⟨dr, hr, rfl⟩ := Option.map_eq_some_iff.mp hd
      have f : ∃ d, Foc K cl w ρ σ A p d v := by
        cases p with
        | var i =>
          obtain ⟨v', e1, f⟩ := Es.var hs e
          rw [show σ[i]? = some (some v) from hv] at e1
          cases e1
          exact ⟨d, f⟩
        | stp p s => exact hv
      obtain ⟨d', eg, _, A1, Ar, t, rfl, back⟩ := f
      rw [hs] at eg
      cases eg
      refine ⟨A1, Ar, rfl, ?_, fun w' ds' B' t' k => ?_⟩
      · unfold Ts
        exact ⟨v, vr, A1, B, rfl, t, hand_vals nr h hr, rfl⟩
      · cases ds' with
        | nil => unfold Ts at t'; cases t'.1
        | cons d' ds' =>
          unfold Ts at t'
          obtain ⟨v', vr', C1, C2, e3, t3, t2, rfl⟩ := t'
          cases e3
          refine ⟨C1, fun b x => by simp only [add_at]; omega, ?_⟩
          show Es K cl w' (giveA r ds' (setE ρ p d')) σ _
          rw [giveA_vals nr]
          exact back w' d' C1 t3 k
theorem hand_on {avs : List Av} {vs : List V} {ds : List D} {ρ : Env} {A B : Ft} (ok : avOk avs = true) (e : Es K cl w ρ σ A) (h : lyA.go K cl w ρ σ A avs vs B) (hd : avDs ρ avs = some ds) : HandOn K cl w ρ σ A B avs vs ds := by
  unfold avOk at ok
  simp only [Bool.or_eq_true, Bool.and_eq_true, decide_eq_true_eq] at ok
  rcases ok with ⟨f, n⟩ | n
  · exact hand_vars f n e h hd
  · exact hand_one n e h hd
theorem avDs_length {ρ : Env} : ∀ {avs : List Av} {ds : List D}, avDs ρ avs = some ds → ds.length = avs.length
  | [], _, h => by cases h; rfl
  | a :: r, _, h => by
    have h : (avD ρ a).bind (fun d => (avDs ρ r).map (d :: ·)) = some _ := h
    cases hs : avD ρ a with
    | none => rw [hs] at h; cases h
    | some d =>
      rw [hs] at h
      obtain ⟨dr, hr, rfl⟩ := Option.map_eq_some_iff.mp (show (avDs ρ r).map (d :: ·) = some _ from h)
      rw [List.length_cons, List.length_cons, avDs_length hr]
end

section
variable {cl : Str → Option Addr} {G : Str → Option D} {C : CT} {X : Cx} {W : WX}
theorem s_call (f : Str) (as : E) (iha : SndA cl G C as) : SndE cl G C (.call f as) := fun X W L tk t hc => by
  cases t <;> first | (simp [chk] at hc; done) | skip
  rename_i fn es ks p
  cases fn <;> first | (cases es <;> simp [chk] at hc; done) | skip
  rename_i g gp
  match ks, es, hc with
  | [], [], hc => simp [chk] at hc
  | [], e :: es, hc =>
    unfold chk at hc
    simp only [Bool.and_eq_true, decide_eq_true_eq] at hc
    obtain ⟨⟨⟨⟨rfl, hg⟩, ho⟩, ha⟩, _⟩ := hc
    obtain ⟨o1, o2, o3⟩ := okN_of ho
    cases hF : C f with
    | none =>
      refine ⟨fun pins s σ H Q I h => ?_⟩
      obtain ⟨w, A, ρ, rfl, g, e, h⟩ := h
      unfold ev at h
      rw [hF] at h
      exact (show False from h).elim
    | some F =>
      obtain ⟨a, fd, ps, k, hm, hk, hb, hr, fo⟩ := L.fn f F hF
      have pl := chks_plain ha
      rw [List.all_cons, Bool.and_eq_true] at pl
      refine PE.weak (pe_callSD fo hr (gl_of hg) hm hk hb .nil (passAt tk) (iha X W L tk (e :: es) ha) o1 (star_of pl.1) (hpl_of pl.2)) fun σ H Q h => ?_
      obtain ⟨w, A, ρ, rfl, g, e, h⟩ := h
      unfold ev at h
      rw [hF] at h
      dsimp only at h
      refine ⟨w, A, ρ, rfl, g, e, h.bind (.start g e) (fun z => by cases z) fun avs ρ1 w1 A1 B1 vs a1 kp g1 x1 l1 k1 h1 => ?_⟩
      cases hd : avDs ρ1 avs with
      | none => rw [hd] at h1; exact (show False from h1).elim
      | some ds =>
        rw [hd] at h1
        dsimp only at h1
        split at h1
        · rename_i ok
          obtain ⟨P, R, rfl, ts, back⟩ := hand_on ok a1.es l1 hd
          rw [List.append_nil]
          have gPB : Gd w1 ((P + B1) + R) := by
            have := a1.gd
            refine this.sub fun b x => by simp only [add_at, zero_at]; omega
          have x01 : Ext w A w1 ((P + B1) + R) := a1.ext.weak fun b x z => by simp only [add_at, zero_at] at z ⊢; omega
          refine ⟨w1, P + B1, ds, rfl, gPB.left, ts, ?_⟩
          cases hr : F ds with
          | bad => rw [hr] at h1; exact (show False from h1).elim
          | ok d ds' =>
            rw [hr] at h1
            intro w' A' B v g' ts' t' x'
            have gw : Gd w' ((A' + B) + R) := x'.gd gPB g'
            have kR : Kp w1 w' R := x'.keeps gPB
            obtain ⟨P', hP, es⟩ := back w' ds' A' ts' kR
            refine h1 w' (P' + R) B v (gw.sub fun b x => by have := hP b x; simp only [add_at]; omega) es t' (x01.trans (x'.side.weak fun b x z => by have := hP b x; simp only [add_at] at z ⊢; omega)) (fun z => by cases z)
          | exc x ds' =>
            rw [hr] at h1
            intro w' A' cls dd g' ts' x' er
            have gw : Gd w' (A' + R) := x'.gd gPB g'
            have kR : Kp w1 w' R := x'.keeps gPB
            obtain ⟨P', hP, es⟩ := back w' ds' A' ts' kR
            exact h1 w' (P' + R) cls dd (gw.sub fun b x => by have := hP b x; simp only [add_at]; omega) es (x01.trans (x'.side.weak fun b x z => by have := hP b x; simp only [add_at] at z ⊢; omega)) er
        · exact (show False from h1).elim
  | _ :: _, es, hc => cases es <;> simp [chk] at hc
end
end Ev

/-! Ev, part N: methods that change a list. -/
namespace Ev
open PySem PySem.Spec PyProof.Rows L2

section
variable {X : Cx}
def mmR (K : PySem.W.Frag) (H : Hp) : MM → List V → List V → List V → V → Prop
  | .append, vs, us, vs', v => ∃ y, us = [y] ∧ vs.length < sizeLine ∧ vs' = vs ++ [y] ∧ v = .non
  | .extend, vs, us, vs', v => ∃ b zs, us = [.ref b] ∧ SqL K H b zs ∧ vs.length + zs.length ≤ sizeLine ∧ vs' = vs ++ zs ∧ v = .non
  | .insert, vs, us, vs', v => ∃ i y, us = [.int i, y] ∧ 0 ≤ i ∧ i ≤ vs.length ∧ vs.length < sizeLine ∧ vs' = vs.take i.toNat ++ [y] ++ vs.drop i.toNat ∧ v = .non
  | .pop, vs, us, vs', v => us = [] ∧ vs[vs.length - 1]? = some v ∧ vs' = vs.dropLast
  | .popAt, vs, us, vs', v => ∃ i k, us = [.int i] ∧ ixN vs.length i = some k ∧ vs[k]? = some v ∧ vs' = vs.eraseIdx k
def rMM (K : PySem.W.Frag) (m : MM) : V → List V → Hp → VK → Prop := fun x us H Q => ∃ l vs vs' v, x = .ref l ∧ H l = some (.lst vs) ∧ mmR K H m vs us vs' v ∧ Q v (upd H l (.lst vs'))
def MM.id : MM → String
  | .append => "list.append" | .extend => "list.extend" | .insert => "list.insert" | .pop => "list.pop" | .popAt => "list.pop"
theorem list_extW (l : Addr) (items : Array Value) (n : Nat) (b : Addr) (items2 : Array Value) (n2 : Nat) (sl2 : Array (Option Value)) (hc0 : ¬(!items.isEmpty && Builtin.List.listTooLong (items.size + items2.size)) = true) (hc1 : items.size ≤ sizeLine) (hs2 : items.size + items2.size ≤ sizeLine + 1) :
    Meets (Builtin.«list.extend» ⟨[.ref l, .ref b], []⟩) (fun _ R s => s.heap.get? l = some { cls := .type "list", dict := none, data := .seq items n, slots := #[] } ∧ s.heap.get? b = some { cls := .type "list", dict := none, data := .seq items2 n2, slots := sl2 } ∧ R (.ok (.ret Value.none)) { s with heap := s.heap.update l (Obj.mapSeq fun x => x ++ items2), toks := s.toks }) :=
  .of_wp fun prog w A R s h => by
    obtain ⟨hp, g, d, tk, os⟩ := s; obtain ⟨hl, hb, h⟩ := h; have f1 := AutoSeq1.idx_int; have f2 := AutoSeq1.sub_tuple_tuple; have f3 := AutoSeq1.sub_list_list; have f4 := AutoSeq1.sub_tuple_list; have f5 := AutoSeq1.sub_list_tuple;
    have hz' : (items ++ items2).size ≤ sizeLine + 1 := by rw [Array.size_append]; exact hs2
    wp_walk using (wpAny_updateSeq hl rfl (hz := hc1) (_hz' := hz')), wpAny_loadPart' hl, wpAny_loadPart' hb; exact ⟨_, rfl, h⟩
theorem mt_mm (m : MM) : MtR X m.id (rMM X.K m) := by
  intro pins s σ H x us v uv Q I rx rv h
  obtain ⟨l, vs, vs', z, rfl, hH, hm, q⟩ := h
  cases m with
  | append =>
    obtain ⟨y, rfl, hl, rfl, rfl⟩ := hm
    exact mt_append pins s σ H _ _ v uv Q I rx rv ⟨l, vs, y, rfl, rfl, hH, hl, q⟩
  | insert =>
    obtain ⟨i, y, rfl, h0, h1, hl, rfl, rfl⟩ := hm
    have := line63
    exact mt_insert pins s σ H _ _ v uv Q I rx rv ⟨l, vs, i, y, rfl, rfl, hH, hl, h0, by omega, q⟩
  | pop =>
    obtain ⟨rfl, hy, rfl⟩ := hm
    exact mt_pop pins s σ H _ _ v uv Q I rx rv ⟨l, vs, z, rfl, rfl, hH, hy, q⟩
  | popAt =>
    obtain ⟨i, k, rfl, hk, hy, rfl⟩ := hm
    obtain ⟨hz, _⟩ := I.lstM hH
    obtain ⟨h1, h2, h3, h4⟩ := ixN_seq hk
    have := line63
    exact mt_popAt pins s σ H _ _ v uv Q I rx rv ⟨l, vs, i, k, z, rfl, rfl, hH, by omega, by omega, h1, hy, q⟩
  | extend =>
    obtain ⟨b, zs, rfl, hB, hz, rfl, rfl⟩ := hm
    cases rx
    obtain ⟨u, rfl, ru⟩ := rv.one
    cases ru
    obtain ⟨zz, its, n, r, hl, e⟩ := I.lstM hH
    obtain ⟨its2, r2, ⟨⟨cls2, dd2, data2, sl2⟩, n2, e2, hc2, hdd2, hd2⟩, z2⟩ := I.list hB
    simp only at hc2 hdd2 hd2
    subst hc2 hdd2 hd2
    have hl2 := r2.length
    have hsz : its.toArray.size + its2.toArray.size ≤ sizeLine := by rw [List.size_toArray, List.size_toArray]; omega
    have hlong : ¬ (!its.toArray.isEmpty && Builtin.List.listTooLong (its.toArray.size + its2.toArray.size)) = true := by
      rw [notLongL hsz, Bool.and_false]
      exact Bool.false_ne_true
    refine call_meets F.slot_list_extend ⟨_, e, rfl⟩ F.entry_list_extend (F.args_list_extend_2 _ _)
      (list_extW l its.toArray n b its2.toArray n2 sl2 hlong (by rw [List.size_toArray]; omega) (by omega)) ⟨e, e2, ?_⟩
    refine ⟨.non, _, I.lset (its' := its ++ its2) hH e (by simp) (r.append r2) ?_, rfl, q⟩
    rw [List.length_append]
    omega
theorem few_of {cpos : Pos} : ∀ {es : List Expr}, es.all plainE = true → (backTo cpos (starEach es X.env)).all (fun x => !x.1) = true
  | [], _ => rfl
  | e :: es, h => by
    rw [List.all_cons, Bool.and_eq_true] at h
    rw [star_of h.1]
    show (true && (backTo cpos (starEach es X.env)).all (fun x => !x.1)) = true
    rw [few_of h.2]; rfl
theorem pe_mm {m : MM} {o e : Expr} {es : List Expr} {to : TE} {t : TA} {apos cpos : Pos} (ho : PE X o to) (ha : PA X (e :: es) t) (hb : attributeBase o m.nm X.env (eval o X.env) = eval o X.env) (hpl : (e :: es).all plainE = true) (hl : (apos.endLine == cpos.line) = true) (hfew : (e :: es).length < 30) (hne : m ≠ .pop) :
    PE X (.Call (.Attribute o m.nm apos) (e :: es) [] cpos) (tBM X.K "list" (rMM X.K m) to t) := by
  have hp := hpl
  rw [List.all_cons, Bool.and_eq_true] at hp
  have few : ((backTo cpos (starEach (e :: es) X.env)).all (fun x => !x.1) && (backToKw cpos (keywordEach [] X.env)).all (fun x => x.1.isSome)
    && decide ((e :: es).length + ([] : List Keyword).length + (if ([] : List Keyword).isEmpty then 0 else 1) < 30)) = true := by
    rw [few_of hpl]
    show (true && true && decide ((e :: es).length + 0 + 0 < 30)) = true
    rw [Bool.true_and, Bool.true_and, decide_eq_true_eq]
    exact hfew
  cases m with
  | append => exact pe_bm PySem.F.plainAttrs_list PySem.F.slot_list_append PySem.F.type_list_append (mt_mm .append) ho ha hb few hl (star_of hp.1) (hpl_of hp.2)
  | extend => exact pe_bm PySem.F.plainAttrs_list PySem.F.slot_list_extend PySem.F.type_list_extend (mt_mm .extend) ho ha hb few hl (star_of hp.1) (hpl_of hp.2)
  | insert => exact pe_bm PySem.F.plainAttrs_list PySem.F.slot_list_insert PySem.F.type_list_insert (mt_mm .insert) ho ha hb few hl (star_of hp.1) (hpl_of hp.2)
  | popAt => exact pe_bm PySem.F.plainAttrs_list PySem.F.slot_list_pop PySem.F.type_list_pop (mt_mm .popAt) ho ha hb few hl (star_of hp.1) (hpl_of hp.2)
  | pop => exact absurd rfl hne
theorem pe_mm0 {o : Expr} {to : TE} {apos cpos : Pos} (ho : PE X o to) (hb : attributeBase o "pop" X.env (eval o X.env) = eval o X.env) (hl : (apos.endLine == cpos.line) = true) :
    PE X (.Call (.Attribute o "pop" apos) [] [] cpos) (tBM0 X.K "list" (rMM X.K .pop) to) :=
  pe_bm0 PySem.F.plainAttrs_list PySem.F.slot_list_pop PySem.F.type_list_pop (mt_mm .pop) ho hb hl
end

section
variable {K : PySem.W.Frag} {cl : Str → Option Addr} {w : Hs}
/-! ### a write at what is owned -/
def Hs.wr (w : Hs) (a : Addr) (o : HO) : Hs := ⟨w.F, w.R, upd w.H a o⟩
theorem wr_gd {A : Ft} {a : Addr} {o : HO} (g : Gd w A) (h : 0 < A a true) : Gd (w.wr a o) A := by
  have hr := (g.own a h).1
  refine ⟨g.FR, fun b u r => ?_, g.one, fun b z => ?_, fun b z => g.lnt b z⟩
  · have hb : b ≠ a := fun e => by subst e; exact rd_nn r hr
    exact rd_eq (upd_ne hb).symm (g.RH b u r)
  · by_cases hb : b = a
    · subst hb; exact ⟨hr, by show upd w.H b o b ≠ none; rw [upd_same]; simp⟩
    · obtain ⟨r1, r2⟩ := g.own b z
      exact ⟨r1, by show upd w.H a o b ≠ none; rw [upd_ne hb]; exact r2⟩
theorem wr_ext {A : Ft} {a : Addr} {o : HO} (h : 0 < A a true) : Ext w A (w.wr a o) A := by
  refine ⟨.refl _, .refl _, fun b u e z => ?_, fun b z n => absurd n z, fun b z n => absurd n z, fun b z => .inl z, fun b z => z⟩
  have hb : b ≠ a := fun e => by subst e; omega
  show upd w.H a o b = some u
  rw [upd_ne hb]; exact e
theorem wr_kp {R : Ft} {a : Addr} {o : HO} (h : R a true = 0) : Kp w (w.wr a o) R := by
  refine ⟨.refl _, fun _ _ _ r => r, fun b u p e => ?_⟩
  have hb : b ≠ a := fun e => by subst e; omega
  show upd w.H a o b = some u
  rw [upd_ne hb]; exact e

/-! ### items split -/
theorem Ts.split : ∀ {ds : List D} {vs : List V} {A : Ft} (n : Nat), Ts K cl w ds vs A → ∃ A1 A2, A = A1 + A2 ∧ Ts K cl w (ds.take n) (vs.take n) A1 ∧ Ts K cl w (ds.drop n) (vs.drop n) A2
  | ds, vs, A, 0, h => ⟨0, A, (zero_add' _).symm, by rw [List.take_zero, List.take_zero]; unfold Ts; exact ⟨rfl, rfl⟩, by simpa using h⟩
  | [], vs, A, n + 1, h => by
    unfold Ts at h
    obtain ⟨rfl, rfl⟩ := h
    refine ⟨0, 0, (add0 _).symm, ?_, ?_⟩ <;> (simp; unfold Ts; exact ⟨rfl, rfl⟩)
  | d :: r, vs, A, n + 1, h => by
    unfold Ts at h
    obtain ⟨v, vr, A1, A2, rfl, t, h, rfl⟩ := h
    obtain ⟨B1, B2, rfl, t1, t2⟩ := Ts.split n h
    refine ⟨A1 + B1, B2, (add_assoc' _ _ _).symm, ?_, ?_⟩
    · rw [List.take_succ_cons, List.take_succ_cons]
      unfold Ts
      exact ⟨v, _, A1, B1, rfl, t, t1, rfl⟩
    · rw [List.drop_succ_cons, List.drop_succ_cons]
      exact t2
theorem Ts.one {d : D} {v : V} {A : Ft} (t : T K cl w d v A) : Ts K cl w [d] [v] A := by
  unfold Ts
  exact ⟨v, [], A, 0, rfl, t, by unfold Ts; exact ⟨rfl, rfl⟩, (add0 _).symm⟩
theorem Ts.un1 {d : D} {vs : List V} {A : Ft} (h : Ts K cl w [d] vs A) : ∃ v, vs = [v] ∧ T K cl w d v A := by
  unfold Ts at h
  obtain ⟨v, vr, A1, A2, rfl, t, h, rfl⟩ := h
  unfold Ts at h
  obtain ⟨rfl, rfl⟩ := h
  exact ⟨v, rfl, by rw [add0]; exact t⟩
theorem take_one {α : Type} {xs : List α} {n : Nat} {x : α} (h : xs[n]? = some x) : xs.drop n = x :: xs.drop (n + 1) := by
  obtain ⟨hn, e⟩ := List.getElem?_eq_some_iff.mp h
  rw [← e]; exact List.drop_eq_getElem_cons hn
/-- an item is taken out -/
theorem Ts.erase {ds : List D} {vs : List V} {A : Ft} {n : Nat} {d : D} (h : Ts K cl w ds vs A) (e : ds[n]? = some d) : ∃ v A1 A2, vs[n]? = some v ∧ A = A1 + A2 ∧ T K cl w d v A1 ∧ Ts K cl w (ds.eraseIdx n) (vs.eraseIdx n) A2 := by
  obtain ⟨B1, B2, rfl, t1, t2⟩ := h.split n
  rw [take_one e] at t2
  have hl := h.length
  have hn : n < vs.length := by rw [hl]; exact (List.getElem?_eq_some_iff.mp e).1
  have ev : vs[n]? = some vs[n] := List.getElem?_eq_getElem hn
  rw [take_one ev] at t2
  unfold Ts at t2
  obtain ⟨v, vr, C1, C2, e2, t, t3, rfl⟩ := t2
  cases e2
  refine ⟨vs[n], C1, B1 + C2, ev, ft_ext fun b x => by simp only [add_at]; omega, t, ?_⟩
  rw [List.eraseIdx_eq_take_drop_succ, List.eraseIdx_eq_take_drop_succ]
  exact t1.append t3
theorem last_erase {α : Type} (xs : List α) : xs.dropLast = xs.eraseIdx (xs.length - 1) := by
  rw [List.eraseIdx_eq_take_drop_succ, List.dropLast_eq_take]
  by_cases h : xs.length = 0
  · have : xs = [] := List.eq_nil_of_length_eq_zero h
    subst this; rfl
  · rw [show xs.length - 1 + 1 = xs.length by omega, List.drop_length, List.append_nil]
/-- what a method does to the trees -/
theorem mm_ok {m : MM} {xs xs' ds : List D} {d : D} {vs us : List V} {A B G : Ft} (g : Gd w G) (h : mmD m xs ds = some (xs', d)) (t : Ts K cl w xs vs A) (tu : Ts K cl w ds us B) :
    ∃ vs' v A' B', mmR K w.H m vs us vs' v ∧ Ts K cl w xs' vs' A' ∧ T K cl w d v B' ∧ ∀ b x, (A' + B') b x ≤ (A + B) b x := by
  have hl := t.length
  cases m with
  | append =>
    match ds, h with
    | [y], h =>
      have h : (if xs.length < sizeLine then some (xs ++ [y], D.non) else none) = some (xs', d) := h
      split at h
      · rename_i hz
        cases h
        obtain ⟨u, rfl, ty⟩ := tu.un1
        exact ⟨vs ++ [u], .non, A + B, 0, ⟨u, rfl, by rw [hl]; exact hz, rfl, rfl⟩, t.append (Ts.one ty), T.non, fun b x => by rw [add0]; exact Nat.le_refl _⟩
      · cases h
    | [], h => cases h
    | _ :: _ :: _, h => cases h
  | extend =>
    match ds, h with
    | [.lst o ys], h =>
      have h : (if frzL ys && decide (xs.length + ys.length ≤ sizeLine) then some (xs ++ ys, D.non) else none) = some (xs', d) := h
      split at h
      · rename_i hz
        rw [Bool.and_eq_true, decide_eq_true_eq] at hz
        cases h
        obtain ⟨u, rfl, ty⟩ := tu.un1
        unfold T at ty
        obtain ⟨a, zs, C, rfl, la, ts, rfl⟩ := ty
        have ts := ts.frz hz.1
        refine ⟨vs ++ zs, .non, A + 0, 0, ⟨a, zs, rfl, la.seq g, by rw [hl, ts.length]; exact hz.2, rfl, rfl⟩, t.append ts, T.non, fun b x => by simp only [add_at, zero_at]; omega⟩
      · cases h
    | [], h => cases h
    | [.non], h => cases h
    | [.bl _], h => cases h
    | [.int _], h => cases h
    | [.str _], h => cases h
    | [.tup _], h => cases h
    | [.dct _ _], h => cases h
    | [.ins _ _ _], h => cases h
    | _ :: _ :: _, h => simp [mmD] at h
  | insert =>
    match ds, h with
    | [.int i, y], h =>
      have h : (if 0 ≤ i ∧ i ≤ xs.length ∧ xs.length < sizeLine then some (xs.take i.toNat ++ y :: xs.drop i.toNat, D.non) else none) = some (xs', d) := h
      split at h
      · rename_i hz
        cases h
        unfold Ts at tu
        obtain ⟨ui, ur, B1, B2, rfl, ti, tu, rfl⟩ := tu
        obtain ⟨u, rfl, ty⟩ := tu.un1
        cases ti.int1
        obtain ⟨A1, A2, rfl, t1, t2⟩ := t.split i.toNat
        refine ⟨vs.take i.toNat ++ [u] ++ vs.drop i.toNat, .non, A1 + B2 + A2, 0, ⟨i, u, rfl, hz.1, by rw [hl]; exact hz.2.1, by rw [hl]; exact hz.2.2, rfl, rfl⟩, ?_, T.non, fun b x => by simp only [add_at, zero_at]; omega⟩
        have := (t1.append (Ts.one ty)).append t2
        rw [List.append_assoc] at this
        exact this
      · cases h
    | [], h => simp [mmD] at h
    | [_], h => simp [mmD] at h
    | _ :: _ :: _ :: _, h => simp [mmD] at h
    | [.non, _], h => simp [mmD] at h
    | [.bl _, _], h => simp [mmD] at h
    | [.str _, _], h => simp [mmD] at h
    | [.tup _, _], h => simp [mmD] at h
    | [.lst _ _, _], h => simp [mmD] at h
    | [.dct _ _, _], h => simp [mmD] at h
    | [.ins _ _ _, _], h => simp [mmD] at h
  | pop =>
    match ds, h with
    | [], h =>
      have h : (xs[xs.length - 1]?).map (fun d => (xs.dropLast, d)) = some (xs', d) := h
      obtain ⟨y, hy, e⟩ := Option.map_eq_some_iff.mp h
      cases e
      obtain ⟨v, A1, A2, e1, rfl, ty, t2⟩ := t.erase hy
      unfold Ts at tu
      obtain ⟨rfl, rfl⟩ := tu
      refine ⟨vs.dropLast, v, A2, A1, ⟨rfl, by rw [hl]; exact e1, rfl⟩, ?_, ty, fun b x => by simp only [add_at, zero_at]; omega⟩
      rw [last_erase, last_erase, hl]
      exact t2
    | _ :: _, h => simp [mmD] at h
  | popAt =>
    match ds, h with
    | [.int i], h =>
      have h : (ixN xs.length i).bind (fun n => (xs[n]?).map fun d => (xs.eraseIdx n, d)) = some (xs', d) := h
      cases hn : ixN xs.length i with
      | none => rw [hn] at h; cases h
      | some n =>
        rw [hn] at h
        obtain ⟨y, hy, e⟩ := Option.map_eq_some_iff.mp (show (xs[n]?).map (fun d => (xs.eraseIdx n, d)) = some (xs', d) from h)
        cases e
        obtain ⟨v, A1, A2, e1, rfl, ty, t2⟩ := t.erase hy
        obtain ⟨u, rfl, ti⟩ := tu.un1
        cases ti.int1
        exact ⟨vs.eraseIdx n, v, A2, A1, ⟨i, n, rfl, by rw [hl]; exact hn, e1, rfl⟩, t2, ty, fun b x => by simp only [add_at]; omega⟩
    | [], h => simp [mmD] at h
    | _ :: _ :: _, h => simp [mmD] at h
    | [.non], h => simp [mmD] at h
    | [.bl _], h => simp [mmD] at h
    | [.str _], h => simp [mmD] at h
    | [.tup _], h => simp [mmD] at h
    | [.lst _ _], h => simp [mmD] at h
    | [.dct _ _], h => simp [mmD] at h
    | [.ins _ _ _], h => simp [mmD] at h
end

section
variable {cl : Str → Option Addr} {G : Str → Option D} {C : CT} {X : Cx} {W : WX}
theorem mm_end {m : MM} {q : Bool} {w0 w : Hs} {A0 A B CC : Ft} {ρ0 ρ : Env} {σ : Sg} {Q : VK} {pp : Pl} {x : V} {us : List V} {ds : List D} (hq : q = false)
    (h : oG X.K cl (lyV X.K cl) q w0 A0 ρ0 σ (match getE ρ pp with
      | some (.lst .own xs) => (match mmD m xs ds with
        | some (xs', d) => .ok (d, none) (setE ρ pp (.lst .own xs'))
        | none => .bad)
      | _ => .bad) Q W) (a : At (K := X.K) (cl := cl) q w0 A0 ρ0 σ w A (B + CC) ρ) (f : ∀ d, getE ρ pp = some d → Foc X.K cl w ρ σ A pp d x) (tu : Ts X.K cl w ds us B) : rMM X.K m x us w.H Q := by
  cases hg : getE ρ pp with
  | none => rw [hg] at h; exact (show False from h).elim
  | some d0 =>
    rw [hg] at h
    cases d0 with
    | lst o xs =>
      cases o with
      | own =>
        cases hm : mmD m xs ds with
        | none => dsimp only at h; rw [hm] at h; exact (show False from h).elim
        | some r =>
          obtain ⟨xs', d⟩ := r
          dsimp only at h
          rw [hm] at h
          obtain ⟨_, _, A1, Ar, t, rfl, back⟩ := f _ hg
          unfold T at t
          obtain ⟨l, vs, E, rfl, hl, ts, rfl⟩ := t
          have hl : w.H l = some (.lst vs) := hl
          obtain ⟨vs', v, A', B', mr, t1, t2, le⟩ := mm_ok a.gd hm ts tu
          have hown : 0 < ((E + foO l .own) + Ar + (B + CC)) l true := by
            have := foO_own l E
            simp only [add_at] at this ⊢; omega
          have g1 := a.gd.one l true
          have gl : fo1 l true l true = 1 := by rw [one_at, if_pos ⟨rfl, rfl⟩]
          have le1 := le l true
          have z1 : A' l true = 0 ∧ B' l true = 0 ∧ Ar l true = 0 := by
            have e0 : foO l .own l true = fo1 l true l true := rfl
            simp only [add_at] at g1 le1
            rw [e0, gl] at g1
            omega
          refine ⟨l, vs, vs', v, rfl, hl, mr, ?_⟩
          have T3 : T X.K cl (w.wr l (.lst vs')) (.lst .own xs') (.ref l) (A' + foO l .own) := by
            unfold T
            exact ⟨l, vs', A', rfl, upd_same, Ts.keep _ _ _ (wr_kp z1.1) t1, rfl⟩
          refine h (w.wr l (.lst vs')) ((A' + foO l .own) + Ar) B' v ?_ (back _ _ _ T3 (wr_kp z1.2.2)) (T.keep _ _ _ (wr_kp z1.2.1) t2) ?_ (fun z => by rw [hq] at z; cases z)
          · exact (wr_gd a.gd hown).sub fun b y => by have := le b y; simp only [add_at] at this ⊢; omega
          · exact (a.ext.trans (wr_ext hown)).weak fun b y z => by have := le b y; simp only [add_at] at this z ⊢; omega
      | lent => exact (show False from h).elim
      | frz => exact (show False from h).elim
    | _ => exact (show False from h).elim
theorem lst_ty {w : Hs} {A B : Ft} {d : D} {x : V} (g : Gd w A) (t : T X.K cl w d x B) (h : isLst d = true) : tyV X.K "list" x w.H := by
  cases d <;> first | exact absurd h Bool.false_ne_true | skip
  obtain ⟨a, vs, _, rfl, sq, _⟩ := t.list g
  exact .inl ⟨rfl, vs, sq⟩
theorem evs_nil (ρ : Env) : evs C G .nil ρ = .ok [] ρ := by unfold evs; rfl
theorem s_mm (m : MM) (o as : E) (iho : SndE cl G C o) (iha : SndL cl G C as) : SndE cl G C (.mm m o as) := fun X W L tk t hc => by
  cases t <;> first | (simp [chk] at hc; done) | skip
  rename_i fn es ks p
  cases fn <;> first | (cases es <;> simp [chk] at hc; done) | skip
  rename_i o' g ap
  cases ks with
  | cons _ _ => cases es <;> simp [chk] at hc
  | nil =>
    unfold chk at hc
    simp only [Bool.and_eq_true, decide_eq_true_eq] at hc
    obtain ⟨⟨⟨⟨⟨⟨rfl, ho⟩, hb⟩, ha⟩, hl⟩, hn⟩, hpop⟩ := hc
    have pl := chks_plain ha
    -- behind the receiver and the arguments
    have fin : ∀ {w : Hs} {A : Ft} {ρ : Env} {σ : Sg} {Q : VK} (h : oG X.K cl (lyV X.K cl) (qt (.mm m o as)) w A ρ σ (ev C G (.mm m o as) ρ) Q W) (g : Gd w A) (e : Es X.K cl w ρ σ A),
        oG X.K cl (lyV X.K cl) (qt o) w A ρ σ (ev C G o ρ) (fun x H1 => tyV X.K "list" x H1 ∧ tG X.K cl (lyL X.K cl) (qt as) (evs C G as) W σ H1 fun us H2 => rMM X.K m x us H2 Q) W := by
      intro w A ρ σ Q h g e
      rw [show ev C G (.mm m o as) ρ = (ev C G o ρ).bind fun (d, p) ρ1 => if isLst d then (match p with
        | some (.var i) => (evs C G as ρ1).bind fun ds ρ2 => (match slot ρ2 i with
          | some (.lst .own xs) => (match mmD m xs ds with
            | some (xs', d) => .ok (d, none) (ρ2.set i (some (.lst .own xs')))
            | none => .bad)
          | _ => .bad)
        | some pp => if qt as then (evs C G as ρ1).bind fun ds ρ2 => (match getE ρ2 pp with
          | some (.lst .own xs) => (match mmD m xs ds with
            | some (xs', d) => .ok (d, none) (setE ρ2 pp (.lst .own xs'))
            | none => .bad)
          | _ => .bad) else .bad
        | none => .bad) else .bad from by rw [ev] <;> rfl] at h
      refine h.bind (.start g e) (fun z => by cases z) fun x ρ1 w1 A1 B1 b1 a1 kp g1 x1 l1 k1 h1 => ?_
      obtain ⟨d, pl⟩ := x
      dsimp only at h1
      split at h1
      · rename_i hd
        obtain ⟨Bd, td⟩ := l1.tree
        refine ⟨lst_ty a1.gd td hd, ?_⟩
        cases pl with
        | none => exact (show False from h1).elim
        | some pp =>
          cases pp with
          | var i =>
            obtain ⟨rfl, fc⟩ := l1
            have hv : σ[i]? = some (some b1) := fc.2.1
            refine ⟨w1, A1, ρ1, rfl, a1.gd.left, a1.es, oG.bind h1 a1 (fun z => by cases z) fun ds ρ2 w2 A2 B2 us a2 kp2 g2 x2 l2 k2 h2 => ?_⟩
            refine mm_end (pp := .var i) rfl h2 a2 (fun d0 hd0 => ?_) l2
            obtain ⟨v', e1, f⟩ := Es.var hd0 a2.es
            rw [hv] at e1
            cases e1
            exact f
          | stp pp ss =>
            dsimp only at h1
            split at h1
            · rename_i hq
              refine ⟨w1, A1, ρ1, rfl, a1.gd.left, a1.es, oG.bind h1 a1 (fun z => by cases z) fun ds ρ2 w2 A2 B2 us a2 kp2 g2 x2 l2 k2 h2 => ?_⟩
              have f2 := lyV.holdF (ρ2 := ρ2) (A2 := A2) l1 hq k2
              refine mm_end (pp := .stp pp ss) rfl h2 a2 (fun d0 hd0 => ?_) l2
              have := f2.1
              rw [hd0] at this
              cases this
              exact f2
            · exact (show False from h1).elim
      · exact (show False from h1).elim
    cases es with
    | nil =>
      have hm : m = .pop := by simpa using hpop
      subst hm
      have has : as = .nil := by cases as <;> first | rfl | (simp [chks] at ha; done)
      subst has
      refine PE.weak (pe_mm0 (iho X W L tk o' ho) (base_of hb) hl) fun σ H Q h => ?_
      obtain ⟨w, A, ρ, rfl, g, e, h⟩ := h
      refine ⟨w, A, ρ, rfl, g, e, ?_⟩
      have h2 := fin h g e
      refine oG.imp h2 fun x H1 ⟨q1, w', A', ρ', hw, g', e', q2⟩ => ⟨q1, ?_⟩
      rw [evs_nil] at q2
      subst hw
      exact q2 w' A' 0 [] (by rw [add0]; exact g') e' (show Ts X.K cl w' [] [] 0 from by unfold Ts; exact ⟨rfl, rfl⟩) (by rw [add0]; exact .refl _ _) (fun _ => ⟨rfl, rfl, .refl _ _⟩)
    | cons e es =>
      have hm : m ≠ .pop := by simpa using hpop
      refine PE.weak (pe_mm (iho X W L tk o' ho) (iha X W L tk (e :: es) ha) (base_of hb) pl hl hn hm) fun σ H Q h => ?_
      obtain ⟨w, A, ρ, rfl, g, e, h⟩ := h
      exact ⟨w, A, ρ, rfl, g, e, fin h g e⟩
end
end Ev

/-! Ev, part O: targets, what is walked. -/
namespace Ev
open PySem PySem.Spec PyProof.Rows L2

/-! ### targets -/
section
variable (K : PySem.W.Frag) (cl : Str → Option Addr)
def tBd (t : E) : TG := fun v σ H Q => ∃ w A B ρ d ρ', w.H = H ∧ Gd w (A + B) ∧ Es K cl w ρ σ A ∧ T K cl w d v B ∧ bindT t d ρ = some ρ' ∧
  ∀ σ' A', (∀ b y, A' b y ≤ (A + B) b y) → Es K cl w ρ' σ' A' → (∀ i, i ∉ asgT t → σ'[i]? = σ[i]?) → Q σ' w.H
def tBds (ts : E) : TGs := fun vs σ H Q => ∃ w A B ρ ds ρ', w.H = H ∧ Gd w (A + B) ∧ Es K cl w ρ σ A ∧ Ts K cl w ds vs B ∧ bindT.bindTs ts ds ρ = some ρ' ∧
  ∀ σ' A', (∀ b y, A' b y ≤ (A + B) b y) → Es K cl w ρ' σ' A' → (∀ i, i ∉ asgT ts → σ'[i]? = σ[i]?) → Q σ' w.H
end
section
variable {cl : Str → Option Addr} {X : Cx}
theorem asg1 {e : Expr} {es : List Expr} (h : plainE e = true) : (assignEach (e :: es) X.env).map (·.2) = assign e X.env :: (assignEach es X.env).map (·.2) := by
  cases e <;> first | exact absurd h Bool.false_ne_true | rfl
theorem asg_len : ∀ {es : List Expr}, es.all plainE = true → (assignEach es X.env).length = es.length
  | [], _ => rfl
  | e :: es, h => by
    rw [List.all_cons, Bool.and_eq_true] at h
    have ih := asg_len (es := es) h.2
    have h1 := h.1
    cases e <;> first | exact absurd h1 Bool.false_ne_true | (show (assignEach es X.env).length + 1 = _; rw [ih]; rfl)
theorem asg_idx : ∀ {es : List Expr}, es.all plainE = true → (assignEach es X.env).findIdx? (·.1) = none
  | [], _ => rfl
  | e :: es, h => by
    rw [List.all_cons, Bool.and_eq_true] at h
    have ih := asg_idx (es := es) h.2
    have h1 := h.1
    cases e <;> first | exact absurd h1 Bool.false_ne_true | (show List.findIdx? (·.1) ((false, _) :: assignEach es X.env) = none; rw [List.findIdx?_cons, ih]; rfl)
theorem chkTs_plain {N : List Str} {sc : Scope} : ∀ {ts : List Expr} {e : E}, chkT.chkTs N sc e ts = true → ts.all plainE = true
  | [], _, _ => rfl
  | t :: ts, e, h => by
    cases e <;> first | (simp [chkT.chkTs] at h; done) | skip
    unfold chkT.chkTs at h
    simp only [Bool.and_eq_true] at h
    rw [List.all_cons, h.1.2, chkTs_plain h.2]; rfl
theorem bds_len {N : List Str} {sc : Scope} : ∀ {es : E} {ts : List Expr} {ds : List D} {ρ ρ' : Env}, chkT.chkTs N sc es ts = true → bindT.bindTs es ds ρ = some ρ' → ds.length = ts.length := by
  intro es
  induction es with
  | nil =>
    intro ts ds ρ ρ' h b
    cases ts <;> first | (simp [chkT.chkTs] at h; done) | skip
    cases ds <;> first | rfl | (cases b; done)
  | cons a r iha ihr =>
    intro ts ds ρ ρ' h b
    cases ts with
    | nil => simp [chkT.chkTs] at h
    | cons t ts =>
      cases ds with
      | nil => cases b
      | cons d ds =>
        unfold chkT.chkTs at h
        simp only [Bool.and_eq_true] at h
        have hb : (bindT a d ρ).bind (fun ρ' => bindT.bindTs r ds ρ') = some ρ' := b
        obtain ⟨ρ1, h1, h2⟩ := Option.bind_eq_some_iff.mp hb
        rw [List.length_cons, List.length_cons, ihr h.2 h2]
  | _ => intro ts ds ρ ρ' h b; cases ts <;> simp [chkT.chkTs] at h
theorem s_bdA (L1 : X.N.Nodup) (L2 : X.calm = true) (raw : Scope) (hst : ∀ x, (raw.names.lookup x = some .local ∨ raw.names.lookup x = some .cell) → X.fn x = true ∨ X.env.scope.names.lookup x = some .local) :
    ∀ e : E, (∀ t : Expr, chkT X.N X.env.scope e t = true → stB raw t = true → PG X t (tBd X.K cl e)) ∧ (∀ ts : List Expr, chkT.chkTs X.N X.env.scope e ts = true → stB.go raw ts = true → PGs X ts (tBds X.K cl e)) := by
  intro e
  induction e with
  | v i =>
    refine ⟨fun t hc hs => ?_, fun ts hc _ => absurd hc (by cases ts <;> simp [chkT.chkTs])⟩
    cases t <;> first | (simp [chkT] at hc; done) | skip
    rename_i x p
    unfold chkT at hc
    simp only [Bool.and_eq_true, decide_eq_true_eq] at hc
    have hl : Loc X.env.scope x := by
      have := hc.1.2
      unfold locB at this
      simp only [Bool.or_eq_true, decide_eq_true_eq] at this
      exact this
    have hs' : raw.names.lookup x = some .local ∨ raw.names.lookup x = some .cell := by
      unfold stB at hs
      simp only [Bool.or_eq_true, decide_eq_true_eq] at hs
      exact hs
    refine ⟨fun pins s σ H v u Q I r h => (pg_name L1 hc.1.1 hl (hst x hs')).run pins s σ H v u Q I r ?_⟩
    obtain ⟨w, A, B, ρ, d, ρ', rfl, g, es, t, hb, k⟩ := h
    have hb : (if i < ρ.length then some (ρ.set i (some d)) else none) = some ρ' := hb
    split at hb
    · rename_i hi
      cases hb
      obtain ⟨C, hC, es'⟩ := Es.store hi t es
      refine k (σ.set i (some v)) C hC es' fun j hj => ?_
      have hj : j ∉ [i] := hj
      rw [List.getElem?_set_ne (fun z => hj (by rw [z]; simp))]
    · cases hb
  | tup es ih =>
    refine ⟨fun t hc hs => ?_, fun ts hc _ => absurd hc (by cases ts <;> simp [chkT.chkTs])⟩
    cases t <;> first | (simp [chkT] at hc; done) | skip
    rename_i ts k p
    unfold chkT at hc
    simp only [Bool.and_eq_true, decide_eq_true_eq] at hc
    have pl := chkTs_plain hc.1
    have gs := ih.2 ts hc.1 (by unfold stB at hs; exact hs)
    refine ⟨fun pins s σ H v u Q I r h => (pg_tup (n := ts.length) L2 gs (asg_len pl) (asg_idx pl)).run pins s σ H v u Q I r ?_⟩
    obtain ⟨w, A, B, ρ, d, ρ', rfl, g, e, t, hb, kk⟩ := h
    cases d <;> first | (cases hb; done) | skip
    rename_i ds
    have hb : bindT.bindTs es ds ρ = some ρ' := hb
    obtain ⟨a, vs, rfl, sq, tt⟩ := t.tuple g
    refine ⟨a, vs, rfl, sq, ?_, w, A, B, ρ, ds, ρ', rfl, g, e, tt, hb, kk⟩
    rw [tt.length]
    exact bds_len hc.1 hb
  | nil =>
    refine ⟨fun t hc _ => absurd hc (by cases t <;> simp [chkT]), fun ts hc hs => ?_⟩
    cases ts <;> first | (simp [chkT.chkTs] at hc; done) | skip
    refine ⟨fun pins s σ H vs us Q I r h => pgs_nil.run pins s σ H vs us Q I r ?_⟩
    obtain ⟨w, A, B, ρ, ds, ρ', rfl, g, e, t, hb, kk⟩ := h
    cases ds with
    | cons _ _ => cases hb
    | nil =>
      have hb : some ρ = some ρ' := hb
      cases hb
      unfold Ts at t
      obtain ⟨rfl, rfl⟩ := t
      exact ⟨rfl, kk σ A (fun b y => by rw [add0]; exact Nat.le_refl _) e fun _ _ => rfl⟩
  | cons a r iha ihr =>
    refine ⟨fun t hc _ => absurd hc (by cases t <;> simp [chkT]), fun ts hc hs => ?_⟩
    cases ts with
    | nil => simp [chkT.chkTs] at hc
    | cons t ts =>
      unfold chkT.chkTs at hc
      simp only [Bool.and_eq_true] at hc
      unfold stB.go at hs
      rw [Bool.and_eq_true] at hs
      have g1 := iha.1 t hc.1.1 hs.1
      have g2 := ihr.2 ts hc.2 hs.2
      refine ⟨fun pins s σ H vs us Q I rr h => (pgs_cons g1 g2 (asg1 hc.1.2)).run pins s σ H vs us Q I rr ?_⟩
      obtain ⟨w, A, B, ρ, ds, ρ', rfl, g, e, tt, hb, kk⟩ := h
      cases ds with
      | nil => cases hb
      | cons d ds =>
        have hb : (bindT a d ρ).bind (fun ρ' => bindT.bindTs r ds ρ') = some ρ' := hb
        obtain ⟨ρ1, h1, h2⟩ := Option.bind_eq_some_iff.mp hb
        unfold Ts at tt
        obtain ⟨v, vr, B1, B2, rfl, t1, t2, rfl⟩ := tt
        refine ⟨v, vr, rfl, w, A, B1, ρ, d, ρ1, rfl, g.sub fun b y => by simp only [add_at]; omega, e, t1, h1, fun σ1 A1 hA es1 st1 => ?_⟩
        refine ⟨w, A1, B2, ρ1, ds, ρ', rfl, g.sub fun b y => by have := hA b y; simp only [add_at] at this ⊢; omega, es1, t2, h2, fun σ2 A2 hA2 es2 st2 => ?_⟩
        refine kk σ2 A2 (fun b y => by have := hA b y; have := hA2 b y; simp only [add_at] at *; omega) es2 fun i hi => ?_
        have hi : i ∉ asgT a ++ asgT r := hi
        rw [List.mem_append, not_or] at hi
        rw [st2 i hi.2, st1 i hi.1]
  | _ => exact ⟨fun t hc _ => absurd hc (by cases t <;> simp [chkT]), fun ts hc _ => absurd hc (by cases ts <;> simp [chkT.chkTs])⟩
end
end Ev

/-! Ev, part P: what is walked. -/
namespace Ev
open PySem PySem.Spec PyProof.Rows L2

section
variable (K : PySem.W.Frag) (cl : Str → Option Addr)
/-- J walks the items ds, where B is kept from w on -/
structure WalkJ (w : Hs) (B : Ft) (J : It) (ds : List D) : Prop where
  stop : ∀ w1 A, Kp w w1 B → Gd w1 A → J.stop ds.length w1.H
  go : ∀ i w1 A, Kp w w1 B → Gd w1 A → i < ds.length → J.go i w1.H
  yld : ∀ i d w1 A x H', Kp w w1 B → Gd w1 A → ds[i]? = some d → J.yld i w1.H x H' → ∃ w2, w2.H = H' ∧ Gd w2 A ∧ Ext w1 A w2 A ∧ (∀ C, Kp w1 w2 C) ∧ T K cl w2 d x 0
/-- the names' trees that were taken away -/
def LentOk (w : Hs) (σ : Sg) : List (Nat × D) → Ft → Prop
  | [], B => B = 0
  | (i, d) :: r, B => ∃ v B1 B2, σ[i]? = some (some v) ∧ T K cl w d v B1 ∧ LentOk w σ r B2 ∧ B = B1 + B2
/-- a sequence to be walked -/
structure SeqW (w : Hs) (B : Ft) (tup : Bool) (a : Addr) (vs : List V) (ds : List D) : Prop where
  at_ : ∀ w1 A, Kp w w1 B → Gd w1 A → if tup then SqT K w1.H a vs else SqL K w1.H a vs
  its : Ts K cl w ds vs 0
def lyW : Ly Wk It := fun w _ σ _ wk J B => WalkJ K cl w B J wk.ds ∧ LentOk K cl w σ wk.lent B
end
section
variable {K : PySem.W.Frag} {cl : Str → Option Addr} {w w1 : Hs}
theorem LentOk.keep : ∀ {l : List (Nat × D)} {σ σ' : Sg} {B : Ft}, Kp w w1 B → (∀ p ∈ l, σ'[p.1]? = σ[p.1]?) → LentOk K cl w σ l B → LentOk K cl w1 σ' l B
  | [], _, _, _, _, _, h => h
  | (i, d) :: r, σ, σ', B, k, hs, h => by
    obtain ⟨v, B1, B2, e, t, h, rfl⟩ := h
    exact ⟨v, B1, B2, by rw [hs (i, d) (by simp)]; exact e, T.keep _ _ _ k.left t, LentOk.keep k.right (fun p hp => hs p (List.mem_cons_of_mem _ hp)) h, rfl⟩
theorem unlend_len : ∀ {l : List (Nat × D)} {ρ : Env}, (unlend ρ l).length = ρ.length
  | [], _ => rfl
  | (i, d) :: r, ρ => by show ((unlend ρ r).set i (some d)).length = _; rw [List.length_set, unlend_len]
/-- the trees are put back -/
theorem LentOk.back : ∀ {l : List (Nat × D)} {ρ : Env} {σ : Sg} {A B : Ft}, Es K cl w ρ σ A → LentOk K cl w σ l B → ∃ C, (∀ b x, C b x ≤ (A + B) b x) ∧ Es K cl w (unlend ρ l) σ C
  | [], ρ, σ, A, B, e, h => ⟨A, fun b x => by rw [add_at]; omega, e⟩
  | (i, d) :: r, ρ, σ, A, B, e, h => by
    obtain ⟨v, B1, B2, hv, t, h, rfl⟩ := h
    obtain ⟨C, hC, e2⟩ := LentOk.back e h
    have hi : i < (unlend ρ r).length := by
      rw [← Es.length e2]
      exact (List.getElem?_eq_some_iff.mp hv).1
    obtain ⟨C2, hC2, e3⟩ := Es.store hi t e2
    rw [set_same hv] at e3
    exact ⟨C2, fun b x => by have := hC b x; have := hC2 b x; simp only [add_at] at *; omega, e3⟩
theorem Ts.at0 {ds : List D} {vs : List V} {i : Nat} {d : D} {v : V} (h : Ts K cl w ds vs 0) (e : ds[i]? = some d) (ev : vs[i]? = some v) : T K cl w d v 0 := by
  obtain ⟨v', A1, Ar, e1, t, e2, _⟩ := Ts.foc e h
  rw [ev] at e1
  cases e1
  have : A1 = 0 := ft_ext fun b x => by have := congrFun (congrFun e2 b) x; rw [add_at, zero_at] at this; rw [zero_at]; omega
  rw [this] at t
  exact t
theorem kp_0 {A : Ft} (k : Kp w w1 A) : Kp w w1 0 := k.sub fun b x h => by rw [zero_at] at h; omega
theorem walk_list {B : Ft} {a : Addr} {vs : List V} {ds : List D} (h : SeqW K cl w B false a vs ds) : WalkJ K cl w B (Itl K a) ds := by
  have hl := h.its.length
  refine ⟨fun w1 A k g => ⟨vs, h.at_ w1 A k g, by omega⟩, fun i w1 A k g hi => ⟨vs, vs[i], h.at_ w1 A k g, by simp⟩, fun i d w1 A x H' k g e y => ?_⟩
  obtain ⟨rfl, y⟩ := y
  have ev := y vs (h.at_ w1 A k g)
  exact ⟨w1, rfl, g, .refl _ _, fun C => .refl _ _, T.keep _ _ _ (kp_0 k) (h.its.at0 e ev)⟩
theorem walk_tup {B : Ft} {a : Addr} {vs : List V} {ds : List D} (h : SeqW K cl w B true a vs ds) : WalkJ K cl w B (Itt K a) ds := by
  have hl := h.its.length
  refine ⟨fun w1 A k g => ⟨vs, h.at_ w1 A k g, by omega⟩, fun i w1 A k g hi => ⟨vs, vs[i], h.at_ w1 A k g, by simp⟩, fun i d w1 A x H' k g e y => ?_⟩
  obtain ⟨rfl, y⟩ := y
  have ev := y vs (h.at_ w1 A k g)
  exact ⟨w1, rfl, g, .refl _ _, fun C => .refl _ _, T.keep _ _ _ (kp_0 k) (h.its.at0 e ev)⟩
theorem walk_range {B : Ft} (lo : Int) (n : Nat) : WalkJ K cl w B (Itr lo n) (rangeI lo 1 n) := by
  have hl : (rangeI lo 1 n).length = n := by unfold rangeI; rw [List.length_map, List.length_range]
  refine ⟨fun w1 A k g => by rw [hl]; exact Nat.le_refl _, fun i w1 A k g hi => by rw [hl] at hi; exact hi, fun i d w1 A x H' k g e y => ?_⟩
  obtain ⟨rfl, rfl⟩ := y
  refine ⟨w1, rfl, g, .refl _ _, fun C => .refl _ _, ?_⟩
  unfold rangeI at e
  rw [List.getElem?_map] at e
  obtain ⟨k, hk, rfl⟩ := Option.map_eq_some_iff.mp e
  have := List.getElem?_eq_some_iff.mp hk
  obtain ⟨h1, h2⟩ := this
  rw [List.getElem_range] at h2
  subst h2
  rw [Int.mul_one]
  exact T.int
theorem walk_rangeC {B : Ft} (lo c : Int) (n : Nat) : WalkJ K cl w B (Itc lo c n) (rangeI lo c n) := by
  have hl : (rangeI lo c n).length = n := by unfold rangeI; rw [List.length_map, List.length_range]
  refine ⟨fun w1 A k g => by rw [hl]; exact Nat.le_refl _, fun i w1 A k g hi => by rw [hl] at hi; exact hi, fun i d w1 A x H' k g e y => ?_⟩
  obtain ⟨rfl, rfl⟩ := y
  refine ⟨w1, rfl, g, .refl _ _, fun C => .refl _ _, ?_⟩
  unfold rangeI at e
  rw [List.getElem?_map] at e
  obtain ⟨k, hk, rfl⟩ := Option.map_eq_some_iff.mp e
  have := List.getElem?_eq_some_iff.mp hk
  obtain ⟨h1, h2⟩ := this
  rw [List.getElem_range] at h2
  subst h2
  exact T.int
theorem pair_yld {A : Ft} {p : Addr} {d1 d2 : D} {v1 v2 : V} (g : Gd w A) (hp : w.H p = none) (t1 : T K cl w d1 v1 0) (t2 : T K cl w d2 v2 0) :
    ∃ w2, w2.H = upd w.H p (.tup [v1, v2]) ∧ Gd w2 A ∧ Ext w A w2 A ∧ (∀ C, Kp w w2 C) ∧ T K cl w2 (.tup [d1, d2]) (.ref p) 0 := by
  refine ⟨w.newT p (.tup [v1, v2]), rfl, newT_gd g hp, newT_ext g hp, fun C => newT_kp g hp, T.newT g hp ?_⟩
  unfold Ts
  exact ⟨v1, [v2], 0, 0, rfl, t1, Ts.one t2, (add0 _).symm⟩
theorem enum_at {ds : List D} {i : Nat} {d : D} (h : (enumD ds)[i]? = some d) : ∃ y, ds[i]? = some y ∧ d = .tup [.int (i : Nat), y] := by
  unfold enumD at h
  rw [List.getElem?_map] at h
  obtain ⟨p, hp, rfl⟩ := Option.map_eq_some_iff.mp h
  rw [List.getElem?_zipIdx] at hp
  obtain ⟨y, hy, rfl⟩ := Option.map_eq_some_iff.mp hp
  exact ⟨y, hy, by simp⟩
theorem enum_len (ds : List D) : (enumD ds).length = ds.length := by unfold enumD; rw [List.length_map, List.length_zipIdx]
theorem walk_enum {B : Ft} {a : Addr} {vs : List V} {ds : List D} (h : SeqW K cl w B false a vs ds) : WalkJ K cl w B (Ite K a) (enumD ds) := by
  have hl := h.its.length
  refine ⟨fun w1 A k g => ⟨vs, h.at_ w1 A k g, by rw [enum_len]; omega⟩, fun i w1 A k g hi => ⟨vs, vs[i]'(by rw [enum_len] at hi; omega), h.at_ w1 A k g, by simp⟩, fun i d w1 A x H' k g e y => ?_⟩
  obtain ⟨p, v, rfl, hp, rfl, y⟩ := y
  have ev := y vs (h.at_ w1 A k g)
  obtain ⟨dy, hd, rfl⟩ := enum_at e
  exact pair_yld g hp T.int (T.keep _ _ _ (kp_0 k) (h.its.at0 hd ev))
theorem zip_at {as bs : List D} {i : Nat} {d : D} (h : (zipD as bs)[i]? = some d) : ∃ x y, as[i]? = some x ∧ bs[i]? = some y ∧ d = .tup [x, y] := by
  unfold zipD at h
  rw [List.getElem?_map] at h
  obtain ⟨p, hp, rfl⟩ := Option.map_eq_some_iff.mp h
  rw [List.getElem?_zip_eq_some] at hp
  exact ⟨p.1, p.2, hp.1, hp.2, rfl⟩
theorem zip_len (as bs : List D) : (zipD as bs).length = min as.length bs.length := by unfold zipD; rw [List.length_map, List.length_zip]
theorem walk_zipL {B : Ft} {a b : Addr} {vs us : List V} {ds es : List D} (h : SeqW K cl w B false a vs ds) (h2 : SeqW K cl w B false b us es) : WalkJ K cl w B (Itz K a b) (zipD ds es) := by
  have hl := h.its.length
  have hl2 := h2.its.length
  refine ⟨fun w1 A k g => ⟨vs, us, h.at_ w1 A k g, h2.at_ w1 A k g, by rw [zip_len]; omega⟩, fun i w1 A k g hi => ?_, fun i d w1 A x H' k g e y => ?_⟩
  · rw [zip_len] at hi
    exact ⟨vs, us, vs[i]'(by omega), us[i]'(by omega), h.at_ w1 A k g, h2.at_ w1 A k g, by simp, by simp⟩
  · obtain ⟨p, v, u, rfl, hp, rfl, y1, y2⟩ := y
    have ev := y1 vs (h.at_ w1 A k g)
    have eu := y2 us (h2.at_ w1 A k g)
    obtain ⟨dx, dy, h3, h4, rfl⟩ := zip_at e
    exact pair_yld g hp (T.keep _ _ _ (kp_0 k) (h.its.at0 h3 ev)) (T.keep _ _ _ (kp_0 k) (h2.its.at0 h4 eu))
theorem walk_zipT {B : Ft} {a b : Addr} {vs us : List V} {ds es : List D} (h : SeqW K cl w B true a vs ds) (h2 : SeqW K cl w B true b us es) : WalkJ K cl w B (RZ.ItzT K a b) (zipD ds es) := by
  have hl := h.its.length
  have hl2 := h2.its.length
  refine ⟨fun w1 A k g => ⟨vs, us, h.at_ w1 A k g, h2.at_ w1 A k g, by rw [zip_len]; omega⟩, fun i w1 A k g hi => ?_, fun i d w1 A x H' k g e y => ?_⟩
  · rw [zip_len] at hi
    exact ⟨vs, us, vs[i]'(by omega), us[i]'(by omega), h.at_ w1 A k g, h2.at_ w1 A k g, by simp, by simp⟩
  · obtain ⟨p, v, u, rfl, hp, rfl, y1, y2⟩ := y
    have ev := y1 vs (h.at_ w1 A k g)
    have eu := y2 us (h2.at_ w1 A k g)
    obtain ⟨dx, dy, h3, h4, rfl⟩ := zip_at e
    exact pair_yld g hp (T.keep _ _ _ (kp_0 k) (h.its.at0 h3 ev)) (T.keep _ _ _ (kp_0 k) (h2.its.at0 h4 eu))
theorem SeqW.more {B C : Ft} {t : Bool} {a : Addr} {vs : List V} {ds : List D} (h : SeqW K cl w B t a vs ds) (k : Kp w w1 B) (hB : ∀ b x, 0 < B b x → 0 < C b x) : SeqW K cl w1 C t a vs ds :=
  ⟨fun w2 A k2 g => h.at_ w2 A (k.trans (k2.sub hB)) g, Ts.keep _ _ _ (kp_0 k) h.its⟩
theorem walkD_frz {d : D} {p : Pl} {ρ : Env} (h : isFrz d = true) : walkD d (some p) ρ = liftO ((items d).map fun ds => (⟨ds, []⟩ : Wk)) ρ := if_pos h
theorem walkD_var {d : D} {i : Nat} {ρ : Env} (h : ¬ isFrz d = true) : walkD d (some (.var i)) ρ = match items d with
    | some ds => if frzL ds then .ok ⟨ds, [(i, d)]⟩ (ρ.set i none) else .bad
    | none => .bad := if_neg h
theorem walkD_stp {d : D} {p : Pl} {s : Stp} {ρ : Env} (h : ¬ isFrz d = true) : walkD d (some (.stp p s)) ρ = .bad := if_neg h
theorem walkD_noexc {d : D} {p : Option Pl} {ρ ρ' : Env} {x : Ex} : walkD d p ρ ≠ .exc x ρ' := by
  intro h
  cases p with
  | none =>
    have h : (if canFrz d then liftO ((items (freeze d)).map fun ds => (⟨ds, []⟩ : Wk)) ρ else .bad) = .exc x ρ' := h
    split at h
    · cases hi : items (freeze d) <;> rw [hi] at h <;> cases h
    · cases h
  | some p =>
    by_cases hf : isFrz d = true
    · rw [walkD_frz hf] at h
      cases hi : items d <;> rw [hi] at h <;> cases h
    · cases p with
      | stp pp ss => rw [walkD_stp hf] at h; cases h
      | var i =>
        rw [walkD_var hf] at h
        cases hi : items d with
        | none => rw [hi] at h; cases h
        | some ds =>
          rw [hi] at h
          dsimp only at h
          split at h <;> cases h
/-- a value or a place, ready to be walked -/
theorem walk_at {q : Bool} {w0 : Hs} {A0 A B1 CC : Ft} {ρ0 ρ ρ' : Env} {σ : Sg} {d : D} {pl : Option Pl} {b : V} {wk : Wk} (hq : q = false) (a : At (K := K) (cl := cl) q w0 A0 ρ0 σ w A (B1 + CC) ρ) (l : lyV K cl w ρ σ A (d, pl) b B1) (h : walkD d pl ρ = .ok wk ρ') :
    ∃ w1 A1 B p vs t, w1.H = w.H ∧ At (K := K) (cl := cl) q w0 A0 ρ0 σ w1 A1 (B + CC) ρ' ∧ Kp w w1 CC ∧ b = .ref p ∧ SeqW K cl w1 B t p vs wk.ds ∧ LentOk K cl w1 σ wk.lent B ∧ t = isTupD d := by
  have hlt : ∀ {ds : List D} {f : D} {B' : Ft} {w1 : Hs} {b : V}, items f = some ds → T K cl w1 f b B' → frzL ds = true → (∀ p vs, b = .ref p → (match f with | .tup _ => SqT K w1.F p vs | .lst o _ => LAt K w1 o p vs | _ => False) → Ts K cl w1 ds vs 0 → True) → ∃ p vs, b = .ref p ∧ (match f with | .tup _ => SqT K w1.F p vs | .lst o _ => LAt K w1 o p vs ∧ (o = .own → 0 < B' p true) ∧ (o = .lent → 0 < B' p false) | _ => False) ∧ Ts K cl w1 ds vs 0 := by
    intro ds f B' w1 b hi t hf _
    cases f <;> first | (cases hi; done) | skip
    · cases hi
      unfold T at t
      obtain ⟨p, vs, rfl, sq, ts⟩ := t
      exact ⟨p, vs, rfl, sq, ts.frz hf⟩
    · cases hi
      unfold T at t
      obtain ⟨p, vs, B2, rfl, sq, ts, rfl⟩ := t
      exact ⟨p, vs, rfl, ⟨sq, fun z => by subst z; exact foO_own p B2, fun z => by subst z; exact foO_lent p B2⟩, ts.frz hf⟩
  have seq : ∀ {ds : List D} {f : D} {B' : Ft} {w1 : Hs} {b : V}, items f = some ds → T K cl w1 f b B' → frzL ds = true → ∃ p vs, b = .ref p ∧ SeqW K cl w1 B' (isTupD f) p vs ds := by
    intro ds f B' w1 b hi t hf
    obtain ⟨p, vs, rfl, sq, ts⟩ := hlt hi t hf (fun _ _ _ _ _ => trivial)
    refine ⟨p, vs, rfl, fun w2 A2 k g => ?_, ts⟩
    cases f <;> first | (cases hi; done) | skip
    · exact same_seqT (k.F.trans g.FH) sq
    · rename_i o xs
      obtain ⟨la, h1, h2⟩ := sq
      cases o with
      | own => exact .inl (.inl (k.H p _ (h1 rfl) la))
      | lent => exact .inl (g.RH _ _ (k.R p _ (h2 rfl) la))
      | frz => exact g.FH.seq (k.F.seq la)
  have frzItems : ∀ {f : D} {ds : List D}, isFrz f = true → items f = some ds → frzL ds = true := by
    intro f ds hf hi
    cases f <;> first | (cases hi; done) | skip
    · cases hi; unfold isFrz at hf; exact hf
    · cases hi; unfold isFrz at hf; rw [Bool.and_eq_true] at hf; exact hf.2
  cases pl with
  | none =>
    have h : (if canFrz d then liftO ((items (freeze d)).map fun ds => (⟨ds, []⟩ : Wk)) ρ else .bad) = .ok wk ρ' := h
    split at h
    · rename_i hf
      cases hi : items (freeze d) with
      | none => rw [hi] at h; cases h
      | some ds =>
        rw [hi] at h
        cases h
        have l : T K cl w d b B1 := l
        have g2 : Gd w (B1 + (A + CC)) := a.gd.sub fun b x => by simp only [add_at]; omega
        have tz := T.fz g2.left d b B1 (fun _ z => z) hf l
        have fzz : isFrz (freeze d) = true := freeze_frz d
        obtain ⟨p, vs, e, sw⟩ := seq hi tz (frzItems fzz hi)
        refine ⟨w.fz B1, A, 0, p, vs, _, rfl, ⟨?_, a.es.keep (fz_keep g2).left, ?_, fun z => by rw [hq] at z; cases z⟩, (fz_keep g2).right, e, sw, rfl, ?_⟩
        · exact (fz_gd g2).sub fun b x => by simp only [add_at, zero_at]; omega
        · refine ((a.ext.weak (C := B1 + (A + CC)) fun b x z => by simp only [add_at] at z ⊢; omega).trans (fz_ext g2)).weak fun b x z => by simp only [add_at, zero_at] at z ⊢; omega
        · cases d <;> first | rfl | (cases hi; done)
    · cases h
  | some pl =>
    obtain ⟨rfl, fc⟩ := l
    by_cases hf : isFrz d = true
    · rw [walkD_frz hf] at h
      cases hi : items d with
      | none => rw [hi] at h; cases h
      | some ds =>
        rw [hi] at h
        cases h
        obtain ⟨A', Ar, t, _⟩ := fc.tree
        obtain ⟨p, vs, e, sw⟩ := seq hi (t.frz hf) (frzItems hf hi)
        exact ⟨w, A, 0, p, vs, _, rfl, a, .refl _ _, e, sw, rfl, rfl⟩
    · cases pl with
      | stp pp ss => rw [walkD_stp hf] at h; cases h
      | var i =>
        rw [walkD_var hf] at h
        cases hi : items d with
        | none => rw [hi] at h; cases h
        | some ds =>
          rw [hi] at h
          dsimp only at h
          split at h
          · rename_i hf
            cases h
            have hv : σ[i]? = some (some b) := fc.2.1
            have hs : slot ρ i = some d := fc.1
            obtain ⟨v, A1, Ar, e1, t, rfl, es⟩ := Es.out hs a.es
            rw [hv] at e1
            cases e1
            obtain ⟨p, vs, e, sw⟩ := seq hi t hf
            refine ⟨w, Ar, A1, p, vs, _, rfl, ⟨?_, es, ?_, fun z => by rw [hq] at z; cases z⟩, .refl _ _, e, sw, ⟨b, A1, 0, hv, t, rfl, (add0 _).symm⟩, rfl⟩
            · exact a.gd.sub fun b x => by simp only [add_at, zero_at]; omega
            · exact a.ext.weak fun b x z => by simp only [add_at, zero_at] at z ⊢; omega
          · cases h
end
end Ev

/-! Ev, part Q: what is walked, by the text. -/
namespace Ev
open PySem PySem.Spec PyProof.Rows L2

section
variable (cl : Str → Option Addr) (G : Str → Option D) (C : CT)
def SndW (e : E) : Prop := ∀ (X : Cx) (W : WX) (L : Lib cl G C X) (tk : Takes X W) (tp : Bool) (t : Expr), chkW X.N X.env.scope tp e t = true → ∀ tg, (tp = true → isTup tg = true) → PI X tg t (tG X.K cl (lyW X.K cl) false (evw C G e) W)
end
section
variable {X : Cx} {tg : Expr}
theorem PI.weak {t : Expr} {u v : TI} (h : PI X tg t u) (k : ∀ σ H R, v σ H R → u σ H R) : PI X tg t v := ⟨fun pins s σ H R I q => h.run pins s σ H R I (k σ H R q)⟩
def iSeq (K : PySem.W.Frag) (tl : TE) : TI := fun σ H R => tl σ H fun x H1 => ∃ a, x = .ref a ∧ (((∃ xs, SqL K H1 a xs) ∧ R (Itl K a) H1) ∨ ((∃ xs, SqT K H1 a xs) ∧ R (Itt K a) H1))
theorem pi_seq {l : Expr} {tl : TE} (hl : PE X l tl) : PI X tg l (iSeq X.K tl) := by
  refine ⟨fun pins s σ H R I h => ?_⟩
  refine thn (hl.run pins s σ H _ I h) fun v s1 ⟨x, H1, I1, r1, q1⟩ => ?_
  obtain ⟨a, e, q⟩ := q1
  subst e
  cases r1
  rcases q with ⟨⟨xs, hq⟩, q⟩ | ⟨⟨xs, hq⟩, q⟩
  · obtain ⟨its, rv, p, hz⟩ := I1.list hq
    refine wpAny_pyIter_list p.isList ?_
    refine ⟨s1.heap.objs.size, [s1.heap.objs.size], _, _, H1, rfl, I1.kept (t' := s1.toks) fun b o e => Heap.get?_push_of_some _ e, turn_list a _, ⟨_, Heap.get?_push_size _ rfl, rfl, rfl⟩, fun b hb => ?_, q⟩
    have e : b = s1.heap.objs.size := by simpa using hb
    subst e
    exact I1.fpOk (Nat.le_refl _) (I1.hok.fresh (Nat.le_refl _))
  · obtain ⟨its, rv, p, hz⟩ := I1.tuple hq
    refine wpAny_pyIter_tuple (show s1.heap.IsTuple a its.toArray from p) ?_
    refine ⟨s1.heap.objs.size, [s1.heap.objs.size], _, _, H1, rfl, I1.kept (t' := s1.toks) fun b o e => Heap.get?_push_of_some _ e, turn_tuple a _, ⟨_, Heap.get?_push_size _ rfl, rfl, rfl⟩, fun b hb => ?_, q⟩
    have e : b = s1.heap.objs.size := by simpa using hb
    subst e
    exact I1.fpOk (Nat.le_refl _) (I1.hok.fresh (Nat.le_refl _))
theorem fold_of {e : Expr} (h : noSet e = true) : ∀ x, foldedSetIterable e X.env x = pure x := by
  intro x
  cases e <;> first | exact absurd h Bool.false_ne_true | rfl
end
section
variable {K : PySem.W.Frag} {cl : Str → Option Addr} {w : Hs}
theorem LentOk.app : ∀ {l l2 : List (Nat × D)} {σ : Sg} {B B2 : Ft}, LentOk K cl w σ l B → LentOk K cl w σ l2 B2 → LentOk K cl w σ (l ++ l2) (B + B2)
  | [], l2, σ, B, B2, h, k => by
    have h : B = 0 := h
    subst h
    rw [zero_add']; exact k
  | (i, d) :: r, l2, σ, B, B2, h, k => by
    obtain ⟨v, C1, C2, e, t, h, rfl⟩ := h
    exact ⟨v, C1, _, e, t, h.app k, add_assoc' _ _ _⟩
end
section
variable {cl : Str → Option Addr} {G : Str → Option D} {C : CT} {X : Cx} {W : WX}
theorem sW_seq (a : E) (ih : SndE cl G C a) (X : Cx) (W : WX) (L : Lib cl G C X) (tk : Takes X W) (t tg : Expr) (hc : (chk X.N X.env.scope a t && noSet t) = true) : PI X tg t (tG X.K cl (lyW X.K cl) false (fun ρ => (ev C G a ρ).bind fun (d, p) ρ1 => walkD d p ρ1) W) := by
  rw [Bool.and_eq_true] at hc
  refine PI.weak (pi_seq (ih X W L tk t hc.1)) fun σ H R h => ?_
  obtain ⟨w, A, ρ, rfl, g, e, h⟩ := h
  refine ⟨w, A, ρ, rfl, g, e, h.bind (.start g e) (fun z => by cases z) fun x ρ1 w1 A1 B1 b1 a1 kp g1 x1 l1 k1 h1 => ?_⟩
  obtain ⟨d, pl⟩ := x
  dsimp only at h1
  cases hw : walkD d pl ρ1 with
  | bad => rw [hw] at h1; exact (show False from h1).elim
  | exc x ρ2 => exact absurd hw (walkD_noexc)
  | ok wk ρ2 =>
    rw [hw] at h1
    obtain ⟨w2, A2, B2, p, vs, tt, hH, a2, kc, rfl, sw, lo, ht⟩ := walk_at rfl a1 l1 hw
    rw [← hH]
    refine ⟨p, rfl, ?_⟩
    cases tt with
    | false => exact .inl ⟨⟨vs, sw.at_ w2 _ (.refl _ _) a2.gd⟩, h1.fin1 a2 (fun b x => by simp only [add_at]; omega) ⟨walk_list sw, lo⟩⟩
    | true => exact .inr ⟨⟨vs, sw.at_ w2 _ (.refl _ _) a2.gd⟩, h1.fin1 a2 (fun b x => by simp only [add_at]; omega) ⟨walk_tup sw, lo⟩⟩
theorem sW_rng1 (a : E) (ih : SndE cl G C a) : SndW cl G C (.rng1 a) := fun X W L tk tp t hc tg htg => by
  cases t <;> first | (simp [chkW] at hc; done) | skip
  rename_i fn es ks p
  cases fn <;> first | (cases es <;> simp [chkW] at hc; done) | skip
  rename_i g gp
  match es, ks, hc with
  | [e], [], hc =>
    unfold chkW at hc
    simp only [Bool.and_eq_true, decide_eq_true_eq] at hc
    obtain ⟨⟨⟨rfl, hg⟩, ha⟩, hp⟩ := hc
    have st := star_of (X := X) (es := []) hp
    refine PI.weak (pi_range1 (gl_of hg) (L.bl _ (by decide)) (pa_cons (ih X W L tk e ha) pa_nil st) st) fun σ H R h => ?_
    obtain ⟨w, A, ρ, rfl, g, e, h⟩ := h
    unfold evw at h
    refine ⟨w, A, ρ, rfl, g, e, h.bindU (.start g e) (fun z => by cases z) fun d ρ1 w1 A1 B1 b1 a1 kp g1 x1 l1 k1 h1 => ?_⟩
    cases d <;> first | exact (show False from h1).elim | skip
    dsimp only at h1
    split at h1
    · rename_i j hj
      cases l1.int1
      exact ⟨j, rfl, hj.1, hj.2, h1.fin1 (B := 0) a1 (fun b x => Nat.zero_le _) ⟨walk_range 0 j.toNat, rfl⟩⟩
    · exact (show False from h1).elim
  | [], _, hc => simp [chkW] at hc
  | _ :: _ :: _, _, hc => simp [chkW] at hc
  | [_], _ :: _, hc => simp [chkW] at hc
theorem sW_rng2 (a b : E) (iha : SndE cl G C a) (ihb : SndE cl G C b) : SndW cl G C (.rng2 a b) := fun X W L tk tp t hc tg htg => by
  cases t <;> first | (simp [chkW] at hc; done) | skip
  rename_i fn es ks p
  cases fn <;> first | (cases es <;> simp [chkW] at hc; done) | skip
  rename_i g gp
  match es, ks, hc with
  | [d, e], [], hc =>
    unfold chkW at hc
    simp only [Bool.and_eq_true, decide_eq_true_eq] at hc
    obtain ⟨⟨⟨⟨⟨rfl, hg⟩, ha⟩, hb⟩, hp⟩, hq⟩ := hc
    have st2 := star_of (X := X) (es := []) hq
    have st := star_of (X := X) (es := [e]) hp
    refine PI.weak (pi_range2 (gl_of hg) (L.bl _ (by decide)) (pa_cons (iha X W L tk d ha) (pa_cons (ihb X W L tk e hb) pa_nil st2) st) (by rw [st, st2]; rfl) st2) fun σ H R h => ?_
    obtain ⟨w, A, ρ, rfl, g, e, h⟩ := h
    unfold evw at h
    refine ⟨w, A, ρ, rfl, g, e, h.bindU (.start g e) (fun z => by cases z) fun d ρ1 w1 A1 B1 b1 a1 kp g1 x1 l1 k1 h1 => ?_⟩
    refine ⟨w1, A1, ρ1, rfl, a1.gd.left, a1.es, h1.bindU a1 (fun z => by cases z) fun e ρ2 w2 A2 B2 b2 a2 kp2 g2 x2 l2 k2 h2 => ?_⟩
    cases d <;> first | exact (show False from h2).elim | skip
    cases e <;> first | exact (show False from h2).elim | skip
    dsimp only at h2
    split at h2
    · rename_i i j hj
      cases l1.int1; cases l2.int1
      exact ⟨i, j, rfl, hj, h2.fin1 (B := 0) a2 (fun b x => Nat.zero_le _) ⟨walk_range i _, rfl⟩⟩
    · exact (show False from h2).elim
  | [], _, hc => simp [chkW] at hc
  | [_], _, hc => simp [chkW] at hc
  | _ :: _ :: _ :: _, _, hc => simp [chkW] at hc
  | [_, _], _ :: _, hc => simp [chkW] at hc
theorem sW_rng3 (a b c : E) (iha : SndE cl G C a) (ihb : SndE cl G C b) (ihc : SndE cl G C c) : SndW cl G C (.rng3 a b c) := fun X W L tk tp t hc tg htg => by
  cases t <;> first | (simp [chkW] at hc; done) | skip
  rename_i fn es ks p
  cases fn <;> first | (cases es <;> simp [chkW] at hc; done) | skip
  rename_i g gp
  match es, ks, hc with
  | [d, e, f], [], hc =>
    unfold chkW at hc
    simp only [Bool.and_eq_true, decide_eq_true_eq] at hc
    obtain ⟨⟨⟨⟨⟨⟨⟨rfl, hg⟩, ha⟩, hb⟩, hcc⟩, hp⟩, hq⟩, hr⟩ := hc
    have st3 := star_of (X := X) (es := []) hr
    have st2 := star_of (X := X) (es := [f]) hq
    have st := star_of (X := X) (es := [e, f]) hp
    refine PI.weak (pi_range3 (gl_of hg) (L.bl _ (by decide)) (pa_cons (iha X W L tk d ha) (pa_cons (ihb X W L tk e hb) (pa_cons (ihc X W L tk f hcc) pa_nil st3) st2) st) st (hpl_of (by rw [List.all_cons, List.all_cons, hq, hr]; rfl))) fun σ H R h => ?_
    obtain ⟨w, A, ρ, rfl, g, e, h⟩ := h
    unfold evw at h
    refine ⟨w, A, ρ, rfl, g, e, h.bindU (.start g e) (fun z => by cases z) fun d ρ1 w1 A1 B1 b1 a1 kp g1 x1 l1 k1 h1 => ?_⟩
    refine ⟨w1, A1, ρ1, rfl, a1.gd.left, a1.es, h1.bindU a1 (fun z => by cases z) fun e ρ2 w2 A2 B2 b2 a2 kp2 g2 x2 l2 k2 h2 => ?_⟩
    refine ⟨w2, A2, ρ2, rfl, a2.gd.left, a2.es, h2.bindU a2 (fun z => by cases z) fun f ρ3 w3 A3 B3 b3 a3 kp3 g3 x3 l3 k3 h3 => ?_⟩
    cases d <;> first | exact (show False from h3).elim | skip
    cases e <;> first | exact (show False from h3).elim | skip
    cases f <;> first | exact (show False from h3).elim | skip
    dsimp only at h3
    split at h3
    · rename_i i j k hj
      cases l1.int1; cases l2.int1; cases l3.int1
      unfold rgOk at hj
      simp only [Bool.and_eq_true, decide_eq_true_eq] at hj
      exact ⟨i, j, k, _, rfl, ⟨hj.1.1.1, hj.1.1.2, hj.1.2, by omega⟩, h3.fin1 (B := 0) a3 (fun b x => Nat.zero_le _) ⟨walk_rangeC i k _, rfl⟩⟩
    · exact (show False from h3).elim
  | [], _, hc => simp [chkW] at hc
  | [_], _, hc => simp [chkW] at hc
  | [_, _], _, hc => simp [chkW] at hc
  | _ :: _ :: _ :: _ :: _, _, hc => simp [chkW] at hc
  | [_, _, _], _ :: _, hc => simp [chkW] at hc
theorem tup_of {tg : Expr} (h : isTup tg = true) : ∃ elts kk tpos, tg = .Tuple elts kk tpos := by
  cases tg <;> first | exact absurd h Bool.false_ne_true | exact ⟨_, _, _, rfl⟩
theorem sW_enm (a : E) (ih : SndE cl G C a) : SndW cl G C (.enm a) := fun X W L tk tp t hc tg htg => by
  cases t <;> first | (simp [chkW] at hc; done) | skip
  rename_i fn es ks p
  cases fn <;> first | (cases es <;> simp [chkW] at hc; done) | skip
  rename_i g gp
  match es, ks, hc with
  | [e], [], hc =>
    unfold chkW at hc
    simp only [Bool.and_eq_true, decide_eq_true_eq] at hc
    obtain ⟨⟨⟨⟨htp, rfl⟩, hg⟩, ha⟩, hp⟩ := hc
    obtain ⟨elts, kk, tpos, rfl⟩ := tup_of (htg htp)
    have st := star_of (X := X) (es := []) hp
    refine PI.weak (pi_enum (gl_of hg) (L.bl _ (by decide)) (pa_cons (ih X W L tk e ha) pa_nil st) st) fun σ H R h => ?_
    obtain ⟨w, A, ρ, rfl, g, e, h⟩ := h
    unfold evw at h
    refine ⟨w, A, ρ, rfl, g, e, h.bind (.start g e) (fun z => by cases z) fun x ρ1 w1 A1 B1 b1 a1 kp g1 x1 l1 k1 h1 => ?_⟩
    obtain ⟨d, pl⟩ := x
    dsimp only at h1
    cases hw : walkD d pl ρ1 with
    | bad => rw [hw] at h1; exact (show False from h1).elim
    | exc x ρ2 => exact absurd hw (walkD_noexc)
    | ok wk ρ2 =>
      rw [hw] at h1
      obtain ⟨w2, A2, B2, p, vs, tt, hH, a2, kc, rfl, sw, lo, ht⟩ := walk_at rfl a1 l1 hw
      dsimp only [Out.bind] at h1
      split at h1
      · exact (show False from h1).elim
      · rename_i hd
        have : tt = false := by rw [ht]; simpa using hd
        subst this
        rw [← hH]
        exact ⟨p, vs, rfl, sw.at_ w2 _ (.refl _ _) a2.gd, h1.fin1 a2 (fun b x => by simp only [add_at]; omega) ⟨walk_enum sw, lo⟩⟩
  | [], _, hc => simp [chkW] at hc
  | _ :: _ :: _, _, hc => simp [chkW] at hc
  | [_], _ :: _, hc => simp [chkW] at hc
theorem sW_zip (a b : E) (iha : SndE cl G C a) (ihb : SndE cl G C b) : SndW cl G C (.zip a b) := fun X W L tk tp t hc tg htg => by
  cases t <;> first | (simp [chkW] at hc; done) | skip
  rename_i fn es ks p
  cases fn <;> first | (cases es <;> simp [chkW] at hc; done) | skip
  rename_i g gp
  match es, ks, hc with
  | [d, e], [], hc =>
    unfold chkW at hc
    simp only [Bool.and_eq_true, decide_eq_true_eq] at hc
    obtain ⟨⟨⟨⟨⟨⟨htp, rfl⟩, hg⟩, ha⟩, hb⟩, hp⟩, hq⟩ := hc
    obtain ⟨elts, kk, tpos, rfl⟩ := tup_of (htg htp)
    have st2 := star_of (X := X) (es := []) hq
    have st := star_of (X := X) (es := [e]) hp
    refine PI.weak (RZ.pi_zipA (gl_of hg) (L.bl _ (by decide)) (pa_cons (iha X W L tk d ha) (pa_cons (ihb X W L tk e hb) pa_nil st2) st) st (hpl_of (by rw [List.all_cons, hq]; rfl))) fun σ H R h => ?_
    obtain ⟨w, A, ρ, rfl, g, e, h⟩ := h
    unfold evw at h
    refine ⟨w, A, ρ, rfl, g, e, h.bind (.start g e) (fun z => by cases z) fun x ρ1 w1 A1 B1 b1 a1 kp g1 x1 l1 k1 h1 => ?_⟩
    obtain ⟨d, pl⟩ := x
    dsimp only at h1
    cases hw : walkD d pl ρ1 with
    | bad => rw [hw] at h1; exact (show False from h1).elim
    | exc x ρ2 => exact absurd hw (walkD_noexc)
    | ok wk ρ2 =>
      rw [hw] at h1
      obtain ⟨w2, A2, B2, p, vs, tt, hH, a2, kc, rfl, sw, lo, ht⟩ := walk_at rfl a1 l1 hw
      dsimp only [Out.bind] at h1
      refine ⟨w2, A2, ρ2, hH, a2.gd.left, a2.es, oG.bind h1 a2 (fun z => by cases z) fun y ρ3 w3 A3 B3 b3 a3 kp3 g3 x3 l3 k3 h3 => ?_⟩
      obtain ⟨e, pe⟩ := y
      dsimp only at h3
      cases hw2 : walkD e pe ρ3 with
      | bad => rw [hw2] at h3; exact (show False from h3).elim
      | exc x ρ4 => exact absurd hw2 (walkD_noexc)
      | ok wk2 ρ4 =>
        rw [hw2] at h3
        obtain ⟨w4, A4, B4, p2, us, tt2, hH2, a4, kc2, rfl, sw2, lo2, ht2⟩ := walk_at rfl a3 l3 hw2
        dsimp only [Out.bind] at h3
        split at h3
        · rename_i hd
          have ett : tt2 = tt := by rw [ht, ht2, hd]
          subst ett
          have kk : Kp w2 w4 B2 := (kp3.left).trans (kc2.left)
          have s1 := sw.more (C := B4 + B2) kk (fun b x z => by rw [add_at]; omega)
          have s2 := sw2.more (C := B4 + B2) (.refl _ _) (fun b x z => by rw [add_at]; omega)
          have lo' := lo.keep (σ' := σ) kk (fun _ _ => rfl)
          have lall := lo'.app lo2
          rw [add_comm'] at lall
          rw [← hH2]
          refine ⟨p, p2, vs, us, rfl, ?_⟩
          cases tt2 with
          | false => exact .inl ⟨s1.at_ w4 _ (.refl _ _) a4.gd, s2.at_ w4 _ (.refl _ _) a4.gd, h3.fin1 (B := B4 + B2) a4 (fun b x => by simp only [add_at]; omega) ⟨walk_zipL s1 s2, lall⟩⟩
          | true => exact .inr ⟨s1.at_ w4 _ (.refl _ _) a4.gd, s2.at_ w4 _ (.refl _ _) a4.gd, h3.fin1 (B := B4 + B2) a4 (fun b x => by simp only [add_at]; omega) ⟨walk_zipT s1 s2, lall⟩⟩
        · exact (show False from h3).elim
  | [], _, hc => simp [chkW] at hc
  | [_], _, hc => simp [chkW] at hc
  | _ :: _ :: _ :: _, _, hc => simp [chkW] at hc
  | [_, _], _ :: _, hc => simp [chkW] at hc
end
end Ev

/-! Ev, part R: comprehensions. -/
namespace Ev
open PySem PySem.Spec PyProof.Rows L2

section
variable {K : PySem.W.Frag} {cl : Str → Option Addr} {w : Hs}
theorem Es.any : ∀ {ρ : Env} {σ : Sg} {A : Ft} (i : Nat) (x : Option V), Es K cl w (ρ.set i none) σ A → Es K cl w (ρ.set i none) (σ.set i x) A
  | [], σ, A, i, x, h => by
    have h : Es K cl w [] σ A := h
    unfold Es at h
    obtain ⟨rfl, rfl⟩ := h
    exact (show Es K cl w [] [] 0 from by unfold Es; exact ⟨rfl, rfl⟩)
  | c :: ρ, σ, A, 0, x, h => by
    rw [List.set_cons_zero] at h ⊢
    unfold Es at h ⊢
    obtain ⟨y, σ', rfl, h⟩ := h
    exact ⟨x, σ', rfl, h⟩
  | none :: ρ, σ, A, i + 1, x, h => by
    rw [List.set_cons_succ] at h ⊢
    unfold Es at h ⊢
    obtain ⟨y, σ', rfl, h⟩ := h
    exact ⟨y, _, rfl, Es.any i x h⟩
  | some c :: ρ, σ, A, i + 1, x, h => by
    rw [List.set_cons_succ] at h ⊢
    unfold Es at h ⊢
    obtain ⟨y, σ', A1, A2, rfl, t, h, rfl⟩ := h
    exact ⟨y, _, A1, A2, rfl, t, Es.any i x h, rfl⟩
theorem Es.wipe : ∀ {own : List Nat} {ρ : Env} {σ : Sg} {A : Ft}, Es K cl w ρ σ A → ∃ B, (∀ b x, B b x ≤ A b x) ∧ Es K cl w (wipeE ρ own) (L2.wipe σ own) B
  | [], ρ, σ, A, h => ⟨A, fun _ _ => Nat.le_refl _, h⟩
  | i :: r, ρ, σ, A, h => by
    obtain ⟨B, hB, e⟩ := Es.wipe (own := r) h
    obtain ⟨B2, hB2, e2⟩ := e.drop i
    exact ⟨B2, fun b x => Nat.le_trans (hB2 b x) (hB b x), Es.any i none e2⟩
theorem wipeE_set : ∀ {own : List Nat} {ρ : Env} {i : Nat}, wipeE (ρ.set i none) own = (wipeE ρ own).set i none
  | [], _, _ => rfl
  | j :: r, ρ, i => by
    show (wipeE (ρ.set i none) r).set j none = ((wipeE ρ r).set j none).set i none
    rw [wipeE_set]
    by_cases h : i = j
    · subst h; rfl
    · rw [List.set_comm _ _ h]
theorem backE_set : ∀ {own : List Nat} {ρ0 ρ : Env} {i : Nat} {x y : Option D}, (backE ρ0 (ρ.set i x) own).set i y = (backE ρ0 ρ own).set i y
  | [], ρ0, ρ, i, x, y => by show (ρ.set i x).set i y = ρ.set i y; rw [List.set_set]
  | j :: r, ρ0, ρ, i, x, y => by
    show ((backE ρ0 (ρ.set i x) r).set j (slot ρ0 j)).set i y = ((backE ρ0 ρ r).set j (slot ρ0 j)).set i y
    by_cases h : i = j
    · subst h
      rw [List.set_set, List.set_set, backE_set]
    · rw [List.set_comm _ _ (Ne.symm h), List.set_comm _ _ (Ne.symm h), backE_set]
theorem Es.back : ∀ {own : List Nat} {ρ0 ρ : Env} {σ : Sg} {A : Ft}, (∀ i ∈ own, ∀ d, slot ρ0 i = some d → ∃ v, σ[i]? = some (some v) ∧ T K cl w d v 0) → Es K cl w (wipeE ρ own) (L2.wipe σ own) A → ∃ C, (∀ b x, C b x ≤ A b x) ∧ Es K cl w (backE ρ0 ρ own) σ C
  | [], ρ0, ρ, σ, A, _, h => ⟨A, fun _ _ => Nat.le_refl _, h⟩
  | i :: r, ρ0, ρ, σ, A, hs, h => by
    have h : Es K cl w ((wipeE ρ r).set i none) ((L2.wipe σ r).set i none) A := h
    have h2 : Es K cl w (wipeE (ρ.set i none) r) (L2.wipe σ r) A := by
      rw [wipeE_set]
      cases e : (L2.wipe σ r)[i]? with
      | none =>
        have : (L2.wipe σ r).set i none = L2.wipe σ r := List.set_eq_of_length_le (by simpa using e)
        rw [this] at h; exact h
      | some x =>
        have := Es.any i x h
        rw [List.set_set] at this
        obtain ⟨hi, e'⟩ := List.getElem?_eq_some_iff.mp e
        rw [← e', List.set_getElem_self hi] at this
        exact this
    obtain ⟨C, hC, e⟩ := Es.back (fun j hj => hs j (List.mem_cons_of_mem _ hj)) h2
    show ∃ C, _ ∧ Es K cl w ((backE ρ0 ρ r).set i (slot ρ0 i)) σ C
    rw [← backE_set (x := none)]
    cases hd : slot ρ0 i with
    | none =>
      obtain ⟨C2, hC2, e2⟩ := e.drop i
      exact ⟨C2, fun b x => Nat.le_trans (hC2 b x) (hC b x), e2⟩
    | some d =>
      obtain ⟨v, hv, t⟩ := hs i (by simp) d hd
      have hi : i < (backE ρ0 (ρ.set i none) r).length := by
        rw [← Es.length e]
        exact (List.getElem?_eq_some_iff.mp hv).1
      obtain ⟨C2, hC2, e2⟩ := Es.store hi t e
      rw [set_same hv] at e2
      exact ⟨C2, fun b x => by have := hC2 b x; have := hC b x; simp only [add_at, zero_at] at *; omega, e2⟩
theorem wipe_in {σ : Sg} {j : Nat} : ∀ {own : List Nat}, j ∈ own → (L2.wipe σ own)[j]? = if j < σ.length then some none else none
  | [], h => by simp at h
  | i :: r, h => by
    show ((L2.wipe σ r).set i none)[j]? = _
    by_cases e : i = j
    · subst e
      by_cases hl : i < σ.length
      · rw [if_pos hl, List.getElem?_set_self (by rw [L2.wipe_length]; exact hl)]
      · rw [if_neg hl, List.getElem?_eq_none_iff, List.length_set, L2.wipe_length]; omega
    · rw [List.getElem?_set_ne e]
      have hj : j ∈ r := by
        rcases List.mem_cons.mp h with z | z
        · exact absurd z.symm e
        · exact z
      exact wipe_in hj
theorem wipe_eq {σ σ2 : Sg} {own : List Nat} (hl : σ2.length = σ.length) (h : ∀ i, i ∉ own → σ2[i]? = (L2.wipe σ own)[i]?) : L2.wipe σ2 own = L2.wipe σ own := by
  apply List.ext_getElem?
  intro j
  by_cases hj : j ∈ own
  · rw [wipe_in hj, wipe_in hj, hl]
  · rw [L2.wipe_out hj, h j hj]
theorem bind_lenA : ∀ t : E, (∀ (d : D) (ρ ρ' : Env), bindT t d ρ = some ρ' → ρ'.length = ρ.length) ∧ (∀ (ds : List D) (ρ ρ' : Env), bindT.bindTs t ds ρ = some ρ' → ρ'.length = ρ.length) := by
  intro t
  induction t with
  | v i =>
    refine ⟨fun d ρ ρ' h => ?_, fun ds ρ ρ' h => by cases ds <;> cases h⟩
    have h : (if i < ρ.length then some (ρ.set i (some d)) else none) = some ρ' := h
    split at h
    · cases h; rw [List.length_set]
    · cases h
  | tup es ih =>
    refine ⟨fun d ρ ρ' h => ?_, fun ds ρ ρ' h => by cases ds <;> cases h⟩
    cases d <;> first | (cases h; done) | exact ih.2 _ _ _ h
  | nil =>
    refine ⟨fun d ρ ρ' h => (by cases d <;> cases h), fun ds ρ ρ' h => ?_⟩
    cases ds with
    | nil => cases h; rfl
    | cons _ _ => cases h
  | cons a r iha ihr =>
    refine ⟨fun d ρ ρ' h => (by cases d <;> cases h), fun ds ρ ρ' h => ?_⟩
    cases ds with
    | nil => cases h
    | cons d ds =>
      obtain ⟨ρ1, h1, h2⟩ := Option.bind_eq_some_iff.mp (show (bindT a d ρ).bind (fun ρ' => bindT.bindTs r ds ρ') = some ρ' from h)
      rw [ihr.2 _ _ _ h2, iha.1 _ _ _ h1]
  | _ => exact ⟨fun d ρ ρ' h => (by cases d <;> cases h), fun ds ρ ρ' h => by cases ds <;> cases h⟩
theorem bind_len {t : E} {d : D} {ρ ρ' : Env} (h : bindT t d ρ = some ρ') : ρ'.length = ρ.length := (bind_lenA t).1 _ _ _ h
theorem oG.qq {α β : Type} {ly : Ly α β} {q : Bool} {w0 : Hs} {A0 : Ft} {ρ0 : Env} {σ : Sg} {o : Out α} {Q : β → Hp → Prop} {W : WX} (h : oG K cl ly false w0 A0 ρ0 σ o Q W) : oG K cl ly q w0 A0 ρ0 σ o Q W := by
  cases o with
  | bad => exact h
  | ok x ρ1 => exact fun w1 A1 B1 b g e l x1 k1 => h w1 A1 B1 b g e l x1 (fun z => by cases z)
  | exc x ρ1 => exact h
end

section
variable {cl : Str → Option Addr} {G : Str → Option D} {C : CT} {X : Cx} {W : WX}
def noW : WX := fun _ _ _ _ => False
theorem takes_blk {s : Shared} {H : Hp} {scope : Scope} {env : PySem.Env} {fp : List Addr} : Takes (X.blk s H scope env fp) noW := by
  rintro u s' ⟨a, B, sI, pins, σ, H, cls, d, _, _, _, _, _, _, _, _, w⟩
  exact w
theorem lib_blk {s : Shared} {H : Hp} {scope : Scope} {env : PySem.Env} {fp : List Addr} (L : Lib cl G C X) : Lib cl G C (X.blk s H scope env fp) :=
  ⟨L.calm, L.nd, L.un, L.gl, L.bl, L.kc, L.na, L.gcd, L.fn⟩
theorem st_blk {s : Shared} {H : Hp} {scope : Scope} {D : Addr} {cc : List (Str × Addr)} {fp : List Addr} (x : Str) (h : scope.names.lookup x = some .local ∨ scope.names.lookup x = some .cell) :
    (X.blk s H scope (compEnvC scope cc D X.env) fp).fn x = true ∨ (X.blk s H scope (compEnvC scope cc D X.env) fp).env.scope.names.lookup x = some .local := by
  rcases h with h | h
  · exact .inr (lookup_relS_keep (sc := X.env.scope) (by decide) h)
  · refine .inl ?_
    show (scope.names.lookup x == some .cell) = true
    rw [h]; rfl
/-- what a comprehension's turns come to, by the outcome -/
theorem comp_core {tg it cd el : E} {own : List Nat} {tt : TT} {te : TE} {qe : Bool} {w : Hs} {A : Ft} {ρ : Env} {σ : Sg} {Q : VK} (hown : ∀ i ∈ asgT tg, i ∈ own) (q0 : qt (.comp tg it cd el own) = false)
    (htt : ∀ σ2 w A ρ Q, Gd w A → Es X.K cl w ρ σ2 A → oG X.K cl lyB false w A ρ σ2 (tru (ev C G cd ρ)) Q noW → tt σ2 w.H Q)
    (hte : ∀ σ2 w A ρ Q, Gd w A → Es X.K cl w ρ σ2 A → oG X.K cl (lyV X.K cl) false w A ρ σ2 (ev C G el ρ) Q noW → te σ2 w.H Q)
    (h : oG X.K cl (lyV X.K cl) false w A ρ σ (ev C G (.comp tg it cd el own) ρ) Q W) (g : Gd w A) (e : Es X.K cl w ρ σ A) :
    tLc (tG X.K cl (lyW X.K cl) false (evw C G it) W) (tBd X.K cl tg) tt te own σ w.H Q := by
  rw [show ev C G (.comp tg it cd el own) ρ = (evw C G it ρ).bind fun w ρ1 => if !ownOk ρ1 own then .bad else
    (noExc (compL (bindT tg) (fun ρ => tru (ev C G cd ρ)) (fun ρ => use (ev C G el ρ)) (fun ρ => wipeE ρ own) w.ds ρ1)).bind fun ys ρ2 =>
      if ys.length ≤ sizeLine then .ok (.lst .own ys, none) (unlend (backE ρ1 ρ2 own) w.lent) else .bad from by rw [ev]] at h
  refine ⟨w, A, ρ, rfl, g, e, h.bind (.start g e) (fun z => z) fun wk ρ1 w1 A1 B1 J a1 kp g1 x1 l1 k1 h1 => ?_⟩
  obtain ⟨wj, lo⟩ := l1
  intro Dd hD
  split at h1
  · exact (show False from h1).elim
  rename_i hok
  have hok : ownOk ρ1 own = true := by simpa using hok
  generalize hcl : compL (bindT tg) (fun ρ => tru (ev C G cd ρ)) (fun ρ => use (ev C G el ρ)) (fun ρ => wipeE ρ own) wk.ds ρ1 = oc at h1
  cases oc with
  | exc x ρ2 => exact (show False from h1).elim
  | bad => exact (show False from h1).elim
  | ok ys ρ2 =>
    have h1 : oG X.K cl (lyV X.K cl) false w A ρ σ (if ys.length ≤ sizeLine then .ok (.lst .own ys, none) (unlend (backE ρ1 ρ2 own) wk.lent) else .bad) Q W := h1
    split at h1
    · rename_i hys
      have hsl : ∀ i ∈ own, ∀ d, slot ρ1 i = some d → ∃ v, σ[i]? = some (some v) ∧ T X.K cl w1 d v 0 := by
        intro i hi d hd
        have hf := List.all_eq_true.mp hok i hi
        rw [hd] at hf
        obtain ⟨v, Ai, _, ev, t, _⟩ := Es.out hd a1.es
        exact ⟨v, ev, t.frz hf⟩
      -- the state by the turn
      let St (i m : Nat) (H : Hp) : Prop := ∃ wi Ai ρi accD accV Bacc ysr, wi.H = H ∧ i ≤ wk.ds.length ∧ m = wk.ds.length - i ∧ Gd wi (Ai + (B1 + (Bacc + fo1 Dd true))) ∧ Es X.K cl wi (wipeE ρi own) (L2.wipe σ own) Ai ∧
        Ext w A wi (Ai + (B1 + (Bacc + fo1 Dd true))) ∧ Kp w1 wi B1 ∧ wi.H Dd = some (.lst accV) ∧ Ts X.K cl wi accD accV Bacc ∧
        compL (bindT tg) (fun ρ => tru (ev C G cd ρ)) (fun ρ => use (ev C G el ρ)) (fun ρ => wipeE ρ own) (wk.ds.drop i) ρi = .ok ysr ρ2 ∧ accD ++ ysr = ys
      refine ⟨St, ⟨wk.ds.length, ?_⟩, ?_⟩
      · obtain ⟨Aw, hAw, ew⟩ := Es.wipe (own := own) a1.es
        have g2 := newL_gd (o := .lst []) g1 hD
        have e2 := newL_ext (o := .lst []) g1 hD
        refine ⟨w1.newL Dd (.lst []), Aw, ρ1, [], [], 0, ys, rfl, Nat.zero_le _, rfl, g2.sub fun b x => by have := hAw b x; simp only [add_at, zero_at]; omega, ew.keep (newL_kp hD), ?_, newL_kp hD, upd_same, by unfold Ts; exact ⟨rfl, rfl⟩, by rw [List.drop_zero]; exact hcl, rfl⟩
        exact (x1.trans e2).weak fun b x z => by have := hAw b x; simp only [add_at, zero_at] at z ⊢; omega
      · rintro i m H ⟨wi, Ai, ρi, accD, accV, Bacc, ysr, rfl, hi, rfl, gi, ei, xi, kp1, hacc, ts, hcl, hys2⟩
        have kF : ∀ {Z : Ft}, Kp w1 wi B1 → Kp w1 wi 0 := fun k => kp_0 k
        by_cases hlt : i < wk.ds.length
        · refine .inr ⟨wj.go i wi _ kp1 gi hlt, St (i + 1) (wk.ds.length - (i + 1)), fun H' n => ⟨_, by omega, n⟩, fun x H' y => ?_⟩
          obtain ⟨wy, rfl, gy, xy, ky, ty⟩ := wj.yld i wk.ds[i] wi _ x H' kp1 gi (by simp [hlt]) y
          rw [take_one (List.getElem?_eq_getElem hlt)] at hcl
          have hcl : (match bindT tg wk.ds[i] (wipeE ρi own) with
            | none => (.bad : Out (List D))
            | some ρ1 => (tru (ev C G cd ρ1)).bind fun b ρ2 =>
              if b then (use (ev C G el ρ2)).bind fun y ρ3 => (compL (bindT tg) (fun ρ => tru (ev C G cd ρ)) (fun ρ => use (ev C G el ρ)) (fun ρ => wipeE ρ own) (wk.ds.drop (i + 1)) ρ3).bind fun ys ρ4 => .ok (y :: ys) ρ4
              else compL (bindT tg) (fun ρ => tru (ev C G cd ρ)) (fun ρ => use (ev C G el ρ)) (fun ρ => wipeE ρ own) (wk.ds.drop (i + 1)) ρ2) = .ok ysr ρ2 := hcl
          cases hb : bindT tg wk.ds[i] (wipeE ρi own) with
          | none => rw [hb] at hcl; cases hcl
          | some ρb =>
            rw [hb] at hcl
            dsimp only at hcl
            have ey := ei.keep (ky Ai)
            refine ⟨wy, Ai, 0, wipeE ρi own, wk.ds[i], ρb, rfl, gy.sub fun b x => by simp only [add_at, zero_at]; omega, ey, ty, hb, fun σ2 A2 hA2 es2 st2 => ⟨?_, ?_⟩⟩
            · refine wipe_eq ?_ fun j hj => st2 j fun z => hj (hown j z)
              rw [Es.length es2, bind_len hb, ← Es.length ei, L2.wipe_length]
            · -- the turn's end: back to the state
              have fin : ∀ (w' : Hs) (A' : Ft) (ρ' : Env) (accD' : List D) (accV' : List V) (Bacc' : Ft) (ysr' : List D), Gd w' (A' + (B1 + (Bacc' + fo1 Dd true))) → Es X.K cl w' ρ' σ2 A' → Ext w A w' (A' + (B1 + (Bacc' + fo1 Dd true))) → Kp w1 w' B1 → w'.H Dd = some (.lst accV') → Ts X.K cl w' accD' accV' Bacc' →
                  compL (bindT tg) (fun ρ => tru (ev C G cd ρ)) (fun ρ => use (ev C G el ρ)) (fun ρ => wipeE ρ own) (wk.ds.drop (i + 1)) ρ' = .ok ysr' ρ2 → accD' ++ ysr' = ys → St (i + 1) (wk.ds.length - (i + 1)) w'.H := by
                intro w' A' ρ' accD' accV' Bacc' ysr' g' e' x' k' h' t' c' y'
                obtain ⟨Aw, hAw, ew⟩ := Es.wipe (own := own) e'
                have hw2 : L2.wipe σ2 own = L2.wipe σ own := by
                  refine wipe_eq ?_ fun j hj => st2 j fun z => hj (hown j z)
                  rw [Es.length es2, bind_len hb, ← Es.length ei, L2.wipe_length]
                rw [hw2] at ew
                exact ⟨w', Aw, ρ', accD', accV', Bacc', ysr', rfl, hlt, rfl, g'.sub fun b x => by have := hAw b x; simp only [add_at]; omega, ew, x'.weak fun b x z => by have := hAw b x; simp only [add_at] at z ⊢; omega, k', h', t', c', y'⟩
              have gA2 : Gd wy (A2 + (B1 + (Bacc + fo1 Dd true))) := gy.sub fun b x => by have := hA2 b x; simp only [add_at, zero_at] at this ⊢; omega
              have xA2 : Ext w A wy (A2 + (B1 + (Bacc + fo1 Dd true))) := (xi.trans xy).weak fun b x z => by have := hA2 b x; simp only [add_at, zero_at] at this z ⊢; omega
              refine htt σ2 wy A2 ρb _ gA2.left es2 ?_
              cases hct : tru (ev C G cd ρb) with
              | bad => rw [hct] at hcl; cases hcl
              | exc x ρx => rw [hct] at hcl; cases hcl
              | ok bb ρc =>
                rw [hct] at hcl
                have hcl : (if bb then (use (ev C G el ρc)).bind fun y ρ3 => (compL (bindT tg) (fun ρ => tru (ev C G cd ρ)) (fun ρ => use (ev C G el ρ)) (fun ρ => wipeE ρ own) (wk.ds.drop (i + 1)) ρ3).bind fun ys ρ4 => .ok (y :: ys) ρ4
                  else compL (bindT tg) (fun ρ => tru (ev C G cd ρ)) (fun ρ => use (ev C G el ρ)) (fun ρ => wipeE ρ own) (wk.ds.drop (i + 1)) ρc) = .ok ysr ρ2 := hcl
                intro w3 A3 B3 b3 g3 e3 l3 x3 _
                obtain ⟨rfl, rfl⟩ := l3
                rw [add0] at g3 x3
                have g3' := x3.gd gA2 g3
                have k3 := x3.keeps gA2
                have hacc3 : w3.H Dd = some (.lst accV) := k3.right.right.H Dd _ (fo1_self Dd true) ((ky (fo1 Dd true)).H Dd _ (fo1_self Dd true) hacc)
                have ts3 : Ts X.K cl w3 accD accV Bacc := Ts.keep _ _ _ k3.right.left (Ts.keep _ _ _ (ky _) ts)
                have kk3 : Kp w1 w3 B1 := (kp1.trans (ky B1)).trans k3.left
                have x3' : Ext w A w3 (A3 + (B1 + (Bacc + fo1 Dd true))) := xA2.trans x3.side
                cases bb with
                | false =>
                  simp only [Bool.false_eq_true, if_false] at hcl ⊢
                  exact fin w3 A3 ρc accD accV Bacc ysr g3' e3 x3' kk3 hacc3 ts3 hcl hys2
                | true =>
                  simp only [if_true] at hcl ⊢
                  refine hte σ2 w3 A3 ρc _ g3'.left e3 ?_
                  -- behind the element
                  have elem : ∀ (y : D) (ρd : Env) (w4 : Hs) (A4 B4 : Ft) (v4 : V), (compL (bindT tg) (fun ρ => tru (ev C G cd ρ)) (fun ρ => use (ev C G el ρ)) (fun ρ => wipeE ρ own) (wk.ds.drop (i + 1)) ρd).bind (fun ys ρ4 => .ok (y :: ys) ρ4) = .ok ysr ρ2 →
                      Gd w4 (A4 + B4) → Es X.K cl w4 ρd σ2 A4 → T X.K cl w4 y v4 B4 → Ext w3 A3 w4 (A4 + B4) → ∃ acc, w4.H Dd = some (.lst acc) ∧ acc.length < sizeLine ∧ St (i + 1) (wk.ds.length - (i + 1)) (upd w4.H Dd (.lst (acc ++ [v4]))) := by
                    intro y ρd w4 A4 B4 v4 hc4 g4 e4 t4 x4
                    have g4' := x4.gd g3' g4
                    have k4 := x4.keeps g3'
                    have hacc4 : w4.H Dd = some (.lst accV) := k4.right.right.H Dd _ (fo1_self Dd true) hacc3
                    have ts4 : Ts X.K cl w4 accD accV Bacc := Ts.keep _ _ _ k4.right.left ts3
                    have x4' : Ext w A w4 ((A4 + B4) + (B1 + (Bacc + fo1 Dd true))) := x3'.trans x4.side
                    cases hr : compL (bindT tg) (fun ρ => tru (ev C G cd ρ)) (fun ρ => use (ev C G el ρ)) (fun ρ => wipeE ρ own) (wk.ds.drop (i + 1)) ρd with
                    | bad => rw [hr] at hc4; cases hc4
                    | exc x ρx => rw [hr] at hc4; cases hc4
                    | ok ysr' ρe =>
                      rw [hr] at hc4
                      have hc4 : (Out.ok (y :: ysr') ρe : Out (List D)) = .ok ysr ρ2 := hc4
                      cases hc4
                      have hown1 : 0 < ((A4 + B4) + (B1 + (Bacc + fo1 Dd true))) Dd true := by
                        have := fo1_self Dd true
                        simp only [add_at]; omega
                      have one := g4'.one Dd true
                      have fd : fo1 Dd true Dd true = 1 := by rw [one_at, if_pos ⟨rfl, rfl⟩]
                      have zs : A4 Dd true = 0 ∧ B4 Dd true = 0 ∧ B1 Dd true = 0 ∧ Bacc Dd true = 0 := by
                        simp only [add_at] at one
                        rw [fd] at one
                        omega
                      refine ⟨accV, hacc4, ?_, ?_⟩
                      · have hl1 := ts4.length
                        have : ys.length = accD.length + (ysr'.length + 1) := by rw [← hys2, List.length_append, List.length_cons]
                        omega
                      · refine fin (w4.wr Dd (.lst (accV ++ [v4]))) A4 ρd (accD ++ [y]) (accV ++ [v4]) (Bacc + B4) ysr' ?_ (e4.keep (wr_kp zs.1)) ?_ ?_ upd_same ?_ hr ?_
                        · exact (wr_gd g4' hown1).sub fun b x => by simp only [add_at]; omega
                        · exact (x4'.trans (wr_ext hown1)).weak fun b x z => by simp only [add_at] at z ⊢; omega
                        · exact (kk3.trans k4.left).trans (wr_kp zs.2.2.1)
                        · exact (Ts.keep _ _ _ (wr_kp zs.2.2.2) ts4).append (Ts.one (T.keep _ _ _ (wr_kp zs.2.1) t4))
                        · rw [List.append_assoc]; exact hys2
                  cases hel : ev C G el ρc with
                  | bad => rw [hel] at hcl; cases hcl
                  | exc x ρx => rw [hel] at hcl; cases hcl
                  | ok yy ρd =>
                    obtain ⟨y, pl⟩ := yy
                    rw [hel] at hcl
                    intro w4 A4 B4 v4 g4 e4 l4 x4 _
                    cases pl with
                    | none => exact elem y ρd w4 A4 B4 v4 hcl g4 e4 l4 x4
                    | some p =>
                      obtain ⟨rfl, fc⟩ := l4
                      by_cases hf : isFrz y = true
                      · rw [show use (.ok (y, some p) ρd) = .ok y ρd from if_pos hf] at hcl
                        obtain ⟨A', Ar, t, _⟩ := fc.tree
                        exact elem y ρd w4 A4 0 v4 hcl g4 e4 (t.frz hf) x4
                      · rw [show use (.ok (y, some p) ρd) = .bad from if_neg hf] at hcl
                        cases hcl
        · have hii : i = wk.ds.length := by omega
          subst hii
          refine .inl ⟨wj.stop wi _ kp1 gi, ?_⟩
          rw [List.drop_length] at hcl
          have hcl : (Out.ok [] ρi : Out (List D)) = .ok ysr ρ2 := hcl
          cases hcl
          rw [List.append_nil] at hys2
          subst hys2
          obtain ⟨C1, hC1, eb⟩ := Es.back (ρ0 := ρ1) (fun j hj d hd => let ⟨v, hv, t⟩ := hsl j hj d hd; ⟨v, hv, T.keep _ _ _ (kp_0 kp1) t⟩) ei
          obtain ⟨C2, hC2, eb2⟩ := LentOk.back eb (lo.keep (σ' := σ) kp1 fun _ _ => rfl)
          refine h1 wi C2 (Bacc + foO Dd .own) (.ref Dd) ?_ eb2 (show T X.K cl wi (.lst .own accD) (.ref Dd) (Bacc + foO Dd .own) from by unfold T; exact ⟨Dd, accV, Bacc, rfl, hacc, ts, rfl⟩) ?_ (fun z => by cases z)
          · exact gi.sub fun b x => by
              have := hC1 b x; have := hC2 b x
              have e0 : foO Dd .own b x = fo1 Dd true b x := rfl
              simp only [add_at] at *; rw [e0]; omega
          · exact xi.weak fun b x z => by
              have := hC1 b x; have := hC2 b x
              have e0 : foO Dd .own b x = fo1 Dd true b x := rfl
              simp only [add_at] at *; rw [e0] at z; omega
    · exact (show False from h1).elim
end
end Ev

/-! Ev, part S: all expressions. -/
namespace Ev
open PySem PySem.Spec PyProof.Rows L2

section
variable {cl : Str → Option Addr} {G : Str → Option D} {C : CT} {X : Cx} {W : WX}
theorem isT_of {cd : E} (h : isT cd = true) : cd = .bl true := by
  cases cd <;> first | exact absurd h Bool.false_ne_true | skip
  rename_i b
  cases b
  · exact absurd h Bool.false_ne_true
  · rfl
theorem own_snd (N : List Str) (own : List Nat) : (own.map fun i => ((N.getD i "" : Str), i)).map (·.2) = own := by
  rw [List.map_map]; exact List.map_id' own
/-- what a comprehension's text gives -/
theorem comp_data (tg it cd el : E) (own : List Nat) (ihit : SndW cl G C it) (ihcd : SndT cl G C cd) (ihel : SndE cl G C el) (X : Cx) (W : WX) (L : Lib cl G C X) (tk : Takes X W) {elt : Expr} {gens : List Comprehension} {scope : Scope} {p : Pos} (hc : chk X.N X.env.scope (.comp tg it cd el own) (.ListComp elt gens scope p) = true) :
    ∃ (t iter : Expr) (ifs : List Expr) (ow : List (Str × Nat)) (wi : TI) (g : TG) (tt : TT) (te : TE), gens = [⟨t, iter, ifs, 0⟩] ∧ PI X t iter wi ∧ BlkOk X.N X.env.scope scope ow ∧
      (∀ (s : Shared) (H : Hp) (C : Addr) (cl : List (Str × Addr)) (fp : List Addr), PG (X.blk s H scope (compEnvC scope cl C X.env) fp) t g) ∧
      (∀ (s : Shared) (H : Hp) (C : Addr) (cl : List (Str × Addr)) (fp : List Addr), PTs (X.blk s H scope (compEnvC scope cl C X.env) fp) ifs tt) ∧
      (∀ (s : Shared) (H : Hp) (C : Addr) (cl : List (Str × Addr)) (fp : List Addr), PE (X.blk s H scope (compEnvC scope cl C X.env) fp) elt te) ∧
      (∀ x, foldedSetIterable iter X.env x = pure x) ∧ ∀ σ H Q, tG X.K cl (lyV X.K cl) (qt (.comp tg it cd el own)) (ev C G (.comp tg it cd el own)) W σ H Q → tLc wi g tt te (ow.map (·.2)) σ H Q := by
  match gens, hc with
  | [], hc => simp [chk] at hc
  | _ :: _ :: _, hc => simp [chk] at hc
  | [⟨t, iter, ifs, n⟩], hc =>
    by_cases hn : n = 0
    case neg => simp [chk, hn] at hc
    subst hn
    unfold chk at hc
    simp only [Bool.and_eq_true] at hc
    obtain ⟨⟨⟨⟨⟨⟨⟨hit, htg⟩, hel⟩, hif⟩, hblk⟩, hown⟩, hst⟩, hns⟩ := hc
    have hown' : ∀ i ∈ asgT tg, i ∈ own := fun i hi => by
      have := List.all_eq_true.mp hown i hi
      simpa using this
    have pi := ihit X W L tk (isTup t) iter hit t (fun z => z)
    have ok := blkOk_by hblk
    have hg : ∀ (s : Shared) (H : Hp) (D : Addr) (cc : List (Str × Addr)) (fp : List Addr), PG (X.blk s H scope (compEnvC scope cc D X.env) fp) t (tBd X.K cl tg) :=
      fun s H D cc fp => (s_bdA (X := X.blk s H scope (compEnvC scope cc D X.env) fp) L.nd L.calm scope st_blk tg).1 t htg hst
    have he : ∀ (s : Shared) (H : Hp) (D : Addr) (cc : List (Str × Addr)) (fp : List Addr), PE (X.blk s H scope (compEnvC scope cc D X.env) fp) elt (tG X.K cl (lyV X.K cl) (qt el) (ev C G el) noW) :=
      fun s H D cc fp => ihel (X.blk s H scope (compEnvC scope cc D X.env) fp) noW (lib_blk L) takes_blk elt hel
    have hte : ∀ (σ2 : Sg) w A ρ Q, Gd w A → Es X.K cl w ρ σ2 A → oG X.K cl (lyV X.K cl) false w A ρ σ2 (ev C G el ρ) Q noW → tG X.K cl (lyV X.K cl) (qt el) (ev C G el) noW σ2 w.H Q :=
      fun σ2 w A ρ Q g e h => ⟨w, A, ρ, rfl, g, e, oG.qq h⟩
    match ifs, hif with
    | [], hif =>
      have hcd : cd = .bl true := isT_of hif
      subst hcd
      refine ⟨t, iter, [], own.map fun i => ((X.N.getD i "" : Str), i), _, _, _, _, rfl, pi, ok, hg, fun _ _ _ _ _ => pts_nil, he, fold_of hns, fun σ H Q h => ?_⟩
      rw [own_snd]
      obtain ⟨w, A, ρ, rfl, g, e, h⟩ := h
      refine comp_core (qe := true) hown' rfl (fun σ2 w A ρ Q g e h => ?_) hte h g e
      have h : oG X.K cl lyB false w A ρ σ2 (.ok true ρ) Q noW := by
        rw [show tru (ev C G (.bl true) ρ) = .ok true ρ from by rw [ev] <;> rfl] at h
        exact h
      exact h w A 0 true (by rw [add0]; exact g) e ⟨rfl, rfl⟩ (by rw [add0]; exact .refl _ _) (fun z => by cases z)
    | [c], hif =>
      have ht : ∀ (s : Shared) (H : Hp) (D : Addr) (cc : List (Str × Addr)) (fp : List Addr), PTs (X.blk s H scope (compEnvC scope cc D X.env) fp) [c] (tG X.K cl lyB (qt cd) (evT G C cd) noW) :=
        fun s H D cc fp => pts_one (ihcd (X.blk s H scope (compEnvC scope cc D X.env) fp) noW (lib_blk L) takes_blk c hif)
      refine ⟨t, iter, [c], own.map fun i => ((X.N.getD i "" : Str), i), _, _, _, _, rfl, pi, ok, hg, ht, he, fold_of hns, fun σ H Q h => ?_⟩
      rw [own_snd]
      obtain ⟨w, A, ρ, rfl, g, e, h⟩ := h
      exact comp_core (qe := true) hown' rfl (fun σ2 w A ρ Q g e h => ⟨w, A, ρ, rfl, g, e, oG.qq h⟩) hte h g e
    | _ :: _ :: _, hif => cases hif
theorem s_comp (tg it cd el : E) (own : List Nat) (ihit : SndW cl G C it) (ihcd : SndT cl G C cd) (ihel : SndE cl G C el) : SndE cl G C (.comp tg it cd el own) := fun X W L tk t hc => by
  cases t <;> first | (simp [chk] at hc; done) | skip
  rename_i elt gens scope p
  obtain ⟨t, iter, ifs, ow, wi, g, tt, te, rfl, pi, ok, hg, ht, he, hs, wk⟩ := comp_data tg it cd el own ihit ihcd ihel X W L tk hc
  exact PE.weak (pe_lc L.calm L.nd pi ok hg ht he hs) wk

/-- everything of an expression -/
structure SndAll (cl : Str → Option Addr) (G : Str → Option D) (C : CT) (e : E) : Prop where
  E : SndE cl G C e
  T : SndT cl G C e
  L : SndL cl G C e
  A : SndA cl G C e
  W : SndW cl G C e
theorem noL {e : E} (h : ∀ N sc t, chks N sc e t = false) : SndL cl G C e := fun X W L tk t hc => by rw [h] at hc; cases hc
theorem noA {e : E} (h : ∀ N sc t, chks N sc e t = false) : SndA cl G C e := fun X W L tk t hc => by rw [h] at hc; cases hc
theorem noE {e : E} (h : ∀ N sc t, chk N sc e t = false) : SndE cl G C e := fun X W L tk t hc => by rw [h] at hc; cases hc
theorem noT {e : E} (h : ∀ N sc t, chk N sc e t = false) : SndT cl G C e := fun X W L tk t hc => by rw [h] at hc; cases hc
theorem plT {e : E} (ih : SndE cl G C e) (h : ∀ N sc t, chk N sc e t = true → plainT t = true) : SndT cl G C e := fun X W L tk t hc => sT_gen ih X W L tk t hc (h _ _ _ hc)
theorem s_seqW (a : E) (ih : SndE cl G C a) : SndW cl G C (.seq a) := fun X W L tk tp t hc tg htg => by
  have hc : (chk X.N X.env.scope a t && noSet t) = true := hc
  have := sW_seq a ih X W L tk t tg hc
  have he : evw C G (.seq a) = fun ρ => (ev C G a ρ).bind fun (d, p) ρ1 => walkD d p ρ1 := funext fun ρ => by rw [evw]
  rw [he]
  exact this
theorem noW_ {e : E} (h : ∀ N sc tp t, chkW N sc tp e t = false) : SndW cl G C e := fun X W L tk tp t hc => by rw [h] at hc; cases hc
theorem snd : ∀ e : E, SndAll cl G C e := by
  intro e
  induction e with
  | nil => exact ⟨noE fun N sc t => by cases t <;> rfl, noT fun N sc t => by cases t <;> rfl, sL_nil, sA_nil, noW_ (by intro N sc tp t; rfl)⟩
  | cons a r iha ihr => exact ⟨noE fun N sc t => by cases t <;> rfl, noT fun N sc t => by cases t <;> rfl, sL_cons a r iha.E ihr.L, sA_cons a r iha.E ihr.A, noW_ (by intro N sc tp t; rfl)⟩
  | v i =>
    have hE : SndE cl G C (.v i : E) := s_v i
    have hT : SndT cl G C (.v i : E) := plT hE (by intro N sc t h; cases t <;> first | rfl | (simp [chk] at h; done) | (rename_i op _ _; cases op <;> first | rfl | (simp [chk] at h; done)))
    have hW : SndW cl G C (.v i : E) := noW_ (by intro N sc tp t; rfl)
    exact ⟨hE, hT, noL (by intro N sc t; cases t <;> rfl), noA (by intro N sc t; cases t <;> rfl), hW⟩
  | fz p ih =>
    have hE : SndE cl G C (.fz p : E) := s_fz p ih.E
    have hT : SndT cl G C (.fz p : E) := plT hE (by
      intro N sc t h
      unfold chk at h
      rw [Bool.and_eq_true] at h
      cases p <;> first | (exact absurd h.1 Bool.false_ne_true) | (cases t <;> first | rfl | (simp [chk] at h; done)))
    have hW : SndW cl G C (.fz p : E) := noW_ (by intro N sc tp t; rfl)
    exact ⟨hE, hT, noL (by intro N sc t; cases t <;> rfl), noA (by intro N sc t; cases t <;> rfl), hW⟩
  | mv i =>
    have hE : SndE cl G C (.mv i : E) := s_mv i
    have hT : SndT cl G C (.mv i : E) := plT hE (by intro N sc t h; cases t <;> first | rfl | (simp [chk] at h; done) | (rename_i op _ _; cases op <;> first | rfl | (simp [chk] at h; done)))
    have hW : SndW cl G C (.mv i : E) := noW_ (by intro N sc tp t; rfl)
    exact ⟨hE, hT, noL (by intro N sc t; cases t <;> rfl), noA (by intro N sc t; cases t <;> rfl), hW⟩
  | g x =>
    have hE : SndE cl G C (.g x : E) := s_g x
    have hT : SndT cl G C (.g x : E) := plT hE (by intro N sc t h; cases t <;> first | rfl | (simp [chk] at h; done) | (rename_i op _ _; cases op <;> first | rfl | (simp [chk] at h; done)))
    have hW : SndW cl G C (.g x : E) := noW_ (by intro N sc tp t; rfl)
    exact ⟨hE, hT, noL (by intro N sc t; cases t <;> rfl), noA (by intro N sc t; cases t <;> rfl), hW⟩
  | int i =>
    have hE : SndE cl G C (.int i : E) := s_int i
    have hT : SndT cl G C (.int i : E) := plT hE (by intro N sc t h; cases t <;> first | rfl | (simp [chk] at h; done) | (rename_i op _ _; cases op <;> first | rfl | (simp [chk] at h; done)))
    have hW : SndW cl G C (.int i : E) := noW_ (by intro N sc tp t; rfl)
    exact ⟨hE, hT, noL (by intro N sc t; cases t <;> rfl), noA (by intro N sc t; cases t <;> rfl), hW⟩
  | str x =>
    have hE : SndE cl G C (.str x : E) := s_str x
    have hT : SndT cl G C (.str x : E) := plT hE (by intro N sc t h; cases t <;> first | rfl | (simp [chk] at h; done) | (rename_i op _ _; cases op <;> first | rfl | (simp [chk] at h; done)))
    have hW : SndW cl G C (.str x : E) := noW_ (by intro N sc tp t; rfl)
    exact ⟨hE, hT, noL (by intro N sc t; cases t <;> rfl), noA (by intro N sc t; cases t <;> rfl), hW⟩
  | bl b =>
    have hE : SndE cl G C (.bl b : E) := s_bl b
    have hT : SndT cl G C (.bl b : E) := plT hE (by intro N sc t h; cases t <;> first | rfl | (simp [chk] at h; done) | (rename_i op _ _; cases op <;> first | rfl | (simp [chk] at h; done)))
    have hW : SndW cl G C (.bl b : E) := noW_ (by intro N sc tp t; rfl)
    exact ⟨hE, hT, noL (by intro N sc t; cases t <;> rfl), noA (by intro N sc t; cases t <;> rfl), hW⟩
  | non =>
    have hE : SndE cl G C (.non : E) := s_non
    have hT : SndT cl G C (.non : E) := plT hE (by intro N sc t h; cases t <;> first | rfl | (simp [chk] at h; done) | (rename_i op _ _; cases op <;> first | rfl | (simp [chk] at h; done)))
    have hW : SndW cl G C (.non : E) := noW_ (by intro N sc tp t; rfl)
    exact ⟨hE, hT, noL (by intro N sc t; cases t <;> rfl), noA (by intro N sc t; cases t <;> rfl), hW⟩
  | ix a i iha ihi =>
    have hE : SndE cl G C (.ix a i : E) := s_ix a i iha.E ihi.E
    have hT : SndT cl G C (.ix a i : E) := plT hE (by intro N sc t h; cases t <;> first | rfl | (simp [chk] at h; done) | (rename_i op _ _; cases op <;> first | rfl | (simp [chk] at h; done)))
    have hW : SndW cl G C (.ix a i : E) := noW_ (by intro N sc tp t; rfl)
    exact ⟨hE, hT, noL (by intro N sc t; cases t <;> rfl), noA (by intro N sc t; cases t <;> rfl), hW⟩
  | fld a f ih =>
    have hE : SndE cl G C (.fld a f : E) := s_fld a f ih.E
    have hT : SndT cl G C (.fld a f : E) := plT hE (by intro N sc t h; cases t <;> first | rfl | (simp [chk] at h; done) | (rename_i op _ _; cases op <;> first | rfl | (simp [chk] at h; done)))
    have hW : SndW cl G C (.fld a f : E) := noW_ (by intro N sc tp t; rfl)
    exact ⟨hE, hT, noL (by intro N sc t; cases t <;> rfl), noA (by intro N sc t; cases t <;> rfl), hW⟩
  | sl a lo hi iha ihl ihh =>
    have hE : SndE cl G C (.sl a lo hi : E) := s_sl a lo hi iha.E ihl.E ihh.E
    have hT : SndT cl G C (.sl a lo hi : E) := plT hE (by intro N sc t h; cases t <;> first | rfl | (simp [chk] at h; done) | (rename_i op _ _; cases op <;> first | rfl | (simp [chk] at h; done)))
    have hW : SndW cl G C (.sl a lo hi : E) := noW_ (by intro N sc tp t; rfl)
    exact ⟨hE, hT, noL (by intro N sc t; cases t <;> rfl), noA (by intro N sc t; cases t <;> rfl), hW⟩
  | nop =>
    have hE : SndE cl G C (.nop : E) := noE (by intro N sc t; cases t <;> rfl)
    have hT : SndT cl G C (.nop : E) := noT (by intro N sc t; cases t <;> rfl)
    have hW : SndW cl G C (.nop : E) := noW_ (by intro N sc tp t; rfl)
    exact ⟨hE, hT, noL (by intro N sc t; cases t <;> rfl), noA (by intro N sc t; cases t <;> rfl), hW⟩
  | bin op a b iha ihb =>
    have hE : SndE cl G C (.bin op a b : E) := s_bin op a b iha.E ihb.E
    have hT : SndT cl G C (.bin op a b : E) := plT hE (by intro N sc t h; cases t <;> first | rfl | (simp [chk] at h; done) | (rename_i op _ _; cases op <;> first | rfl | (simp [chk] at h; done)))
    have hW : SndW cl G C (.bin op a b : E) := noW_ (by intro N sc tp t; rfl)
    exact ⟨hE, hT, noL (by intro N sc t; cases t <;> rfl), noA (by intro N sc t; cases t <;> rfl), hW⟩
  | neg a ih =>
    have hE : SndE cl G C (.neg a : E) := s_neg a ih.E
    have hT : SndT cl G C (.neg a : E) := plT hE (by intro N sc t h; cases t <;> first | rfl | (simp [chk] at h; done) | (rename_i op _ _; cases op <;> first | rfl | (simp [chk] at h; done)))
    have hW : SndW cl G C (.neg a : E) := noW_ (by intro N sc tp t; rfl)
    exact ⟨hE, hT, noL (by intro N sc t; cases t <;> rfl), noA (by intro N sc t; cases t <;> rfl), hW⟩
  | not a ih =>
    have hE : SndE cl G C (.not a : E) := s_not a ih.E
    have hT : SndT cl G C (.not a : E) := sT_not a ih.T
    have hW : SndW cl G C (.not a : E) := noW_ (by intro N sc tp t; rfl)
    exact ⟨hE, hT, noL (by intro N sc t; cases t <;> rfl), noA (by intro N sc t; cases t <;> rfl), hW⟩
  | cmp op a b iha ihb =>
    have hE : SndE cl G C (.cmp op a b : E) := s_cmp op a b iha.E ihb.E
    have hT : SndT cl G C (.cmp op a b : E) := sT_cmp op a b iha.E ihb.E
    have hW : SndW cl G C (.cmp op a b : E) := noW_ (by intro N sc tp t; rfl)
    exact ⟨hE, hT, noL (by intro N sc t; cases t <;> rfl), noA (by intro N sc t; cases t <;> rfl), hW⟩
  | chain op op' a b c iha ihb ihc =>
    have hE : SndE cl G C (.chain op op' a b c : E) := s_chain op op' a b c iha.E ihb.E ihc.E
    have hT : SndT cl G C (.chain op op' a b c : E) := sT_chain op op' a b c iha.E ihb.E ihc.E
    have hW : SndW cl G C (.chain op op' a b c : E) := noW_ (by intro N sc tp t; rfl)
    exact ⟨hE, hT, noL (by intro N sc t; cases t <;> rfl), noA (by intro N sc t; cases t <;> rfl), hW⟩
  | and a b iha ihb =>
    have hE : SndE cl G C (.and a b : E) := s_and a b iha.E ihb.E
    have hT : SndT cl G C (.and a b : E) := sT_and a b iha.T ihb.T
    have hW : SndW cl G C (.and a b : E) := noW_ (by intro N sc tp t; rfl)
    exact ⟨hE, hT, noL (by intro N sc t; cases t <;> rfl), noA (by intro N sc t; cases t <;> rfl), hW⟩
  | or a b iha ihb =>
    have hE : SndE cl G C (.or a b : E) := s_or a b iha.E ihb.E
    have hT : SndT cl G C (.or a b : E) := sT_or a b iha.T ihb.T
    have hW : SndW cl G C (.or a b : E) := noW_ (by intro N sc tp t; rfl)
    exact ⟨hE, hT, noL (by intro N sc t; cases t <;> rfl), noA (by intro N sc t; cases t <;> rfl), hW⟩
  | ite c a b ihc iha ihb =>
    have hE : SndE cl G C (.ite c a b : E) := s_ite c a b ihc.T iha.E ihb.E
    have hT : SndT cl G C (.ite c a b : E) := sT_ite c a b ihc.T iha.T ihb.T
    have hW : SndW cl G C (.ite c a b : E) := noW_ (by intro N sc tp t; rfl)
    exact ⟨hE, hT, noL (by intro N sc t; cases t <;> rfl), noA (by intro N sc t; cases t <;> rfl), hW⟩
  | tup es ih =>
    have hE : SndE cl G C (.tup es : E) := s_tup es ih.L
    have hT : SndT cl G C (.tup es : E) := plT hE (by intro N sc t h; cases t <;> first | rfl | (simp [chk] at h; done) | (rename_i op _ _; cases op <;> first | rfl | (simp [chk] at h; done)))
    have hW : SndW cl G C (.tup es : E) := noW_ (by intro N sc tp t; rfl)
    exact ⟨hE, hT, noL (by intro N sc t; cases t <;> rfl), noA (by intro N sc t; cases t <;> rfl), hW⟩
  | lst es ih =>
    have hE : SndE cl G C (.lst es : E) := s_lst es ih.L
    have hT : SndT cl G C (.lst es : E) := plT hE (by intro N sc t h; cases t <;> first | rfl | (simp [chk] at h; done) | (rename_i op _ _; cases op <;> first | rfl | (simp [chk] at h; done)))
    have hW : SndW cl G C (.lst es : E) := noW_ (by intro N sc tp t; rfl)
    exact ⟨hE, hT, noL (by intro N sc t; cases t <;> rfl), noA (by intro N sc t; cases t <;> rfl), hW⟩
  | call f as ih =>
    have hE : SndE cl G C (.call f as : E) := s_call f as ih.A
    have hT : SndT cl G C (.call f as : E) := plT hE (by intro N sc t h; cases t <;> first | rfl | (simp [chk] at h; done) | (rename_i op _ _; cases op <;> first | rfl | (simp [chk] at h; done)))
    have hW : SndW cl G C (.call f as : E) := noW_ (by intro N sc tp t; rfl)
    exact ⟨hE, hT, noL (by intro N sc t; cases t <;> rfl), noA (by intro N sc t; cases t <;> rfl), hW⟩
  | b1 f a ih =>
    have hE : SndE cl G C (.b1 f a : E) := s_b1 f a ih.E
    have hT : SndT cl G C (.b1 f a : E) := plT hE (by intro N sc t h; cases t <;> first | rfl | (simp [chk] at h; done) | (rename_i op _ _; cases op <;> first | rfl | (simp [chk] at h; done)))
    have hW : SndW cl G C (.b1 f a : E) := noW_ (by intro N sc tp t; rfl)
    exact ⟨hE, hT, noL (by intro N sc t; cases t <;> rfl), noA (by intro N sc t; cases t <;> rfl), hW⟩
  | b2 f a b iha ihb =>
    have hE : SndE cl G C (.b2 f a b : E) := s_b2 f a b iha.E ihb.E
    have hT : SndT cl G C (.b2 f a b : E) := plT hE (by intro N sc t h; cases t <;> first | rfl | (simp [chk] at h; done) | (rename_i op _ _; cases op <;> first | rfl | (simp [chk] at h; done)))
    have hW : SndW cl G C (.b2 f a b : E) := noW_ (by intro N sc tp t; rfl)
    exact ⟨hE, hT, noL (by intro N sc t; cases t <;> rfl), noA (by intro N sc t; cases t <;> rfl), hW⟩
  | isi a ty ih =>
    have hE : SndE cl G C (.isi a ty : E) := s_isi a ty ih.E
    have hT : SndT cl G C (.isi a ty : E) := plT hE (by intro N sc t h; cases t <;> first | rfl | (simp [chk] at h; done) | (rename_i op _ _; cases op <;> first | rfl | (simp [chk] at h; done)))
    have hW : SndW cl G C (.isi a ty : E) := noW_ (by intro N sc tp t; rfl)
    exact ⟨hE, hT, noL (by intro N sc t; cases t <;> rfl), noA (by intro N sc t; cases t <;> rfl), hW⟩
  | mm m o as iho iha =>
    have hE : SndE cl G C (.mm m o as : E) := s_mm m o as iho.E iha.L
    have hT : SndT cl G C (.mm m o as : E) := plT hE (by intro N sc t h; cases t <;> first | rfl | (simp [chk] at h; done) | (rename_i op _ _; cases op <;> first | rfl | (simp [chk] at h; done)))
    have hW : SndW cl G C (.mm m o as : E) := noW_ (by intro N sc tp t; rfl)
    exact ⟨hE, hT, noL (by intro N sc t; cases t <;> rfl), noA (by intro N sc t; cases t <;> rfl), hW⟩
  | comp tg it cd el own iht ihi ihc ihe =>
    have hE : SndE cl G C (.comp tg it cd el own : E) := s_comp tg it cd el own ihi.W ihc.T ihe.E
    have hT : SndT cl G C (.comp tg it cd el own : E) := plT hE (by intro N sc t h; cases t <;> first | rfl | (simp [chk] at h; done) | (rename_i op _ _; cases op <;> first | rfl | (simp [chk] at h; done)))
    have hW : SndW cl G C (.comp tg it cd el own : E) := noW_ (by intro N sc tp t; rfl)
    exact ⟨hE, hT, noL (by intro N sc t; cases t <;> rfl), noA (by intro N sc t; cases t <;> rfl), hW⟩
  | seq a ih =>
    have hE : SndE cl G C (.seq a : E) := noE (by intro N sc t; cases t <;> rfl)
    have hT : SndT cl G C (.seq a : E) := noT (by intro N sc t; cases t <;> rfl)
    have hW : SndW cl G C (.seq a : E) := s_seqW a ih.E
    exact ⟨hE, hT, noL (by intro N sc t; cases t <;> rfl), noA (by intro N sc t; cases t <;> rfl), hW⟩
  | rng1 a ih =>
    have hE : SndE cl G C (.rng1 a : E) := noE (by intro N sc t; cases t <;> rfl)
    have hT : SndT cl G C (.rng1 a : E) := noT (by intro N sc t; cases t <;> rfl)
    have hW : SndW cl G C (.rng1 a : E) := sW_rng1 a ih.E
    exact ⟨hE, hT, noL (by intro N sc t; cases t <;> rfl), noA (by intro N sc t; cases t <;> rfl), hW⟩
  | rng2 a b iha ihb =>
    have hE : SndE cl G C (.rng2 a b : E) := noE (by intro N sc t; cases t <;> rfl)
    have hT : SndT cl G C (.rng2 a b : E) := noT (by intro N sc t; cases t <;> rfl)
    have hW : SndW cl G C (.rng2 a b : E) := sW_rng2 a b iha.E ihb.E
    exact ⟨hE, hT, noL (by intro N sc t; cases t <;> rfl), noA (by intro N sc t; cases t <;> rfl), hW⟩
  | rng3 a b c iha ihb ihc =>
    have hE : SndE cl G C (.rng3 a b c : E) := noE (by intro N sc t; cases t <;> rfl)
    have hT : SndT cl G C (.rng3 a b c : E) := noT (by intro N sc t; cases t <;> rfl)
    have hW : SndW cl G C (.rng3 a b c : E) := sW_rng3 a b c iha.E ihb.E ihc.E
    exact ⟨hE, hT, noL (by intro N sc t; cases t <;> rfl), noA (by intro N sc t; cases t <;> rfl), hW⟩
  | enm a ih =>
    have hE : SndE cl G C (.enm a : E) := noE (by intro N sc t; cases t <;> rfl)
    have hT : SndT cl G C (.enm a : E) := noT (by intro N sc t; cases t <;> rfl)
    have hW : SndW cl G C (.enm a : E) := sW_enm a ih.E
    exact ⟨hE, hT, noL (by intro N sc t; cases t <;> rfl), noA (by intro N sc t; cases t <;> rfl), hW⟩
  | zip a b iha ihb =>
    have hE : SndE cl G C (.zip a b : E) := noE (by intro N sc t; cases t <;> rfl)
    have hT : SndT cl G C (.zip a b : E) := noT (by intro N sc t; cases t <;> rfl)
    have hW : SndW cl G C (.zip a b : E) := sW_zip a b iha.E ihb.E
    exact ⟨hE, hT, noL (by intro N sc t; cases t <;> rfl), noA (by intro N sc t; cases t <;> rfl), hW⟩
  | rev a ih =>
    have hE : SndE cl G C (.rev a : E) := noE (by intro N sc t; cases t <;> rfl)
    have hT : SndT cl G C (.rev a : E) := noT (by intro N sc t; cases t <;> rfl)
    have hW : SndW cl G C (.rev a : E) := noW_ (by intro N sc tp t; rfl)
    exact ⟨hE, hT, noL (by intro N sc t; cases t <;> rfl), noA (by intro N sc t; cases t <;> rfl), hW⟩
  | xfld f =>
    have hE : SndE cl G C (.xfld f : E) := noE (by intro N sc t; cases t <;> rfl)
    have hT : SndT cl G C (.xfld f : E) := noT (by intro N sc t; cases t <;> rfl)
    have hW : SndW cl G C (.xfld f : E) := noW_ (by intro N sc tp t; rfl)
    exact ⟨hE, hT, noL (by intro N sc t; cases t <;> rfl), noA (by intro N sc t; cases t <;> rfl), hW⟩
end
end Ev

/-! Ev, part T: statements. -/
namespace Ev
open PySem PySem.Spec PyProof.Rows L2

/-! ### the check -/
def swB (sc : Scope) (ts vs : List Expr) : Option (Option (List Str)) :=
  if (!(ts.length == 2 || ts.length == 3) || vs.length != ts.length) then some none
  else if vs.all plainE = false then some none
  else if ((ts.filterMap fun | .Name id pos => if sc.names.lookup id == some .local && pos.line == (ts.head?.map (·.pos.line)).getD 0 then some id else none | _ => none).length != ts.length ||
      (ts.filterMap fun | .Name id pos => if sc.names.lookup id == some .local && pos.line == (ts.head?.map (·.pos.line)).getD 0 then some id else none | _ => none).eraseDups.length !=
      (ts.filterMap fun | .Name id pos => if sc.names.lookup id == some .local && pos.line == (ts.head?.map (·.pos.line)).getD 0 then some id else none | _ => none).length) then some none
  else if vs.all (foldedForSure 8) then some none
  else if vs.all (constantsAlone 8) then none
  else some (some (ts.filterMap fun | .Name id pos => if sc.names.lookup id == some .local && pos.line == (ts.head?.map (·.pos.line)).getD 0 then some id else none | _ => none))
def isNone3 : Option (Option (List Str)) → Bool | some none => true | _ => false
/-- a plain store in the order of the text -/
def inOrd (sc : Scope) (t v : Expr) : Bool := match t, v with
  | .Tuple ts _ _, .Tuple vs _ _ => isNone3 (swB sc ts vs)
  | .Tuple _ _ _, _ => true
  | .Name _ _, _ => true
  | .Subscript _ _ _, _ => true
  | .Attribute _ _ _, _ => true
  | _, _ => false
def isCompE : Expr → Bool | .ListComp .. => true | .SetComp .. => true | .DictComp .. => true | _ => false
def isNameE : Expr → Bool | .Name .. => true | _ => false
/-- name = [..], stored within -/
def swC (sc : Scope) : Expr → Expr → Bool
  | .Name x px, .ListComp elt gens s p => decide (sc.names.lookup x = some .local) && (px.line == (Expr.ListComp elt gens s p).pos.line) && !(s.names.any fun (n, k) => n == x && (k == .local || k == .cell))
  | _, _ => false
def isCE : E → Bool | .comp _ _ _ _ _ => true | _ => false
/-- an except suite's value -/
def chkH : E → Expr → Bool
  | .int i, .Constant (.int j) _ _ => decide (i = j)
  | .str x, .Constant (.str y) _ _ => decide (x = y)
  | .bl b, .Constant (.bool c) _ _ => decide (b = c)
  | .non, .Constant .none _ _ => true
  | .tup es, .Tuple xs _ _ => chkHs es xs
  | .lst es, .List xs _ => chkHs es xs
  | _, _ => false
where chkHs : E → List Expr → Bool
  | .nil, [] => true
  | .cons a r, e :: es => chkH a e && plainE e && chkHs r es
  | _, _ => false
section
variable (N : List Str) (sc : Scope)
mutual
def chkS : S → Stmt → Bool
  | .asg t e, .Assign [t'] e' _ => chkT N sc t t' && chk N sc e e' && stB sc t' && inOrd sc t' e' && (!(isCompE e' && isNameE t') || (isCE e && true)) && plainE t'
  | .par2 i j a b, .Assign [.Tuple [.Name x px, .Name y py] kt pt] (.Tuple [a', b'] k2 p2) _ => decide (N[i]? = some x) && decide (N[j]? = some y) && decide (i ≠ j) && decide (sc.names.lookup x = some .local) && decide (sc.names.lookup y = some .local) &&
      chk N sc a a' && chk N sc b b' && plainE a' && plainE b' && decide (swB sc [.Name x px, .Name y py] [a', b'] = some (some [x, y]))
  | .par3 i j k es, .Assign [.Tuple [.Name x px, .Name y py, .Name z pz] kt pt] (.Tuple es' k2 p2) _ => decide (N[i]? = some x) && decide (N[j]? = some y) && decide (N[k]? = some z) && decide (i ≠ j ∧ j ≠ k ∧ i ≠ k) && decide (sc.names.lookup x = some .local) && decide (sc.names.lookup y = some .local) && decide (sc.names.lookup z = some .local) &&
      chks N sc es es' && decide (swB sc [.Name x px, .Name y py, .Name z pz] es' = some (some [x, y, z]))
  | .raise c, .Raise (some (.Call (.Name x _) [] [] _)) none _ => decide (x = c) && gloB sc x && okN x
  | .tryy b c e, .Try body [.ExceptHandler (some (.Name x _)) none [.Return (some e') _] _] [] [] _ => decide (x = c) && gloB sc x && okN x && chkSs b body && chkH e e'
  | .aug i op e, .AugAssign (.Name x _) op' e' _ => decide (N[i]? = some x) && locB sc x && okN x && decide (op' = op.op) && decide (op ≠ .pow) && chk N sc e e'
  | .put p i e, .Assign [.Subscript p' i' _] e' _ => chk N sc p p' && chk N sc i i' && chk N sc e e' && noSl i'
  | .ex e, .Expr e' _ => chk N sc e e' && !isCompE e'
  | .ret e, .Return (some e') _ => chk N sc e e'
  | .retN, .Return none _ => true
  | .iff c a b, .If c' a' b' _ => chk N sc c c' && chkSs a a' && chkSs b b'
  | .whl c b, .While c' b' [] _ => chk N sc c c' && chkSs b b'
  | .forr t it b, .For t' it' b' [] _ => chkT N sc t t' && stB sc t' && chkW N sc (isTup t') it it' && chkSs b b' && noSet it'
  | .brk, .Break _ => true
  | .cont, .Continue _ => true
  | .pass, .Pass _ => true
  | _, _ => false
def chkSs : S → List Stmt → Bool
  | .nil, [] => true
  | .cons s r, t :: ts => chkS s t && chkSs r ts
  | _, _ => false
end
end

/-! ### readings -/
section
variable (K : PySem.W.Frag) (cl : Str → Option Addr)
/-- an outcome of a block serves what is wanted; asg: the slots that it may store -/
def oS (asg : List Nat) (w : Hs) (A : Ft) (σ : Sg) : Fl → Ends → WX → Prop
  | .nx ρ', D, _ => ∀ w' A' σ', Gd w' A' → Es K cl w' ρ' σ' A' → Ext w A w' A' → (∀ i, i ∉ asg → σ'[i]? = σ[i]?) → D.nx σ' w'.H
  | .ret d ρ', D, _ => ∀ w' A' B σ' v, Gd w' (A' + B) → Es K cl w' ρ' σ' A' → T K cl w' d v B → Ext w A w' (A' + B) → (∀ i, i ∉ asg → σ'[i]? = σ[i]?) → D.rt v w'.H
  | .brk ρ', D, _ => ∀ w' A' σ', Gd w' A' → Es K cl w' ρ' σ' A' → Ext w A w' A' → (∀ i, i ∉ asg → σ'[i]? = σ[i]?) → D.bk σ' w'.H
  | .ct ρ', D, _ => ∀ w' A' σ', Gd w' A' → Es K cl w' ρ' σ' A' → Ext w A w' A' → (∀ i, i ∉ asg → σ'[i]? = σ[i]?) → D.ct σ' w'.H
  | .exc x ρ', _, W => ∀ w' A' σ' cls dd, Gd w' A' → Es K cl w' ρ' σ' A' → Ext w A w' A' → (∀ i, i ∉ asg → σ'[i]? = σ[i]?) → ExR K cl w' x cls dd → W cls dd σ' w'.H
  | .bad, _, _ => False
def tS (asg : List Nat) (f : Env → Fl) (W : WX) : TS := fun D σ H => ∃ w A ρ, w.H = H ∧ Gd w A ∧ Es K cl w ρ σ A ∧ oS K cl asg w A σ (f ρ) D W
end
/-- what a def's body has besides -/
structure Ctx (cl : Str → Option Addr) (G : Str → Option D) (isSub : Str → Str → Bool) (X : Cx) : Prop where
  po : PassesOwn (model X.prog X.w) X.A X.env X.xe
  fn : ∀ x, X.fn x = true
  hs : X.stack = X.env :: X.outer
  hf : X.env.frame = some X.env.locals
  ex : ∀ c b, G (excKey c) = some (.bl b) → ∃ a, cl c = some a ∧ X.mg c = some (.ref a) ∧ (b = true → PySem.W.excIn X.K a [.type "ValueError", .type "Exception", .type "BaseException", .type "object"] "ValueError.__new__" = true ∧
    PySem.W.keepIn X.K (.ref a) = true ∧ PySem.W.subIn X.K (.ref a) (.type "BaseException") = some true ∧ PySem.W.typeIn X.K (.ref a) = some (.type "type"))
  exb : ∀ c d, G (excKey c) = some d → ∃ b, d = .bl b
  sub : ∀ x c a b, cl x = some a → cl c = some b → PySem.W.exmOne X.K (.ref a) (.ref b) = some (isSub x c)
section
variable (cl : Str → Option Addr) (G : Str → Option D) (C : CT) (isSub : Str → Str → Bool) (nW : Nat)
def SndS (s : S) : Prop := ∀ (X : Cx) (W : WX) (L : Lib cl G C X) (Y : Ctx cl G isSub X) (tk : Takes X W) (t : Stmt), chkS X.N X.env.scope s t = true → PS X t (tS X.K cl (asgS s) (evS C G isSub nW s) W)
def SndSs (s : S) : Prop := ∀ (X : Cx) (W : WX) (L : Lib cl G C X) (Y : Ctx cl G isSub X) (tk : Takes X W) (t : List Stmt), chkSs X.N X.env.scope s t = true → PSs X t (tS X.K cl (asgS s) (evS C G isSub nW s) W)
end

section
variable {cl : Str → Option Addr} {G : Str → Option D} {C : CT} {isSub : Str → Str → Bool} {nW : Nat} {X : Cx} {W : WX}
theorem PS.weak {t : Stmt} {u v : TS} (h : PS X t u) (k : ∀ D σ H, v D σ H → u D σ H) : PS X t v := ⟨fun pins s σ H D I q => h.run pins s σ H D I (k D σ H q)⟩
theorem PSs.weak {t : List Stmt} {u v : TS} (h : PSs X t u) (k : ∀ D σ H, v D σ H → u D σ H) : PSs X t v := ⟨fun pins s σ H D I q => h.run pins s σ H D I (k D σ H q)⟩
/-- where a block stands -/
structure AtS (K : PySem.W.Frag) (cl : Str → Option Addr) (asg : List Nat) (w0 : Hs) (A0 : Ft) (σ0 : Sg) (w : Hs) (A : Ft) (ρ : Env) (σ : Sg) : Prop where
  gd : Gd w A
  es : Es K cl w ρ σ A
  ext : Ext w0 A0 w A
  st : ∀ i, i ∉ asg → σ[i]? = σ0[i]?
/-- what is wanted from another start -/
theorem oS.shift {K : PySem.W.Frag} {asg asg2 : List Nat} {w0 w : Hs} {A0 A B : Ft} {σ0 σ : Sg} {o : Fl} {D : Ends} (h : oS K cl asg w0 A0 σ0 o D W) (x : Ext w0 A0 w (A + B)) (st : ∀ i, i ∉ asg → σ[i]? = σ0[i]?) (hs : ∀ i, i ∈ asg2 → i ∈ asg) : oS K cl asg2 w A σ o D W := by
  have xt : ∀ {w' : Hs} {C : Ft}, Ext w A w' C → Ext w0 A0 w' C := fun y => x.trans (y.pre fun b x p => by rw [add_at]; omega)
  have ss : ∀ {σ' : Sg}, (∀ i, i ∉ asg2 → σ'[i]? = σ[i]?) → ∀ i, i ∉ asg → σ'[i]? = σ0[i]? := fun z i hi => (z i fun q => hi (hs i q)).trans (st i hi)
  cases o with
  | nx ρ' => exact fun w' A' σ' g e y z => h w' A' σ' g e (xt y) (ss z)
  | ret d ρ' => exact fun w' A' B' σ' v g e t y z => h w' A' B' σ' v g e t (xt y) (ss z)
  | brk ρ' => exact fun w' A' σ' g e y z => h w' A' σ' g e (xt y) (ss z)
  | ct ρ' => exact fun w' A' σ' g e y z => h w' A' σ' g e (xt y) (ss z)
  | exc x ρ' => exact fun w' A' σ' cls dd g e y z r => h w' A' σ' cls dd g e (xt y) (ss z) r
  | bad => exact h
/-- an expression, then more -/
theorem oS.expr {K : PySem.W.Frag} {α β : Type} {ly : Ly α β} {asg : List Nat} {w0 : Hs} {A0 : Ft} {ρ0 : Env} {σ0 : Sg} {o : Out α} {f : α → Env → Fl} {D : Ends} {R : β → Hp → Prop} (h : oS K cl asg w0 A0 σ0 (o.fl f) D W)
    (k : ∀ x ρ1 w1 A1 B1 b, Gd w1 (A1 + B1) → Es K cl w1 ρ1 σ0 A1 → Ext w0 A0 w1 (A1 + B1) → ly w1 ρ1 σ0 A1 x b B1 → oS K cl asg w0 A0 σ0 (f x ρ1) D W → R b w1.H) (q : Bool) :
    oG K cl ly q w0 A0 ρ0 σ0 o R W := by
  cases o with
  | bad => exact h
  | ok x ρ1 => exact fun w1 A1 B1 b g e l x1 _ => k x ρ1 w1 A1 B1 b g e x1 l h
  | exc x ρ1 => exact fun w1 A1 cls dd g e x1 r => h w1 A1 σ0 cls dd g e x1 (fun _ _ => rfl) r
theorem oS.exprU {K : PySem.W.Frag} {asg : List Nat} {w0 : Hs} {A0 : Ft} {ρ0 : Env} {σ0 : Sg} {o : Out (D × Option Pl)} {f : D → Env → Fl} {D : Ends} {R : V → Hp → Prop} (h : oS K cl asg w0 A0 σ0 ((use o).fl f) D W)
    (k : ∀ x ρ1 w1 A1 B1 b, Gd w1 (A1 + B1) → Es K cl w1 ρ1 σ0 A1 → Ext w0 A0 w1 (A1 + B1) → T K cl w1 x b B1 → oS K cl asg w0 A0 σ0 (f x ρ1) D W → R b w1.H) (q : Bool) :
    oG K cl (lyV K cl) q w0 A0 ρ0 σ0 o R W := by
  cases o with
  | bad => exact h
  | ok x ρ1 =>
    obtain ⟨d, pl⟩ := x
    intro w1 A1 B1 b g e l x1 _
    cases pl with
    | none => exact k d ρ1 w1 A1 B1 b g e x1 l h
    | some p =>
      obtain ⟨rfl, fc⟩ := l
      by_cases hf : isFrz d = true
      · rw [show use (.ok (d, some p) ρ1) = .ok d ρ1 from if_pos hf] at h
        obtain ⟨A', Ar, t, _⟩ := fc.tree
        exact k d ρ1 w1 A1 0 b g e x1 (t.frz hf) h
      · rw [show use (.ok (d, some p) ρ1) = .bad from if_neg hf] at h
        exact (show False from h).elim
  | exc x ρ1 => exact fun w1 A1 cls dd g e x1 r => h w1 A1 σ0 cls dd g e x1 (fun _ _ => rfl) r

/-! ### small statements -/
theorem ss_pass : SndS cl G C isSub nW .pass := fun X W L Y tk t hc => by
  cases t <;> first | (simp [chkS] at hc; done) | skip
  refine PS.weak ps_pass fun D σ H h => ?_
  obtain ⟨w, A, ρ, rfl, g, e, h⟩ := h
  exact h w A σ g e (.refl _ _) fun _ _ => rfl
theorem ss_brk : SndS cl G C isSub nW .brk := fun X W L Y tk t hc => by
  cases t <;> first | (simp [chkS] at hc; done) | skip
  refine PS.weak ps_break fun D σ H h => ?_
  obtain ⟨w, A, ρ, rfl, g, e, h⟩ := h
  exact h w A σ g e (.refl _ _) fun _ _ => rfl
theorem ss_cont : SndS cl G C isSub nW .cont := fun X W L Y tk t hc => by
  cases t <;> first | (simp [chkS] at hc; done) | skip
  refine PS.weak ps_continue fun D σ H h => ?_
  obtain ⟨w, A, ρ, rfl, g, e, h⟩ := h
  exact h w A σ g e (.refl _ _) fun _ _ => rfl
theorem ss_retN : SndS cl G C isSub nW .retN := fun X W L Y tk t hc => by
  cases t <;> first | (simp [chkS] at hc; done) | skip
  rename_i v p
  cases v <;> first | (simp [chkS] at hc; done) | skip
  refine PS.weak ps_retN fun D σ H h => ?_
  obtain ⟨w, A, ρ, rfl, g, e, h⟩ := h
  exact h w A 0 σ .non (by rw [add0]; exact g) e T.non (by rw [add0]; exact .refl _ _) fun _ _ => rfl
theorem ss_ret (e : E) : SndS cl G C isSub nW (.ret e) := fun X W L Y tk t hc => by
  cases t <;> first | (simp [chkS] at hc; done) | skip
  rename_i v p
  cases v <;> first | (simp [chkS] at hc; done) | skip
  refine PS.weak (ps_ret ((snd e).E X W L tk _ hc)) fun D σ H h => ?_
  obtain ⟨w, A, ρ, rfl, g, es, h⟩ := h
  refine ⟨w, A, ρ, rfl, g, es, oS.exprU h (fun d ρ1 w1 A1 B1 b g1 e1 x1 t1 h1 => ?_) _⟩
  exact h1 w1 A1 B1 σ b g1 e1 t1 x1 fun _ _ => rfl
theorem noComp_sw {e : Expr} {t : Option Expr} {n : Nat} {env : PySem.Env} (h : isCompE e = false) : swapsWith e t n env = pure false := by
  cases e <;> first | (cases h; done) | rfl
theorem ss_ex (e : E) : SndS cl G C isSub nW (.ex e) := fun X W L Y tk t hc => by
  cases t <;> first | (simp [chkS] at hc; done) | skip
  rename_i v p
  unfold chkS at hc
  rw [Bool.and_eq_true] at hc
  refine PS.weak (ps_expr ((snd e).E X W L tk _ hc.1) (noComp_sw (by simpa using hc.2))) fun D σ H h => ?_
  obtain ⟨w, A, ρ, rfl, g, es, h⟩ := h
  refine ⟨w, A, ρ, rfl, g, es, oS.expr h (fun d ρ1 w1 A1 B1 b g1 e1 x1 t1 h1 => ?_) _⟩
  exact h1 w1 A1 σ g1.left e1 (x1.weak fun b y p => by rw [add_at]; omega) fun _ _ => rfl
theorem ss_nil : SndSs cl G C isSub nW .nil := fun X W L Y tk t hc => by
  cases t <;> first | (simp [chkSs] at hc; done) | skip
  refine PSs.weak pss_nil fun D σ H h => ?_
  obtain ⟨w, A, ρ, rfl, g, e, h⟩ := h
  exact h w A σ g e (.refl _ _) fun _ _ => rfl
theorem ss_cons (s r : S) (ih : SndS cl G C isSub nW s) (ihr : SndSs cl G C isSub nW r) : SndSs cl G C isSub nW (.cons s r) := fun X W L Y tk t hc => by
  cases t with
  | nil => simp [chkSs] at hc
  | cons t ts =>
    unfold chkSs at hc
    rw [Bool.and_eq_true] at hc
    refine PSs.weak (pss_cons (ih X W L Y tk t hc.1) (ihr X W L Y tk ts hc.2)) fun D σ H h => ?_
    obtain ⟨w, A, ρ, rfl, g, e, h⟩ := h
    refine ⟨w, A, ρ, rfl, g, e, ?_⟩
    have hr : ∀ i, i ∈ asgS s → i ∈ asgS s ++ asgS r := fun i hi => List.mem_append_left _ hi
    have hr2 : ∀ i, i ∈ asgS r → i ∈ asgS s ++ asgS r := fun i hi => List.mem_append_right _ hi
    have h : oS X.K cl (asgS s ++ asgS r) w A σ (match evS C G isSub nW s ρ with
      | .nx ρ1 => evS C G isSub nW r ρ1
      | o => o) D W := h
    have keepst : ∀ {σ' : Sg}, (∀ i, i ∉ asgS s → σ'[i]? = σ[i]?) → ∀ i, i ∉ asgS s ++ asgS r → σ'[i]? = σ[i]? := fun z i hi => z i fun q => hi (hr i q)
    cases hs : evS C G isSub nW s ρ with
    | nx ρ1 =>
      rw [hs] at h
      intro w1 A1 σ1 g1 e1 x1 st1
      exact ⟨w1, A1, ρ1, rfl, g1, e1, h.shift (B := 0) (by rw [add0]; exact x1) (keepst st1) hr2⟩
    | ret d ρ1 => rw [hs] at h; exact fun w' A' B σ' v g' e' t' x' z => h w' A' B σ' v g' e' t' x' (keepst z)
    | brk ρ1 => rw [hs] at h; exact fun w' A' σ' g' e' x' z => h w' A' σ' g' e' x' (keepst z)
    | ct ρ1 => rw [hs] at h; exact fun w' A' σ' g' e' x' z => h w' A' σ' g' e' x' (keepst z)
    | exc x ρ1 => rw [hs] at h; exact fun w' A' σ' cls dd g' e' x' z r => h w' A' σ' cls dd g' e' x' (keepst z) r
    | bad => rw [hs] at h; exact (show False from h).elim
theorem ss_iff (c : E) (a b : S) (iha : SndSs cl G C isSub nW a) (ihb : SndSs cl G C isSub nW b) : SndS cl G C isSub nW (.iff c a b) := fun X W L Y tk t hc => by
  cases t <;> first | (simp [chkS] at hc; done) | skip
  unfold chkS at hc
  simp only [Bool.and_eq_true] at hc
  refine PS.weak (ps_if ((snd c).T X W L tk _ hc.1.1) (iha X W L Y tk _ hc.1.2) (ihb X W L Y tk _ hc.2)) fun D σ H h => ?_
  obtain ⟨w, A, ρ, rfl, g, e, h⟩ := h
  refine ⟨w, A, ρ, rfl, g, e, oS.expr (f := fun t ρ1 => if t then evS C G isSub nW a ρ1 else evS C G isSub nW b ρ1) h (fun k ρ1 w1 A1 B1 kk g1 e1 x1 l1 h1 => ?_) _⟩
  obtain ⟨rfl, rfl⟩ := l1
  rw [add0] at g1 x1
  cases k with
  | true => exact ⟨w1, A1, ρ1, rfl, g1, e1, h1.shift (B := 0) (by rw [add0]; exact x1) (fun _ _ => rfl) fun i hi => List.mem_append_left _ hi⟩
  | false => exact ⟨w1, A1, ρ1, rfl, g1, e1, h1.shift (B := 0) (by rw [add0]; exact x1) (fun _ _ => rfl) fun i hi => List.mem_append_right _ hi⟩
end
end Ev

/-! Ev, part U: stores, loops. -/
namespace Ev
open PySem PySem.Spec PyProof.Rows L2

section
variable {cl : Str → Option Addr} {G : Str → Option D} {C : CT} {isSub : Str → Str → Bool} {nW : Nat} {X : Cx} {W : WX}
theorem plain_any : ∀ {vs : List Expr}, vs.all plainE = true → (vs.any fun | .Starred .. => true | _ => false) = false
  | [], _ => rfl
  | v :: vs, h => by
    rw [List.all_cons, Bool.and_eq_true] at h
    have ih := plain_any h.2
    have h1 := h.1
    cases v <;> first | exact absurd h1 Bool.false_ne_true | (rw [List.any_cons, ih]; rfl)
theorem plain_any' : ∀ {vs : List Expr}, vs.all plainE = false → (vs.any fun | .Starred .. => true | _ => false) = true
  | [], h => by cases h
  | v :: vs, h => by
    rw [List.all_cons] at h
    rw [List.any_cons]
    cases hv : plainE v with
    | true =>
      rw [hv, Bool.true_and] at h
      rw [plain_any' h, Bool.or_true]
    | false => cases v <;> first | rfl | (cases hv; done)
theorem bk_of {env : PySem.Env} (h : env.scope.kind = .function) : env.blockKind = .function := by
  unfold Env.blockKind
  rw [h]; rfl
theorem swB_ok {env : PySem.Env} {ts vs : List Expr} {k k2 : Nat} {p p2 : Pos} {r : Option (List Str)} (hk : env.scope.kind = .function) (h : swB env.scope ts vs = some r) : swappedStores [.Tuple ts k p] (.Tuple vs k2 p2) env = pure r := by
  unfold swappedStores
  unfold swB at h
  simp only [pure_bind]
  have hb : env.blockKind = .function := bk_of hk
  rw [hb]
  have e0 : ((ScopeKind.function != ScopeKind.function) : Bool) = false := by decide
  rw [e0, Bool.or_false]
  split at h
  · rename_i c
    cases h
    exact if_pos c
  · rename_i c
    refine (if_neg c).trans ?_
    split at h
    · rename_i c2
      cases h
      exact if_pos (plain_any' c2)
    · rename_i c2
      refine (if_neg (fun z => Bool.false_ne_true ((plain_any (by simpa using c2)).symm.trans z))).trans ?_
      split at h
      · rename_i c3
        cases h
        exact if_pos c3
      · rename_i c3
        refine (if_neg c3).trans ?_
        split at h
        · rename_i c4
          cases h
          exact if_pos c4
        · rename_i c4
          refine (if_neg c4).trans ?_
          split at h
          · cases h
          · rename_i c5
            cases h
            exact if_neg c5
theorem inOrd_ok {env : PySem.Env} {t v : Expr} (hk : env.scope.kind = .function) (h : inOrd env.scope t v = true) : swappedStores [t] v env = pure none := by
  cases t <;> first | (exact absurd h Bool.false_ne_true) | (cases v <;> first | rfl | skip)
  · rename_i ts k p vs k2 p2
    have h : isNone3 (swB env.scope ts vs) = true := h
    cases hs : swB env.scope ts vs with
    | none => rw [hs] at h; cases h
    | some r =>
      cases r with
      | some _ => rw [hs] at h; cases h
      | none => exact swB_ok hk hs
theorem sole_ok {env : PySem.Env} {t v : Expr} {n : Nat} (h : (isCompE v && isNameE t) = false) : swapsWithSole [t] v n env = pure false := by
  cases hv : isCompE v with
  | false => exact noComp_sw hv
  | true =>
    rw [hv, Bool.true_and] at h
    cases v <;> first | (cases hv; done) | (cases t <;> first | (cases h; done) | rfl)
theorem st_def (Y : Ctx cl G isSub X) (raw : Scope) (x : Str) (h : raw.names.lookup x = some .local ∨ raw.names.lookup x = some .cell) : X.fn x = true ∨ X.env.scope.names.lookup x = some .local := .inl (Y.fn x)
/-- behind the value: the store -/
theorem asg_end {t e : E} {w : Hs} {A : Ft} {ρ : Env} {σ : Sg} {D : Ends} (h : oS X.K cl (asgT t) w A σ ((use (ev C G e ρ)).fl fun d ρ1 => liftF (bindT t d ρ1)) D W) (q : Bool) :
    oG X.K cl (lyV X.K cl) q w A ρ σ (ev C G e ρ) (fun x H1 => tBd X.K cl t x σ H1 D.nx) W :=
  oS.exprU h (fun d ρ1 w1 A1 B1 b g1 e1 x1 t1 h1 => by
    cases hb : bindT t d ρ1 with
    | none => rw [hb] at h1; exact (show False from h1).elim
    | some ρ2 =>
      rw [hb] at h1
      exact ⟨w1, A1, B1, ρ1, d, ρ2, rfl, g1, e1, t1, hb, fun σ' A' hA e' st => h1 w1 A' σ' (g1.sub hA) e' (x1.weak fun b x z => Nat.lt_of_lt_of_le z (hA b x)) st⟩) q
theorem asg_line {t : Expr} (h : plainE t = true) : (assignEach [t] X.env).map (·.2) = [assign t X.env] := asg1 (es := []) h
theorem ss_asg (t e : E) : SndS cl G C isSub nW (.asg t e) := fun X W L Y tk st hc => by
  cases st <;> first | (simp [chkS] at hc; done) | skip
  rename_i ts e' p
  match ts, hc with
  | [], hc => simp [chkS] at hc
  | _ :: _ :: _, hc => simp [chkS] at hc
  | [t'], hc =>
    unfold chkS at hc
    simp only [Bool.and_eq_true] at hc
    obtain ⟨⟨⟨⟨⟨ht, he⟩, hst⟩, hio⟩, hcmp⟩, hpl⟩ := hc
    have pg := (s_bdA (cl := cl) L.nd L.calm X.env.scope (st_def Y X.env.scope) t).1 t' ht hst
    have pe := (snd (cl := cl) (G := G) (C := C) e).E X W L tk e' he
    by_cases hcn : (isCompE e' && isNameE t') = true
    · -- name = [..]
      have hce : isCE e = true := by
        rw [hcn] at hcmp
        simpa using hcmp
      cases e <;> first | (cases hce; done) | skip
      rename_i tg it cd el own
      rw [Bool.and_eq_true] at hcn
      cases e' <;> first | (cases hcn.1; done) | (simp [chk] at he; done) | skip
      rename_i elt gens scope p2
      cases t' <;> first | (cases hcn.2; done) | skip
      rename_i x px
      cases t <;> first | (simp [chkT] at ht; done) | skip
      rename_i i
      unfold chkT at ht
      simp only [Bool.and_eq_true, decide_eq_true_eq] at ht
      refine ⟨fun pins s σ H D I h => ?_⟩
      have hk := I.ok.kind
      have hsw : ∃ b, swapsWith (.ListComp elt gens scope p2) (some (.Name x px)) p.line X.env = pure b ∧ (b = true → X.env.scope.names.lookup x = some .local) := by
        refine ⟨_, rfl, fun hb => ?_⟩
        have hb2 := hb
        simp only [Bool.and_eq_true, beq_iff_eq] at hb2
        exact hb2.1.1.2
      obtain ⟨b, hsw, hloc⟩ := hsw
      cases b with
      | false =>
        have hl : Loc X.env.scope x := by
          have := ht.1.2
          unfold locB at this
          simp only [Bool.or_eq_true, decide_eq_true_eq] at this
          exact this
        have ps := ps_set (pos := p) L.nd ht.1.1 hl pe hsw (.inl (Y.fn x))
        refine ps.run pins s σ H D I ?_
        obtain ⟨w, A, ρ, rfl, g, es, h⟩ := h
        refine ⟨w, A, ρ, rfl, g, es, oS.exprU h (fun d ρ1 w1 A1 B1 b g1 e1 x1 t1 h1 => ?_) _⟩
        cases hb : bindT (.v i) d ρ1 with
        | none => rw [hb] at h1; exact (show False from h1).elim
        | some ρ2 =>
          rw [hb] at h1
          have hb : (if i < ρ1.length then some (ρ1.set i (some d)) else none) = some ρ2 := hb
          split at hb
          · rename_i hi
            cases hb
            obtain ⟨C1, hC, es'⟩ := Es.store hi t1 e1
            exact h1 w1 C1 (σ.set i (some b)) (g1.sub hC) es' (x1.weak fun b x z => Nat.lt_of_lt_of_le z (hC b x)) fun j hj => by
              have hj : j ∉ [i] := hj
              rw [List.getElem?_set_ne (fun z => hj (by rw [z]; simp))]
          · cases hb
      | true =>
        obtain ⟨t, iter, ifs, ow, wi, gg, tt, te, rfl, pi, ok, hg, htt, hte, hs, wk⟩ := comp_data tg it cd el own (snd it).W (snd cd).T (snd el).E X W L tk he
        have ps := ps_setLc (spos := p) L.calm L.nd ht.1.1 (hloc rfl) hsw pi ok hg htt hte hs
        refine ps.run pins s σ H D I ?_
        refine wk σ H _ ?_
        obtain ⟨w, A, ρ, rfl, g, es, h⟩ := h
        refine ⟨w, A, ρ, rfl, g, es, oS.exprU h (fun d ρ1 w1 A1 B1 b g1 e1 x1 t1 h1 => ?_) _⟩
        cases hb : bindT (.v i) d ρ1 with
        | none => rw [hb] at h1; exact (show False from h1).elim
        | some ρ2 =>
          rw [hb] at h1
          have hb : (if i < ρ1.length then some (ρ1.set i (some d)) else none) = some ρ2 := hb
          split at hb
          · rename_i hi
            cases hb
            obtain ⟨C1, hC, es'⟩ := Es.store hi t1 e1
            exact h1 w1 C1 (σ.set i (some b)) (g1.sub hC) es' (x1.weak fun b x z => Nat.lt_of_lt_of_le z (hC b x)) fun j hj => by
              have hj : j ∉ [i] := hj
              rw [List.getElem?_set_ne (fun z => hj (by rw [z]; simp))]
          · cases hb
    · refine ⟨fun pins s σ H D I h => ?_⟩
      have ps := ps_asg (pos := p) pe pg (sole_ok (by simpa using hcn)) (inOrd_ok I.ok.kind hio) (asg_line hpl)
      refine ps.run pins s σ H D I ?_
      obtain ⟨w, A, ρ, rfl, g, es, h⟩ := h
      exact ⟨w, A, ρ, rfl, g, es, asg_end h _⟩
theorem ss_par2 (i j : Nat) (a b : E) : SndS cl G C isSub nW (.par2 i j a b) := fun X W L Y tk st hc => by
  have hc0 := hc
  unfold chkS at hc
  split at hc <;> first | (cases hc; done) | skip
  all_goals rename_i he; first | (cases he; done) | skip
  · rename_i x px y py kt pt a' b' k2 p2 p
    cases he
    simp only [Bool.and_eq_true, decide_eq_true_eq] at hc
    obtain ⟨⟨⟨⟨⟨⟨⟨⟨⟨hi, hj⟩, hij⟩, hx⟩, hy⟩, ha⟩, hb⟩, hp⟩, hq⟩, hsw⟩ := hc
    refine ⟨fun pins s σ H D I h => ?_⟩
    have pa := pa_cons ((snd a).E X W L tk a' ha) (pa_cons ((snd b).E X W L tk b' hb) pa_nil (star_of (es := []) hq)) (star_of (es := [b']) hp)
    have ps := ps_par (pos := p) L.calm L.nd hi hj hij hx hy pa (swB_ok I.ok.kind hsw) (kt := kt) (pt := pt) (k2 := k2) (pt2 := p2) rfl
    refine ps.run pins s σ H D I ?_
    obtain ⟨w, A, ρ, rfl, g, es, h⟩ := h
    refine ⟨w, A, ρ, rfl, g, es, oS.exprU h (fun d ρ1 w1 A1 B1 v g1 e1 x1 t1 h1 => ?_) _⟩
    refine ⟨w1, A1, ρ1, rfl, g1.left, e1, ?_⟩
    have h1 : oS X.K cl (asgS (.par2 i j a b)) w1 (A1 + B1) σ ((use (ev C G b ρ1)).fl fun e ρ2 => if i < ρ2.length ∧ j < ρ2.length then .nx ((ρ2.set i (some d)).set j (some e)) else .bad) D W := h1.shift (B := 0) (by rw [add0]; exact x1) (fun _ _ => rfl) fun _ z => z
    cases hb2 : ev C G b ρ1 with
    | bad => rw [hb2] at h1; exact (show False from h1).elim
    | exc x ρ2 =>
      rw [hb2] at h1
      intro w2 A2 cls dd g2 e2 x2 r
      exact h1 w2 A2 σ cls dd g2 e2 (x2.pre fun b y z => by rw [add_at]; omega) (fun _ _ => rfl) r
    | ok yy ρ2 =>
      obtain ⟨e, pl⟩ := yy
      rw [hb2] at h1
      intro w2 A2 B2 u g2 e2 l2 x2 _
      have fin : ∀ B2', (∀ b x, B2' b x ≤ B2 b x) → T X.K cl w2 e u B2' → oS X.K cl (asgS (.par2 i j a b)) w1 (A1 + B1) σ (if i < ρ2.length ∧ j < ρ2.length then .nx ((ρ2.set i (some d)).set j (some e)) else .bad) D W → ∃ v' w', [v, u] = [v', w'] ∧ D.nx ((σ.set i (some v')).set j (some w')) w2.H := by
        intro B2' hB te h2
        split at h2
        · rename_i hl
          have g3 := x2.gd g1 g2
          have td := T.keep _ _ _ (x2.keeps g1) t1
          obtain ⟨C1, hC1, e3⟩ := Es.store hl.1 td e2
          obtain ⟨C2, hC2, e4⟩ := Es.store (i := j) (by rw [List.length_set]; exact hl.2) te e3
          refine ⟨v, u, rfl, h2 w2 C2 _ (g3.sub fun b x => ?_) e4 ((x2.side (C := B1)).weak fun b x z => ?_) fun k hk => ?_⟩
          · have := hC1 b x; have := hC2 b x; have := hB b x; simp only [add_at] at *; omega
          · have := hC1 b x; have := hC2 b x; have := hB b x; simp only [add_at] at *; omega
          · have hk : k ∉ [i, j] := hk
            rw [List.getElem?_set_ne (fun z => hk (by rw [z]; simp)), List.getElem?_set_ne (fun z => hk (by rw [z]; simp))]
        · exact (show False from h2).elim
      cases pl with
      | none => exact fin B2 (fun _ _ => Nat.le_refl _) l2 h1
      | some pp =>
        obtain ⟨rfl, fc⟩ := l2
        by_cases hf : isFrz e = true
        · rw [show use (.ok (e, some pp) ρ2) = .ok e ρ2 from if_pos hf] at h1
          obtain ⟨A', Ar, t, _⟩ := fc.tree
          exact fin 0 (fun _ _ => Nat.le_refl _) (t.frz hf) h1
        · rw [show use (.ok (e, some pp) ρ2) = .bad from if_neg hf] at h1
          exact (show False from h1).elim
end
end Ev

/-! Ev, part V: op=, items stored, loops. -/
namespace Ev
open PySem PySem.Spec PyProof.Rows L2

section
variable {cl : Str → Option Addr} {G : Str → Option D} {C : CT} {isSub : Str → Str → Bool} {nW : Nat} {X : Cx} {W : WX}
/-! ### op= of flat values -/
def rAug (op : B2) : TIp := fun x y H Q => ∃ d e r, flat d = true ∧ x = fvD d ∧ (∃ w A B, w.H = H ∧ Gd w A ∧ T X.K cl w e y B) ∧ binD op d e = some r ∧ flat r = true ∧ Q (fvD r) H
theorem ip_aug (op : B2) (hp : op ≠ .pow) : PIp X op.op (rAug (X := X) (cl := cl) op) := by
  intro pins s σ H x y v u Q I rx ry h
  obtain ⟨d, e, r, hd, rfl, ⟨w, A, B, rfl, g, t⟩, hr, hf, q⟩ := h
  cases op with
  | pow => exact absurd rfl hp
  | add =>
    cases d <;> first | exact absurd hd Bool.false_ne_true | skip
    all_goals cases e <;> first | (simp [binD] at hr; done) | skip
    · cases t.int1; cases hr
      exact iop_add pins s σ _ _ _ v u Q I rx ry ⟨_, _, rfl, rfl, q⟩
    · cases t.str1
      rename_i a b
      have hr : (if a.length + b.length ≤ sizeLine then some (D.str (a ++ b)) else none) = some r := hr
      split at hr
      · rename_i hz; cases hr
        exact iop_add_str pins s σ _ _ _ v u Q I rx ry ⟨_, _, rfl, rfl, hz, q⟩
      · cases hr
  | sub =>
    cases d <;> first | exact absurd hd Bool.false_ne_true | skip
    all_goals cases e <;> first | (simp [binD] at hr; done) | skip
    cases t.int1; cases hr
    exact iop_sub pins s σ _ _ _ v u Q I rx ry ⟨_, _, rfl, rfl, q⟩
  | mul =>
    cases d <;> first | exact absurd hd Bool.false_ne_true | skip
    all_goals cases e <;> first | (simp [binD] at hr; done) | skip
    cases t.int1
    rename_i i j
    have hr : (if mulOk i j then some (D.int (i * j)) else none) = some r := hr
    split at hr
    · rename_i hz; cases hr
      obtain ⟨t1, rfl⟩ := rx
      obtain ⟨t2, rfl⟩ := ry
      exact imul_int ⟨.int _, _, I.tok _, ⟨_, rfl⟩, q⟩ (mulOk.ok hz)
    · cases hr
  | fdiv =>
    cases d <;> first | exact absurd hd Bool.false_ne_true | skip
    all_goals cases e <;> first | (simp [binD] at hr; done) | skip
    cases t.int1
    rename_i i j
    have hr : (if divOk j then some (D.int (i / j)) else none) = some r := hr
    split at hr
    · rename_i hz; cases hr
      exact iop_fdivW pins s σ _ _ _ v u Q I rx ry ⟨_, _, rfl, rfl, hz, q⟩
    · cases hr
  | mod =>
    cases d <;> first | exact absurd hd Bool.false_ne_true | skip
    all_goals cases e <;> first | (simp [binD] at hr; done) | skip
    cases t.int1
    rename_i i j
    have hr : (if 0 < j then some (D.int (i % j)) else none) = some r := hr
    split at hr
    · rename_i hz; cases hr
      exact iop_mod pins s σ _ _ _ v u Q I rx ry ⟨_, _, rfl, rfl, hz, q⟩
    · cases hr
  | xor =>
    cases d <;> first | exact absurd hd Bool.false_ne_true | skip
    all_goals cases e <;> first | (simp [binD] at hr; done) | skip
    cases t.int1; cases hr
    exact iop_xor pins s σ _ _ _ v u Q I rx ry ⟨_, _, rfl, rfl, q⟩
theorem loc_of {sc : Scope} {x : Str} (h : locB sc x = true) : Loc sc x := by
  unfold locB at h
  simp only [Bool.or_eq_true, decide_eq_true_eq] at h
  exact h
theorem ss_aug (i : Nat) (op : B2) (e : E) : SndS cl G C isSub nW (.aug i op e) := fun X W L Y tk st hc => by
  unfold chkS at hc
  split at hc <;> first | (cases hc; done) | skip
  all_goals rename_i he; first | (cases he; done) | skip
  rename_i x px op' e' p
  cases he
  simp only [Bool.and_eq_true, decide_eq_true_eq] at hc
  obtain ⟨⟨⟨⟨⟨hi, hl⟩, ho⟩, rfl⟩, hp⟩, he⟩ := hc
  refine PS.weak (ps_aug (pos := p) L.nd hi (loc_of hl) ((snd e).E X W L tk e' he) (ip_aug (X := X) (cl := cl) op hp) (.inl (Y.fn x))) fun D σ H h => ?_
  obtain ⟨w, A, ρ, rfl, g, es, h⟩ := h
  have h : oS X.K cl (asgS (.aug i op e)) w A σ (match slot ρ i with
    | some x => if flat x then (use (ev C G e ρ)).fl fun d ρ1 => (match binD op x d with
      | some y => if flat y then .nx (ρ1.set i (some y)) else .bad
      | none => .bad) else .bad
    | none => .bad) D W := h
  cases hs : slot ρ i with
  | none => rw [hs] at h; exact (show False from h).elim
  | some d =>
    rw [hs] at h
    dsimp only at h
    split at h
    · rename_i hf
      obtain ⟨v, A1, Ar, hv, t, rfl, _⟩ := Es.out hs es
      obtain ⟨rfl, rfl⟩ := T.of_flat hf t
      refine ⟨_, hv, w, 0 + Ar, ρ, rfl, g, es, oS.exprU h (fun y ρ1 w1 A1 B1 b g1 e1 x1 t1 h1 => ?_) _⟩
      cases hr : binD op d y with
      | none => rw [hr] at h1; exact (show False from h1).elim
      | some r =>
        rw [hr] at h1
        dsimp only at h1
        split at h1
        · rename_i hfr
          refine ⟨d, y, r, hf, rfl, ⟨w1, _, _, rfl, g1, t1⟩, hr, hfr, ?_⟩
          have hi2 : i < ρ1.length := by
            rw [← Es.length e1]
            exact (List.getElem?_eq_some_iff.mp hv).1
          obtain ⟨C1, hC, es'⟩ := Es.store hi2 (T.mk (K := X.K) (cl := cl) (w := w1) hfr) e1
          exact h1 w1 C1 _ (g1.sub fun b x => by have := hC b x; simp only [add_at, zero_at] at *; omega) es' (x1.weak fun b x z => by have := hC b x; simp only [add_at, zero_at] at *; omega) fun j hj => by
            have hj : j ∉ [i] := hj
            rw [List.getElem?_set_ne (fun z => hj (by rw [z]; simp))]
        · exact (show False from h1).elim
    · exact (show False from h).elim

/-! ### xs[i] = e -/
theorem sub_store {o i : Expr} {pos : Pos} (h : noSl i = true) : ∀ v, assign (.Subscript o i pos) X.env v = (do
      let ov ← holding [v] (eval o X.env)
      let iv ← holding [v, ov] (eval i X.env)
      standAt pos
      holding [v, ov, iv] (setItem ov iv v)
      release [v, ov, iv] []) := by
  intro v
  cases i <;> first | exact absurd h Bool.false_ne_true | rfl
/-- a place's list gets an item -/
theorem set_end {asg : List Nat} {w0 w : Hs} {A0 A B : Ft} {ρ : Env} {σ : Sg} {De : Ends} {pp : Pl} {xs : List D} {n : Int} {j : Nat} {y : D} {v o : V} (g : Gd w (A + B)) (x : Ext w0 A0 w (A + B))
    (f : Foc X.K cl w ρ σ A pp (.lst .own xs) o) (hj : ixN xs.length n = some j) (ty : T X.K cl w y v B) (h : oS X.K cl asg w0 A0 σ (.nx (setE ρ pp (.lst .own (xs.set j y)))) De W) : rSetL o (.int n) v w.H (fun H' => De.nx σ H') := by
  obtain ⟨_, _, A1, Ar, t, rfl, back⟩ := f
  unfold T at t
  obtain ⟨l, vs, E, rfl, hl, ts, rfl⟩ := t
  have hl : w.H l = some (.lst vs) := hl
  have hlen := ts.length
  refine ⟨l, vs, n, j, rfl, rfl, hl, by rw [hlen]; exact hj, ?_⟩
  obtain ⟨_, hjl, _, _⟩ := ixN_seq hj
  obtain ⟨v0, E1, Er, e1, t0, rfl, bk⟩ := Ts.foc (n := j) (d := xs[j]) (by simp [hjl]) ts
  have hown : 0 < ((E1 + Er + foO l .own) + Ar + B) l true := by
    have := foO_own l (E1 + Er)
    simp only [add_at] at this ⊢; omega
  have one := g.one l true
  have e0 : foO l .own l true = fo1 l true l true := rfl
  have fd : fo1 l true l true = 1 := by rw [one_at, if_pos ⟨rfl, rfl⟩]
  have zs : Er l true = 0 ∧ Ar l true = 0 ∧ B l true = 0 := by
    simp only [add_at] at one
    rw [e0, fd] at one
    omega
  have T3 : T X.K cl (w.wr l (.lst (vs.set j v))) (.lst .own (xs.set j y)) (.ref l) ((B + Er) + foO l .own) := by
    unfold T
    exact ⟨l, vs.set j v, B + Er, rfl, upd_same, bk _ _ _ _ (T.keep _ _ _ (wr_kp zs.2.2) ty) (wr_kp zs.1), rfl⟩
  refine h (w.wr l (.lst (vs.set j v))) (((B + Er) + foO l .own) + Ar) σ ?_ (back _ _ _ T3 (wr_kp zs.2.1)) ?_ fun _ _ => rfl
  · exact (wr_gd g hown).sub fun b x => by simp only [add_at]; omega
  · exact (x.trans (wr_ext hown)).weak fun b x z => by simp only [add_at] at z ⊢; omega
theorem evS_put (p i e : E) (ρ : Env) : evS C G isSub nW (.put p i e) ρ = (use (ev C G e ρ)).fl fun y ρ1 => (ev C G p ρ1).fl fun (d, pp) ρ2 =>
    if qt i then (use (ev C G i ρ2)).fl fun k ρ3 => putF pp d k y ρ3 else .bad := by rw [evS]
theorem ss_put (p i e : E) : SndS cl G C isSub nW (.put p i e) := fun X W L Y tk st hc => by
  unfold chkS at hc
  split at hc <;> first | (cases hc; done) | skip
  all_goals rename_i he; first | (cases he; done) | skip
  rename_i p' i' px e' pos
  cases he
  simp only [Bool.and_eq_true, decide_eq_true_eq] at hc
  obtain ⟨⟨⟨hp, hi⟩, he⟩, hn⟩ := hc
  have pg := pg_sub (pos := px) ((snd p).E X W L tk p' hp) ((snd i).E X W L tk i' hi) set_list (sub_store hn)
  have hio : inOrd X.env.scope (.Subscript p' i' px) e' = true := rfl
  refine ⟨fun pins s σ H D I h => ?_⟩
  have ps := ps_asg (pos := pos) ((snd e).E X W L tk e' he) pg (sole_ok (by rw [show isNameE (.Subscript p' i' px) = false from rfl, Bool.and_false])) (inOrd_ok I.ok.kind hio) (asg_line rfl)
  refine ps.run pins s σ H D I ?_
  obtain ⟨w, A, ρ, rfl, g, es, h⟩ := h
  have h : oS X.K cl [] w A σ (evS C G isSub nW (.put p i e) ρ) D W := h
  rw [evS_put] at h
  refine ⟨w, A, ρ, rfl, g, es, oS.exprU h (fun y ρ1 w1 A1 B1 v g1 e1 x1 t1 h1 => ?_) _⟩
  have h1 := h1.shift (B := 0) (asg2 := []) (by rw [add0]; exact x1) (fun _ _ => rfl) fun _ z => z
  refine ⟨w1, A1, ρ1, rfl, g1.left, e1, ?_⟩
  have a1 : At (K := X.K) (cl := cl) false w1 (A1 + B1) ρ1 σ w1 A1 B1 ρ1 := ⟨g1, e1, .refl _ _, fun z => by cases z⟩
  -- the place
  cases hpv : ev C G p ρ1 with
  | bad => rw [hpv] at h1; exact (show False from h1).elim
  | exc x ρ2 =>
    rw [hpv] at h1
    intro w2 A2 cls dd g2 e2 x2 r
    exact h1 w2 A2 σ cls dd g2 e2 (x2.pre fun b y z => by rw [add_at]; omega) (fun _ _ => rfl) r
  | ok yy ρ2 =>
    obtain ⟨d, pp⟩ := yy
    rw [hpv] at h1
    intro w2 A2 B2 o g2 e2 l2 x2 _
    dsimp only [Out.fl] at h1
    split at h1
    · rename_i hq
      have a2 := (a1.more g2 e2 x2 (q1 := false) (fun z => z) (fun z => by cases z)).1
      have kB := x2.keeps g1
      refine ⟨w2, A2, ρ2, rfl, g2.left, e2, ?_⟩
      -- the index
      have f3 : ∀ {k : Ev.D} {ρ3 : Env} {w3 : Hs} {A3 B3 : Ft} {kv : V}, Gd w3 (A3 + B3) → Es X.K cl w3 ρ3 σ A3 → T X.K cl w3 k kv B3 → Ext w2 A2 w3 (A3 + B3) → (qt i = true → ρ3 = ρ2 ∧ A3 = A2 ∧ Kp w2 w3 A2) →
          oS X.K cl [] w1 (A1 + B1) σ (putF pp d k y ρ3) D W → rSetL o kv v w3.H (fun H' => D.nx σ H') := by
        intro k ρ3 w3 A3 B3 kv g3 e3 t3 x3 k3 h3
        have gg := x3.gd a2.gd g3
        have kv' := x3.keeps a2.gd
        cases pp with
        | none => exact (show False from h3).elim
        | some pp =>
          cases d <;> first | exact (show False from h3).elim | skip
          rename_i ow xs
          cases ow <;> first | exact (show False from h3).elim | skip
          cases k <;> first | exact (show False from h3).elim | skip
          rename_i n
          rw [putF] at h3
          cases hj : ixN xs.length n with
          | none => rw [hj] at h3; exact (show False from h3).elim
          | some j =>
            rw [hj] at h3
            cases t3.int1
            have fc := lyV.holdF (ρ2 := ρ3) (A2 := A3) l2 hq k3
            have ty : T X.K cl w3 y v B1 := T.keep _ _ _ (kv'.right) (T.keep _ _ _ kB t1)
            refine set_end (w0 := w1) (A0 := A1 + B1) (B := B1) (gg.sub fun b x => by simp only [add_at]; omega) ?_ fc hj ty h3
            exact (a2.ext.trans (x3.side (C := B2 + B1))).weak fun b x z => by simp only [add_at] at z ⊢; omega
      cases hiv : ev C G i ρ2 with
      | bad => rw [hiv] at h1; exact (show False from h1).elim
      | exc x ρ3 =>
        rw [hiv] at h1
        intro w3 A3 cls dd g3 e3 x3 r
        exact h1 w3 A3 σ cls dd g3 e3 (a2.ext.trans (x3.pre fun b y z => by rw [add_at]; omega)) (fun _ _ => rfl) r
      | ok kk ρ3 =>
        obtain ⟨k, pk⟩ := kk
        rw [hiv] at h1
        intro w3 A3 B3 kv g3 e3 l3 x3 k3
        cases pk with
        | none => exact f3 g3 e3 l3 x3 k3 h1
        | some pk =>
          obtain ⟨rfl, fc⟩ := l3
          by_cases hf : isFrz k = true
          · rw [show use (.ok (k, some pk) ρ3) = .ok k ρ3 from if_pos hf] at h1
            obtain ⟨A', Ar, t, _⟩ := fc.tree
            exact f3 g3 e3 (t.frz hf) x3 k3 h1
          · rw [show use (.ok (k, some pk) ρ3) = .bad from if_neg hf] at h1
            exact (show False from h1).elim
    · exact (show False from h1).elim

/-! ### while -/
theorem whL_nx {c : Env → Out Bool} {b : Env → Fl} {n : Nat} {ρ : Env} : whL c b (n + 1) ρ = match c ρ with
    | .ok true ρ1 => (match b ρ1 with
      | .nx ρ2 => whL c b n ρ2
      | .ct ρ2 => whL c b n ρ2
      | .brk ρ2 => .nx ρ2
      | o => o)
    | .ok false ρ1 => .nx ρ1
    | .exc x ρ1 => .exc x ρ1
    | .bad => .bad := rfl
theorem ss_whl (c : E) (b : S) (ihb : SndSs cl G C isSub nW b) : SndS cl G C isSub nW (.whl c b) := fun X W L Y tk st hc => by
  cases st <;> first | (simp [chkS] at hc; done) | skip
  rename_i c' b' orelse pos
  cases orelse with
  | cons _ _ => simp [chkS] at hc
  | nil =>
    unfold chkS at hc
    rw [Bool.and_eq_true] at hc
    refine PS.weak (ps_while Y.po ((snd c).T X W L tk c' hc.1) (ihb X W L Y tk b' hc.2)) fun D σ H h => ?_
    obtain ⟨w, A, ρ, rfl, g, es, h⟩ := h
    have h : oS X.K cl (asgS b) w A σ (whL (fun ρ => tru (ev C G c ρ)) (evS C G isSub nW b) nW ρ) D W := h
    refine ⟨fun m σ1 H1 => ∃ w1 A1 ρ1, w1.H = H1 ∧ Gd w1 A1 ∧ Es X.K cl w1 ρ1 σ1 A1 ∧ oS X.K cl (asgS b) w1 A1 σ1 (whL (fun ρ => tru (ev C G c ρ)) (evS C G isSub nW b) m ρ1) D W, ⟨nW, w, A, ρ, rfl, g, es, h⟩, ?_⟩
    rintro m σ1 H1 ⟨w1, A1, ρ1, rfl, g1, e1, h1⟩
    cases m with
    | zero => exact (show False from h1).elim
    | succ m =>
      rw [whL_nx] at h1
      refine ⟨w1, A1, ρ1, rfl, g1, e1, ?_⟩
      show oG X.K cl lyB (qt c) w1 A1 ρ1 σ1 (tru (ev C G c ρ1)) _ W
      cases hcv : tru (ev C G c ρ1) with
      | bad => rw [hcv] at h1; exact (show False from h1).elim
      | exc x ρ2 =>
        rw [hcv] at h1
        exact fun w2 A2 cls dd g2 e2 x2 r => h1 w2 A2 σ1 cls dd g2 e2 x2 (fun _ _ => rfl) r
      | ok k ρ2 =>
        rw [hcv] at h1
        intro w2 A2 B2 kk g2 e2 l2 x2 _
        obtain ⟨rfl, rfl⟩ := l2
        rw [add0] at g2 x2
        cases k with
        | false => exact h1 w2 A2 σ1 g2 e2 x2 fun _ _ => rfl
        | true =>
          have h1 : oS X.K cl (asgS b) w1 A1 σ1 (match evS C G isSub nW b ρ2 with
            | .nx ρ2 => whL (fun ρ => tru (ev C G c ρ)) (evS C G isSub nW b) m ρ2
            | .ct ρ2 => whL (fun ρ => tru (ev C G c ρ)) (evS C G isSub nW b) m ρ2
            | .brk ρ2 => .nx ρ2
            | o => o) D W := h1
          have h2 := h1.shift (B := 0) (asg2 := asgS b) (by rw [add0]; exact x2) (fun _ _ => rfl) fun _ z => z
          refine ⟨fun σ' H' => ∃ w1 A1 ρ1, w1.H = H' ∧ Gd w1 A1 ∧ Es X.K cl w1 ρ1 σ' A1 ∧ oS X.K cl (asgS b) w1 A1 σ' (whL (fun ρ => tru (ev C G c ρ)) (evS C G isSub nW b) m ρ1) D W, fun σ' H' n => ⟨m, Nat.lt_succ_self m, n⟩, ?_⟩
          refine ⟨w2, A2, ρ2, rfl, g2, e2, ?_⟩
          cases hbv : evS C G isSub nW b ρ2 with
          | nx ρ3 => rw [hbv] at h2; exact fun w3 A3 σ3 g3 e3 x3 st3 => ⟨w3, A3, ρ3, rfl, g3, e3, h2.shift (B := 0) (by rw [add0]; exact x3) st3 fun _ z => z⟩
          | ct ρ3 => rw [hbv] at h2; exact fun w3 A3 σ3 g3 e3 x3 st3 => ⟨w3, A3, ρ3, rfl, g3, e3, h2.shift (B := 0) (by rw [add0]; exact x3) st3 fun _ z => z⟩
          | brk ρ3 => rw [hbv] at h2; exact h2
          | ret d ρ3 => rw [hbv] at h2; exact h2
          | exc x ρ3 => rw [hbv] at h2; exact h2
          | bad => rw [hbv] at h2; exact h2

/-! ### for -/
theorem forL_cons {stp : D → Env → Fl} {d : D} {r : List D} {ρ : Env} : forL stp (d :: r) ρ = match stp d ρ with
    | .nx ρ1 => forL stp r ρ1
    | .ct ρ1 => forL stp r ρ1
    | .brk ρ1 => .nx ρ1
    | o => o := rfl
/-- an outcome behind which the trees that were taken away are put back -/
theorem oS.unlend {asg : List Nat} {w0 w : Hs} {A0 A B : Ft} {σ0 σ : Sg} {o : Fl} {De : Ends} {l : List (Nat × D)} (h : oS X.K cl asg w0 A0 σ0 (o.env fun ρ => Ev.unlend ρ l) De W) (g : Gd w (A + B)) (x : Ext w0 A0 w (A + B)) (st : ∀ i, i ∉ asg → σ[i]? = σ0[i]?)
    (lo : LentOk X.K cl w σ l B) (hl : ∀ p ∈ l, p.1 ∉ asg) : oS X.K cl asg w A σ o De W := by
  have ss : ∀ {σ' : Sg}, (∀ i, i ∉ asg → σ'[i]? = σ[i]?) → ∀ i, i ∉ asg → σ'[i]? = σ0[i]? := fun z i hi => (z i hi).trans (st i hi)
  have main : ∀ {w' : Hs} {A' B' : Ft} {σ' : Sg} {ρ' : Env}, Gd w' (A' + B') → Es X.K cl w' ρ' σ' A' → Ext w A w' (A' + B') → (∀ i, i ∉ asg → σ'[i]? = σ[i]?) → ∃ C, Gd w' (C + B') ∧ Es X.K cl w' (Ev.unlend ρ' l) σ' C ∧ Ext w0 A0 w' (C + B') := by
    intro w' A' B' σ' ρ' g' e' x' z
    have gg := x'.gd g g'
    have kk := x'.keeps g
    obtain ⟨C1, hC, e2⟩ := LentOk.back e' (lo.keep (σ' := σ') kk fun p hp => z p.1 (hl p hp))
    exact ⟨C1, gg.sub fun b x => by have := hC b x; simp only [add_at] at *; omega, e2, (x.trans x'.side).weak fun b x z => by have := hC b x; simp only [add_at] at *; omega⟩
  have main0 : ∀ {w' : Hs} {A' : Ft} {σ' : Sg} {ρ' : Env}, Gd w' A' → Es X.K cl w' ρ' σ' A' → Ext w A w' A' → (∀ i, i ∉ asg → σ'[i]? = σ[i]?) → ∃ C, Gd w' C ∧ Es X.K cl w' (Ev.unlend ρ' l) σ' C ∧ Ext w0 A0 w' C := by
    intro w' A' σ' ρ' g' e' x' z
    obtain ⟨C1, h1, h2, h3⟩ := main (B' := 0) (by rw [add0]; exact g') e' (by rw [add0]; exact x') z
    rw [add0] at h1 h3
    exact ⟨C1, h1, h2, h3⟩
  cases o with
  | nx ρ' => exact fun w' A' σ' g' e' x' z => let ⟨C1, h1, h2, h3⟩ := main0 g' e' x' z; h w' C1 σ' h1 h2 h3 (ss z)
  | brk ρ' => exact fun w' A' σ' g' e' x' z => let ⟨C1, h1, h2, h3⟩ := main0 g' e' x' z; h w' C1 σ' h1 h2 h3 (ss z)
  | ct ρ' => exact fun w' A' σ' g' e' x' z => let ⟨C1, h1, h2, h3⟩ := main0 g' e' x' z; h w' C1 σ' h1 h2 h3 (ss z)
  | ret d ρ' => exact fun w' A' B' σ' v g' e' t' x' z => let ⟨C1, h1, h2, h3⟩ := main g' e' x' z; h w' C1 B' σ' v h1 h2 t' h3 (ss z)
  | exc x ρ' => exact fun w' A' σ' cls dd g' e' x' z r => let ⟨C1, h1, h2, h3⟩ := main0 g' e' x' z; h w' C1 σ' cls dd h1 h2 h3 (ss z) r
  | bad => exact h
theorem evS_for (t it : E) (b : S) (ρ : Env) : evS C G isSub nW (.forr t it b) ρ = (evw C G it ρ).fl fun w ρ1 => if w.lent.any (fun p => (asgT t ++ asgS b).contains p.1) then .bad else (forL (fun d ρ => match bindT t d ρ with
      | some ρ' => evS C G isSub nW b ρ'
      | none => .bad) w.ds ρ1).env fun ρ => Ev.unlend ρ w.lent := by rw [evS] <;> rfl
theorem ss_for (t it : E) (b : S) (ihb : SndSs cl G C isSub nW b) : SndS cl G C isSub nW (.forr t it b) := fun X W L Y tk st hc => by
  cases st <;> first | (simp [chkS] at hc; done) | skip
  rename_i t' it' b' orelse pos
  cases orelse with
  | cons _ _ => simp [chkS] at hc
  | nil =>
    unfold chkS at hc
    simp only [Bool.and_eq_true] at hc
    obtain ⟨⟨⟨⟨ht, hst⟩, hit⟩, hb⟩, hns⟩ := hc
    have pg := (s_bdA (cl := cl) L.nd L.calm X.env.scope (st_def Y X.env.scope) t).1 t' ht hst
    have pi := (snd (cl := cl) (G := G) (C := C) it).W X W L tk (isTup t') it' hit t' (fun z => z)
    refine PS.weak (ps_for (pos := pos) Y.po L.calm pi pg (ihb X W L Y tk b' hb) (fold_of hns)) fun D σ H h => ?_
    obtain ⟨w, A, ρ, rfl, g, es, h⟩ := h
    have h : oS X.K cl (asgT t ++ asgS b) w A σ (evS C G isSub nW (.forr t it b) ρ) D W := h
    rw [evS_for] at h
    refine ⟨w, A, ρ, rfl, g, es, oS.expr h (fun wk ρ1 w1 A1 B1 J g1 e1 x1 l1 h1 => ?_) _⟩
    obtain ⟨wj, lo⟩ := l1
    split at h1
    · exact (show False from h1).elim
    rename_i hlent
    have hl : ∀ p ∈ wk.lent, p.1 ∉ asgT t ++ asgS b := by
      intro p hp hm
      apply hlent
      rw [List.any_eq_true]
      exact ⟨p, hp, by simpa using hm⟩
    have hl0 := oS.unlend h1 g1 x1 (fun _ _ => rfl) lo hl
    -- the state by the turn
    let St (i m : Nat) (σ' : Sg) (H : Hp) : Prop := ∃ wi Ai ρi, wi.H = H ∧ i ≤ wk.ds.length ∧ m = wk.ds.length - i ∧ Gd wi (Ai + B1) ∧ Es X.K cl wi ρi σ' Ai ∧ Ext w1 (A1 + B1) wi (Ai + B1) ∧ Kp w1 wi B1 ∧ (∀ i, i ∉ asgT t ++ asgS b → σ'[i]? = σ[i]?) ∧
      oS X.K cl (asgT t ++ asgS b) w A σ ((forL (fun d ρ => match bindT t d ρ with
        | some ρ' => evS C G isSub nW b ρ'
        | none => .bad) (wk.ds.drop i) ρi).env fun ρ => Ev.unlend ρ wk.lent) D W
    refine ⟨St, ⟨wk.ds.length, w1, A1, ρ1, rfl, Nat.zero_le _, rfl, g1, e1, .refl _ _, .refl _ _, fun _ _ => rfl, by rw [List.drop_zero]; exact h1⟩, ?_⟩
    rintro i m σi H ⟨wi, Ai, ρi, rfl, hi, rfl, gi, ei, xi, ki, sti, hx⟩
    have hun := oS.unlend hx gi (x1.trans xi) sti (lo.keep (σ' := σi) ki fun p hp => sti p.1 (hl p hp)) hl
    by_cases hlt : i < wk.ds.length
    · refine .inr ⟨wj.go i wi _ ki gi hlt, St (i + 1) (wk.ds.length - (i + 1)), fun σ' H' n => ⟨_, by omega, n⟩, fun x H' y => ?_⟩
      obtain ⟨wy, rfl, gy, xy, ky, ty⟩ := wj.yld i wk.ds[i] wi _ x H' ki gi (by simp [hlt]) y
      rw [take_one (List.getElem?_eq_getElem hlt), forL_cons] at hx
      cases hbt : bindT t wk.ds[i] ρi with
      | none => rw [hbt] at hx; exact (show False from hx).elim
      | some ρb =>
        rw [hbt] at hx
        dsimp only at hx
        refine ⟨wy, Ai, 0, ρi, wk.ds[i], ρb, rfl, gy.sub fun b x => by simp only [add_at, zero_at]; omega, ei.keep (ky Ai), ty, hbt, fun σ2 A2 hA2 es2 st2 => ?_⟩
        have gA2 : Gd wy (A2 + B1) := gy.sub fun b x => by have := hA2 b x; simp only [add_at, zero_at] at this ⊢; omega
        have xA2 : Ext wi (Ai + B1) wy (A2 + B1) := xy.weak fun b x z => by have := hA2 b x; simp only [add_at, zero_at] at this z ⊢; omega
        have st2' : ∀ j, j ∉ asgT t ++ asgS b → σ2[j]? = σ[j]? := fun j hj => (st2 j fun z => hj (List.mem_append_left _ z)).trans (sti j hj)
        have kA2 : Kp w1 wy B1 := ki.trans (ky B1)
        refine ⟨wy, A2, ρb, rfl, gA2.left, es2, ?_⟩
        -- behind the body, to the next turn
        have nextT : ∀ {ρn : Env} {w3 : Hs} {A3 : Ft} {σ3 : Sg}, oS X.K cl (asgT t ++ asgS b) w A σ ((forL (fun d ρ => match bindT t d ρ with
            | some ρ' => evS C G isSub nW b ρ'
            | none => .bad) (wk.ds.drop (i + 1)) ρn).env fun ρ => Ev.unlend ρ wk.lent) D W → Gd w3 A3 → Es X.K cl w3 ρn σ3 A3 → Ext wy A2 w3 A3 → (∀ j, j ∉ asgS b → σ3[j]? = σ2[j]?) → St (i + 1) (wk.ds.length - (i + 1)) σ3 w3.H := by
          intro ρn w3 A3 σ3 hx g3 e3 x3 st3
          exact ⟨w3, A3, ρn, rfl, hlt, rfl, x3.gd gA2 g3, e3, xi.trans (xA2.trans x3.side), kA2.trans (x3.keeps gA2), fun j hj => (st3 j fun z => hj (List.mem_append_right _ z)).trans (st2' j hj), hx⟩
        have lo2 := lo.keep (σ' := σ2) kA2 fun p hp => st2' p.1 (hl p hp)
        have endT : ∀ {o : Fl}, oS X.K cl (asgT t ++ asgS b) w A σ (o.env fun ρ => Ev.unlend ρ wk.lent) D W → oS X.K cl (asgT t ++ asgS b) wy A2 σ2 o D W := fun hx => oS.unlend hx gA2 (x1.trans (xi.trans xA2)) st2' lo2 hl
        have keepst : ∀ {σ' : Sg}, (∀ i, i ∉ asgS b → σ'[i]? = σ2[i]?) → ∀ i, i ∉ asgT t ++ asgS b → σ'[i]? = σ2[i]? := fun z i hi => z i fun q => hi (List.mem_append_right _ q)
        cases hbv : evS C G isSub nW b ρb with
        | nx ρn => rw [hbv] at hx; exact fun w3 A3 σ3 g3 e3 x3 st3 => nextT hx g3 e3 x3 st3
        | ct ρn => rw [hbv] at hx; exact fun w3 A3 σ3 g3 e3 x3 st3 => nextT hx g3 e3 x3 st3
        | brk ρn =>
          rw [hbv] at hx
          have hx : oS X.K cl (asgT t ++ asgS b) w A σ ((Fl.nx ρn).env fun ρ => Ev.unlend ρ wk.lent) D W := hx
          have := endT hx
          exact fun w3 A3 σ3 g3 e3 x3 st3 => this w3 A3 σ3 g3 e3 x3 (keepst st3)
        | ret d ρn =>
          rw [hbv] at hx
          have hx : oS X.K cl (asgT t ++ asgS b) w A σ ((Fl.ret d ρn).env fun ρ => Ev.unlend ρ wk.lent) D W := hx
          have := endT hx
          exact fun w3 A3 B3 σ3 v g3 e3 t3 x3 st3 => this w3 A3 B3 σ3 v g3 e3 t3 x3 (keepst st3)
        | exc xx ρn =>
          rw [hbv] at hx
          have hx : oS X.K cl (asgT t ++ asgS b) w A σ ((Fl.exc xx ρn).env fun ρ => Ev.unlend ρ wk.lent) D W := hx
          have := endT hx
          exact fun w3 A3 σ3 cls dd g3 e3 x3 st3 r => this w3 A3 σ3 cls dd g3 e3 x3 (keepst st3) r
        | bad => rw [hbv] at hx; exact (show False from hx).elim
    · have hii : i = wk.ds.length := by omega
      subst hii
      refine .inl ⟨wj.stop wi _ ki gi, ?_⟩
      rw [List.drop_length] at hun
      exact hun wi Ai σi gi.left ei (.refl _ _) fun _ _ => rfl
end
end Ev

/-! Ev, part W: three stores at once, exceptions; all statements. -/
namespace Ev
open PySem PySem.Spec PyProof.Rows L2

section
variable {cl : Str → Option Addr} {G : Str → Option D} {C : CT} {isSub : Str → Str → Bool} {nW : Nat} {X : Cx} {W : WX}
theorem Ts.inv {K : PySem.W.Frag} {w : Hs} {d : D} {r : List D} {vs : List V} {A : Ft} (h : Ts K cl w (d :: r) vs A) : ∃ v vr A1 A2, vs = v :: vr ∧ T K cl w d v A1 ∧ Ts K cl w r vr A2 ∧ A = A1 + A2 := by unfold Ts at h; exact h
/-! ### a, b, c = x, y, z with plain local names -/
theorem ps_par3 {i j k : Nat} {x y z : Str} {es : List Expr} {ta : TA} {px py pz pt pos : Pos} {kt k2 pt2} (hc : X.calm = true) (hN : X.N.Nodup) (hi : X.N[i]? = some x) (hj : X.N[j]? = some y) (hk : X.N[k]? = some z) (hij : i ≠ j) (hjk : j ≠ k) (hik : i ≠ k)
    (hx : X.env.scope.names.lookup x = some .local) (hy : X.env.scope.names.lookup y = some .local) (hz : X.env.scope.names.lookup z = some .local) (ha : PA X es ta)
    (hw : swappedStores [.Tuple [.Name x px, .Name y py, .Name z pz] kt pt] (.Tuple es k2 pt2) X.env = pure (some [x, y, z])) :
    PS X (.Assign [.Tuple [.Name x px, .Name y py, .Name z pz] kt pt] (.Tuple es k2 pt2) pos) (fun D σ H => ta σ H fun vs H1 => ∃ u v w, vs = [u, v, w] ∧ D.nx (((σ.set i (some u)).set j (some v)).set k (some w)) H1) := by
  refine ⟨fun pins s σ H D I h => ?_⟩
  rw [exec_Assign_arm]
  refine wpAny_bind (wpAny_standAt ?_)
  rw [show swapsWithSole [.Tuple [.Name x px, .Name y py, .Name z pz] kt pt] (.Tuple es k2 pt2) pos.line X.env = pure false from rfl]
  refine wpAny_bind (wpAny_pure ?_)
  rw [if_neg (by decide)]
  refine wpAny_bind (Tuple_ (thn (ha.run _ pins s σ H _ I h) fun us s1 ⟨vs, H1, I1, r1, q1⟩ => ?_))
  obtain ⟨v1, v2, v3, e1, q1⟩ := q1
  subst e1
  obtain ⟨u1, u2, u3, rfl, rv1, rv2, rv3⟩ : ∃ u1 u2 u3, us = [u1, u2, u3] ∧ RelV v1 u1 ∧ RelV v2 u2 ∧ RelV v3 u3 := by
    cases r1 with
    | cons p q =>
      cases q with
      | cons p' q' =>
        cases q' with
        | cons p'' q'' =>
          cases q''
          exact ⟨_, _, _, rfl, p, p', p''⟩
  refine wpAny_newObj_type ?_ (by show 3 ≤ sizeLine; decide)
  have I2 : Inv X pins σ H1 { s1 with heap := s1.heap.push { cls := .type "tuple", data := .seq [u1, u2, u3].toArray } } := I1.kept (t' := s1.toks) fun b o e => Heap.get?_push_of_some _ e
  rw [hw]
  refine wpAny_bind (wpAny_pure ?_)
  show wpAny (model X.prog X.w) X.A (do rule "assign.swapped-stores"; let items ← unpackItems (.ref s1.heap.objs.size) 3 none; assignInOrder [fun v => bindName X.env z v, fun v => bindName X.env y v, fun v => bindName X.env x v] items.reverse; pure Flow.next) _ _ _
  refine wpAny_bind (wpAny_rule (wpAny_bind (unpackItems_tuple (items := #[u1, u2, u3]) (I.ok.hd hc) (IsTup.new s1.heap _) fun h' hx' => ?_)))
  have I3 := I2.kept (h' := h') (t' := s1.toks) fun b o e => hx' b o (Nat.ne_of_lt (Heap.lt_size e)) e
  show wpAny _ _ (assignInOrder [fun v => bindName X.env z v, fun v => bindName X.env y v, fun v => bindName X.env x v] [u3, u2, u1] >>= fun _ => pure Flow.next) _ _ _
  refine wpAny_bind (assignInOrder_cons (wpAny_bindName (store_ok I3 hN hk (.inl hz) rv3 (fun s2 I4 => ?_) (.inr hz))))
  refine assignInOrder_cons (wpAny_bindName (store_ok I4 hN hj (.inl hy) rv2 (fun s3 I5 => ?_) (.inr hy)))
  refine assignInOrder_cons (wpAny_bindName (store_ok I5 hN hi (.inl hx) rv1 (fun s4 I6 => assignInOrder_nil (wpAny_pure ?_)) (.inr hx)))
  have e : ((σ.set k (some v3)).set j (some v2)).set i (some v1) = ((σ.set i (some v1)).set j (some v2)).set k (some v3) := by
    rw [List.set_comm _ _ (Ne.symm hjk), List.set_comm (some v3) _ (Ne.symm hik), List.set_comm (some v2) _ (Ne.symm hij)]
  rw [e] at I6
  exact ⟨_, H1, I6, q1⟩
theorem ss_par3 (i j k : Nat) (es : E) : SndS cl G C isSub nW (.par3 i j k es) := fun X W L Y tk st hc => by
  unfold chkS at hc
  split at hc <;> first | (cases hc; done) | skip
  all_goals rename_i he; first | (cases he; done) | skip
  rename_i x px y py z pz kt pt es' k2 p2 p
  cases he
  simp only [Bool.and_eq_true, decide_eq_true_eq] at hc
  obtain ⟨⟨⟨⟨⟨⟨⟨⟨hi, hj⟩, hk⟩, hne⟩, hx⟩, hy⟩, hz⟩, ha⟩, hsw⟩ := hc
  refine ⟨fun pins s σ H D I h => ?_⟩
  have ps := ps_par3 (pos := p) L.calm L.nd hi hj hk hne.1 hne.2.1 hne.2.2 hx hy hz ((snd es).L X W L tk es' ha) (swB_ok I.ok.kind hsw) (kt := kt) (pt := pt) (k2 := k2) (pt2 := p2)
  refine ps.run pins s σ H D I ?_
  obtain ⟨w, A, ρ, rfl, g, es2, h⟩ := h
  have h : oS X.K cl [i, j, k] w A σ ((evs C G es ρ).fl fun ds ρ1 => par3F i j k ds ρ1) D W := h
  refine ⟨w, A, ρ, rfl, g, es2, oS.expr h (fun ds ρ1 w1 A1 B1 vs g1 e1 x1 t1 h1 => ?_) _⟩
  have t1 : Ts X.K cl w1 ds vs B1 := t1
  rcases ds with _ | ⟨d1, _ | ⟨d2, _ | ⟨d3, _ | ⟨d4, r⟩⟩⟩⟩
  · exact (show False from h1).elim
  · exact (show False from h1).elim
  · exact (show False from h1).elim
  · have h1 : oS X.K cl [i, j, k] w A σ (if i < ρ1.length ∧ j < ρ1.length ∧ k < ρ1.length then .nx (((ρ1.set i (some d1)).set j (some d2)).set k (some d3)) else .bad) D W := h1
    split at h1
    · rename_i hl
      obtain ⟨v1, vr, E1, E2, rfl, u1, t2, rfl⟩ := t1.inv
      obtain ⟨v2, vr2, F1, F2, rfl, u2, t3, rfl⟩ := t2.inv
      obtain ⟨v3, rfl, u3⟩ := t3.un1
      obtain ⟨C1, hC1, e2⟩ := Es.store hl.1 u1 e1
      obtain ⟨C2, hC2, e3⟩ := Es.store (i := j) (by rw [List.length_set]; exact hl.2.1) u2 e2
      obtain ⟨C3, hC3, e4⟩ := Es.store (i := k) (by rw [List.length_set, List.length_set]; exact hl.2.2) u3 e3
      refine ⟨v1, v2, v3, rfl, h1 w1 C3 _ (g1.sub fun b x => ?_) e4 (x1.weak fun b x z => ?_) fun n hn => ?_⟩
      · have := hC1 b x; have := hC2 b x; have := hC3 b x; simp only [add_at] at *; omega
      · have := hC1 b x; have := hC2 b x; have := hC3 b x; simp only [add_at] at *; omega
      · rw [List.getElem?_set_ne (fun z => hn (by rw [z]; simp)), List.getElem?_set_ne (fun z => hn (by rw [z]; simp)), List.getElem?_set_ne (fun z => hn (by rw [z]; simp))]
    · exact (show False from h1).elim
  · exact (show False from h1).elim

/-! ### raise X() -/
theorem pmk_own0 {Ca : Addr} {x : Str} {p pos : Pos} {bmB : List Value} {B newId initId : String} (F : ExcBaseFacts B newId initId bmB) (q : PySem.W.excIn X.K Ca bmB newId = true) (gC : X.mg x = some (.ref Ca)) (kC : PySem.W.keepIn X.K (.ref Ca) = true) (r : Raises X (.ref Ca)) (hg : Gl X x)
    (hdb : (x == ("__debug__" : Str)) = false) : PMk X (.Call (.Name x p) [] [] pos) (fun _ H Q => Q (.ref Ca) none H) := by
  intro pins s σ H Q I h
  refine wpAny_Call_Name_kw (ld_glob I hg gC ?_ hdb)
  refine PySem.W.callWith_K0 I.kIn kC ?_
  show wpAny _ _ (call (.ref Ca) []) _ _ _
  obtain ⟨bm, N, nm, qn, bs, hdct, sn, sub, ab, col, dd, k0, k1, k2, k3, k5, mN, hC, hN, hni, T⟩ := exc_obj I.kIn q
  refine wpAny_call_exc_subT F T hC hN hni (fun h' e hm => ?_) (by show 0 ≤ sizeLine; rw [sizeLine_eq]; omega)
  exact mk_of I hm r h (I.hok.gone hm.new)
theorem ss_raise (c : Str) : SndS cl G C isSub nW (.raise c) := fun X W L Y tk st hc => by
  unfold chkS at hc
  split at hc <;> first | (cases hc; done) | skip
  all_goals rename_i he; first | (cases he; done) | skip
  rename_i x px p p2
  cases he
  simp only [Bool.and_eq_true, decide_eq_true_eq] at hc
  obtain ⟨⟨rfl, hg⟩, ho⟩ := hc
  obtain ⟨o1, o2, o3⟩ := okN_of ho
  have bad : G (excKey x) ≠ some (.bl true) → PS X (.Raise (some (.Call (.Name x px) [] [] p)) none p2) (tS X.K cl (asgS (.raise x)) (evS C G isSub nW (.raise x)) W) := by
    intro hG
    refine ⟨fun pins s σ H D I h => ?_⟩
    obtain ⟨w, A, ρ, rfl, g, es, h⟩ := h
    have h : oS X.K cl [] w A σ (match G (excKey x) with | some (.bl true) => .exc ⟨x, []⟩ ρ | _ => .bad) D W := h
    split at h
    · rename_i e; exact absurd e hG
    · exact (show False from h).elim
  by_cases hG : G (excKey x) = some (.bl true)
  · obtain ⟨a, hcl, hm, hb⟩ := Y.ex x true hG
    obtain ⟨q1, q2, q3, q4⟩ := hb rfl
    refine PS.weak (ps_raise L.calm tk (pmk_own0 PySem.F.excBase_ValueError q1 hm q2 (raises_own q3 q4) (gl_of hg) o1)) fun D σ H h => ?_
    obtain ⟨w, A, ρ, rfl, g, es, h⟩ := h
    have h : oS X.K cl [] w A σ (match G (excKey x) with | some (.bl true) => .exc ⟨x, []⟩ ρ | _ => .bad) D W := h
    rw [hG] at h
    exact h w A σ _ none g es (.refl _ _) (fun _ _ => rfl) ⟨a, hcl, rfl, .inl ⟨rfl, rfl⟩⟩
  · exact bad hG
end
end Ev

/-! Ev, part X: try; all statements. -/
namespace Ev
open PySem PySem.Spec PyProof.Rows L2

section
variable {cl : Str → Option Addr} {G : Str → Option D} {C : CT} {isSub : Str → Str → Bool} {nW : Nat}
/-! ### an except suite's value -/
def tH (K : PySem.W.Frag) (cl : Str → Option Addr) (x : Ex) (e : E) : TE := fun σ H Q => ∃ w A d, w.H = H ∧ Gd w A ∧ evh e x = some d ∧ Can K cl w A 0 d Q
def tHs (K : PySem.W.Frag) (cl : Str → Option Addr) (x : Ex) (e : E) : TA := fun σ H Q => ∃ w A ds, w.H = H ∧ Gd w A ∧ evhs e x = some ds ∧ ∀ w' B vs, Gd w' (A + B) → Ext w A w' (A + B) → Kp w w' A → Ts K cl w' ds vs B → Q vs w'.H
theorem h_ok {X : Cx} (x : Ex) : ∀ e : E, (∀ t : Expr, chkH e t = true → PE X t (tH X.K cl x e)) ∧ (∀ ts : List Expr, chkH.chkHs e ts = true → PA X ts (tHs X.K cl x e)) := by
  intro e
  induction e with
  | int i =>
    refine ⟨fun t hc => ?_, fun ts hc => absurd hc (by cases ts <;> simp [chkH.chkHs])⟩
    cases t <;> first | (simp [chkH] at hc; done) | skip
    rename_i c j p
    cases c <;> first | (simp [chkH] at hc; done) | skip
    unfold chkH at hc
    cases of_decide_eq_true hc
    refine PE.weak pe_int fun σ H Q h => ?_
    obtain ⟨w, A, d, rfl, g, he, can⟩ := h
    cases he
    exact can.now0 (by rw [add0]; exact g) T.int
  | str s =>
    refine ⟨fun t hc => ?_, fun ts hc => absurd hc (by cases ts <;> simp [chkH.chkHs])⟩
    cases t <;> first | (simp [chkH] at hc; done) | skip
    rename_i c j p
    cases c <;> first | (simp [chkH] at hc; done) | skip
    unfold chkH at hc
    cases of_decide_eq_true hc
    refine PE.weak pe_str fun σ H Q h => ?_
    obtain ⟨w, A, d, rfl, g, he, can⟩ := h
    cases he
    exact can.now0 (by rw [add0]; exact g) T.str
  | bl b =>
    refine ⟨fun t hc => ?_, fun ts hc => absurd hc (by cases ts <;> simp [chkH.chkHs])⟩
    cases t <;> first | (simp [chkH] at hc; done) | skip
    rename_i c j p
    cases c <;> first | (simp [chkH] at hc; done) | skip
    unfold chkH at hc
    cases of_decide_eq_true hc
    refine PE.weak pe_bl fun σ H Q h => ?_
    obtain ⟨w, A, d, rfl, g, he, can⟩ := h
    cases he
    exact can.now0 (by rw [add0]; exact g) T.bl
  | non =>
    refine ⟨fun t hc => ?_, fun ts hc => absurd hc (by cases ts <;> simp [chkH.chkHs])⟩
    cases t <;> first | (simp [chkH] at hc; done) | skip
    rename_i c j p
    cases c <;> first | (simp [chkH] at hc; done) | skip
    refine PE.weak pe_non fun σ H Q h => ?_
    obtain ⟨w, A, d, rfl, g, he, can⟩ := h
    cases he
    exact can.now0 (by rw [add0]; exact g) T.non
  | tup es ih =>
    refine ⟨fun t hc => ?_, fun ts hc => absurd hc (by cases ts <;> simp [chkH.chkHs])⟩
    cases t <;> first | (simp [chkH] at hc; done) | skip
    rename_i xs k p
    unfold chkH at hc
    refine PE.weak (pe_tup (ih.2 xs hc)) fun σ H Q h => ?_
    obtain ⟨w, A, d, rfl, g, he, can⟩ := h
    have he : (evhs es x).bind (fun ds => if ds.length ≤ sizeLine then some (D.tup ds) else none) = some d := he
    obtain ⟨ds, h1, h2⟩ := Option.bind_eq_some_iff.mp he
    split at h2
    · rename_i hl
      cases h2
      refine ⟨w, A, ds, rfl, g, h1, fun w' B vs g' x' k' ts => ⟨by rw [ts.length]; exact hl, ?_⟩⟩
      have can' : Can X.K cl w' A B (.tup ds) Q := fun w2 B2 b g2 x2 k2 t2 => can w2 B2 b g2 (by rw [add0]; exact x'.trans x2) (k'.trans k2) t2
      exact can'.newT g' (fun _ _ => Nat.le_refl _) ts
    · cases h2
  | lst es ih =>
    refine ⟨fun t hc => ?_, fun ts hc => absurd hc (by cases ts <;> simp [chkH.chkHs])⟩
    cases t <;> first | (simp [chkH] at hc; done) | skip
    rename_i xs p
    unfold chkH at hc
    refine PE.weak (pe_lst (ih.2 xs hc)) fun σ H Q h => ?_
    obtain ⟨w, A, d, rfl, g, he, can⟩ := h
    have he : (evhs es x).bind (fun ds => if ds.length ≤ sizeLine then some (D.lst .own ds) else none) = some d := he
    obtain ⟨ds, h1, h2⟩ := Option.bind_eq_some_iff.mp he
    split at h2
    · rename_i hl
      cases h2
      refine ⟨w, A, ds, rfl, g, h1, fun w' B vs g' x' k' ts => ⟨by rw [ts.length]; exact hl, ?_⟩⟩
      have can' : Can X.K cl w' A B (.lst .own ds) Q := fun w2 B2 b g2 x2 k2 t2 => can w2 B2 b g2 (by rw [add0]; exact x'.trans x2) (k'.trans k2) t2
      exact can'.newL g' (fun _ _ => Nat.le_refl _) ts
    · cases h2
  | nil =>
    refine ⟨fun t hc => absurd hc (by cases t <;> simp [chkH]), fun ts hc => ?_⟩
    cases ts <;> first | (simp [chkH.chkHs] at hc; done) | skip
    refine PA.weak pa_nil fun σ H Q h => ?_
    obtain ⟨w, A, ds, rfl, g, he, k⟩ := h
    cases he
    exact k w 0 [] (by rw [add0]; exact g) (by rw [add0]; exact .refl _ _) (.refl _ _) (by unfold Ts; exact ⟨rfl, rfl⟩)
  | cons a r iha ihr =>
    refine ⟨fun t hc => absurd hc (by cases t <;> simp [chkH]), fun ts hc => ?_⟩
    cases ts with
    | nil => simp [chkH.chkHs] at hc
    | cons t ts =>
      unfold chkH.chkHs at hc
      simp only [Bool.and_eq_true] at hc
      refine PA.weak (pa_cons (iha.1 t hc.1.1) (ihr.2 ts hc.2) (star_of hc.1.2)) fun σ H Q h => ?_
      obtain ⟨w, A, ds, rfl, g, he, k⟩ := h
      have he : (evh a x).bind (fun d => (evhs r x).map (d :: ·)) = some ds := he
      obtain ⟨d, h1, h2⟩ := Option.bind_eq_some_iff.mp he
      obtain ⟨dr, h3, rfl⟩ := Option.map_eq_some_iff.mp h2
      refine ⟨w, A, d, rfl, g, h1, fun w1 B1 b g1 x1 k1 t1 => ?_⟩
      rw [add0] at x1
      refine ⟨w1, A + B1, dr, rfl, g1, h3, fun w2 B2 vs g2 x2 k2 t2 => ?_⟩
      refine k w2 (B1 + B2) (b :: vs) (by rw [← add_assoc']; exact g2) (by rw [← add_assoc']; exact x1.trans x2) (k1.trans k2.left) ?_
      unfold Ts
      exact ⟨b, vs, B1, B2, rfl, T.keep _ _ _ k2.right t1, t2, rfl⟩
  | _ => exact ⟨fun t hc => absurd hc (by cases t <;> simp [chkH]), fun ts hc => absurd hc (by cases ts <;> simp [chkH.chkHs])⟩

variable {X : Cx} {W : WX}
theorem lib_tr {pn : List (Addr × Obj)} {xe : Value → Shared → Prop} (L : Lib cl G C X) : Lib cl G C (X.tr pn xe) := ⟨L.calm, L.nd, L.un, L.gl, L.bl, L.kc, L.na, L.gcd, L.fn⟩
theorem ctx_tr {pn : List (Addr × Obj)} {xe : Value → Shared → Prop} (Y : Ctx cl G isSub X) (hp : PassesOwn (model X.prog X.w) X.A X.env xe) : Ctx cl G isSub (X.tr pn xe) := ⟨hp, Y.fn, Y.hs, Y.hf, Y.ex, Y.exb, Y.sub⟩
theorem ss_try (b : S) (c : Str) (e : E) (ihb : SndSs cl G C isSub nW b) : SndS cl G C isSub nW (.tryy b c e) := fun X W L Y tk st hc => by
  unfold chkS at hc
  split at hc <;> first | (cases hc; done) | skip
  all_goals rename_i he; first | (cases he; done) | skip
  rename_i body x px e' p2 p3 p
  cases he
  simp only [Bool.and_eq_true, decide_eq_true_eq] at hc
  obtain ⟨⟨⟨⟨rfl, hg⟩, ho⟩, hb⟩, hh⟩ := hc
  obtain ⟨o1, o2, o3⟩ := okN_of ho
  cases hG : G (excKey x) with
  | none =>
    refine ⟨fun pins s σ H D I h => ?_⟩
    obtain ⟨w, A, ρ, rfl, g, es, h⟩ := h
    have h : oS X.K cl (asgS b) w A σ (if (G (excKey x)).isSome then _ else .bad) D W := h
    rw [hG] at h
    exact (show False from h).elim
  | some dd =>
    obtain ⟨pl, rfl⟩ := Y.exb x dd hG
    obtain ⟨a, hcl, hm, _⟩ := Y.ex x pl hG
    have nm : Names X x (.ref a) := ⟨gl_of hg, o1, .inl hm⟩
    -- the suite's reading, by the exception that it meets
    refine ⟨fun pins s σ H D I h => ?_⟩
    obtain ⟨w, A, ρ, rfl, g, es, h⟩ := h
    have h : oS X.K cl (asgS b) w A σ (if (G (excKey x)).isSome then (match evS C G isSub nW b ρ with
      | .exc xx ρ1 => if isSub xx.c x then (match evh e xx with
        | some d => .ret d ρ1
        | none => .bad) else .exc xx ρ1
      | o => o) else .bad) D W := h
    rw [hG] at h
    have h : oS X.K cl (asgS b) w A σ (match evS C G isSub nW b ρ with
      | .exc xx ρ1 => if isSub xx.c x then (match evh e xx with
        | some d => .ret d ρ1
        | none => .bad) else .exc xx ρ1
      | o => o) D W := h
    have ps := ps_try_only (tb := fun W' => tS X.K cl (asgS b) (evS C G isSub nW b) W') (body := body) (pos := p) (pos' := p3) (np := px) (b₀ := .Return (some e') p2) (suite := []) (ts := fun _ _ _ => tRet (fun σ H Q => ∃ xx, tH X.K cl xx e σ H Q)) Y.hs Y.hf nm tk
      (fun W' pn xe tk' hp => ihb (X.tr pn xe) W' (lib_tr L) (ctx_tr Y hp) tk' body hb)
      (fun a oe cls d pn _ _ => pss_one (ps_ret ⟨fun pins s σ H Q I q => let ⟨xx, q⟩ := q; ((h_ok (X := X.suite a ((a, oe) :: pn)) (cl := cl) xx e).1 e' hh).run pins s σ H Q I q⟩))
    refine ps.run pins s σ w.H D I ?_
    refine ⟨w, A, ρ, rfl, g, es, ?_⟩
    cases hbv : evS C G isSub nW b ρ with
    | nx ρ1 => rw [hbv] at h; exact h
    | ret d ρ1 => rw [hbv] at h; exact h
    | brk ρ1 => rw [hbv] at h; exact h
    | ct ρ1 => rw [hbv] at h; exact h
    | bad => rw [hbv] at h; exact h
    | exc xx ρ1 =>
      rw [hbv] at h
      have h : oS X.K cl (asgS b) w A σ (if isSub xx.c x then (match evh e xx with
        | some d => .ret d ρ1
        | none => .bad) else .exc xx ρ1) D W := h
      intro w' A' σ' cls dd g' e2 x' st' er
      obtain ⟨ca, hca, rfl, _⟩ := id er
      refine ⟨isSub xx.c x, Y.sub _ _ _ _ hca hcl, fun hb2 ad na => ?_, fun hb2 => ?_⟩
      · rw [if_pos hb2] at h
        cases hv : evh e xx with
        | none => rw [hv] at h; exact (show False from h).elim
        | some d =>
          rw [hv] at h
          exact ⟨xx, w', A', d, rfl, g', hv, fun w2 B v g2 x2 k2 t2 => h w2 A' B σ' v g2 (e2.keep k2) t2 (x'.trans (by rw [add0] at x2; exact x2)) st'⟩
      · rw [if_neg (by rw [hb2]; exact Bool.false_ne_true)] at h
        exact h w' A' σ' _ dd g' e2 x' st' er

/-- all statements -/
structure SAll (cl : Str → Option Addr) (G : Str → Option D) (C : CT) (isSub : Str → Str → Bool) (nW : Nat) (s : S) : Prop where
  st : SndS cl G C isSub nW s
  b : SndSs cl G C isSub nW s
theorem noS {s : S} (h : ∀ N sc t, chkS N sc s t = false) : SndS cl G C isSub nW s := fun X W L Y tk t hc => by rw [h] at hc; cases hc
theorem noB {s : S} (h : ∀ N sc t, chkSs N sc s t = false) : SndSs cl G C isSub nW s := fun X W L Y tk t hc => by rw [h] at hc; cases hc
theorem ssnd : ∀ s : S, SAll cl G C isSub nW s := by
  intro s
  induction s with
  | nil => exact ⟨noS (by intro N sc t; cases t <;> rfl), ss_nil⟩
  | cons s r ihs ihr => exact ⟨noS (by intro N sc t; cases t <;> rfl), ss_cons s r ihs.st ihr.b⟩
  | asg t e => exact ⟨ss_asg t e, noB (by intro N sc t; cases t <;> rfl)⟩
  | par2 i j a b => exact ⟨ss_par2 i j a b, noB (by intro N sc t; cases t <;> rfl)⟩
  | par3 i j k es => exact ⟨ss_par3 i j k es, noB (by intro N sc t; cases t <;> rfl)⟩
  | aug i op e => exact ⟨ss_aug i op e, noB (by intro N sc t; cases t <;> rfl)⟩
  | put p i e => exact ⟨ss_put p i e, noB (by intro N sc t; cases t <;> rfl)⟩
  | augp p i op e => exact ⟨noS (by intro N sc t; cases t <;> rfl), noB (by intro N sc t; cases t <;> rfl)⟩
  | ex e => exact ⟨ss_ex e, noB (by intro N sc t; cases t <;> rfl)⟩
  | ret e => exact ⟨ss_ret e, noB (by intro N sc t; cases t <;> rfl)⟩
  | retN => exact ⟨ss_retN, noB (by intro N sc t; cases t <;> rfl)⟩
  | iff c a b iha ihb => exact ⟨ss_iff c a b iha.b ihb.b, noB (by intro N sc t; cases t <;> rfl)⟩
  | whl c b ih => exact ⟨ss_whl c b ih.b, noB (by intro N sc t; cases t <;> rfl)⟩
  | forr t it b ih => exact ⟨ss_for t it b ih.b, noB (by intro N sc t; cases t <;> rfl)⟩
  | brk => exact ⟨ss_brk, noB (by intro N sc t; cases t <;> rfl)⟩
  | cont => exact ⟨ss_cont, noB (by intro N sc t; cases t <;> rfl)⟩
  | pass => exact ⟨ss_pass, noB (by intro N sc t; cases t <;> rfl)⟩
  | raise c => exact ⟨ss_raise c, noB (by intro N sc t; cases t <;> rfl)⟩
  | tryy b c e ih => exact ⟨ss_try b c e ih.b, noB (by intro N sc t; cases t <;> rfl)⟩
end
end Ev

/-! Ev, part Y: defs. -/
namespace Ev
open PySem PySem.Spec PyProof.Rows L2

section
variable {K : PySem.W.Frag} {cl : Str → Option Addr} {w w' : Hs}
theorem Es.nones : ∀ (n : Nat), Es K cl w (List.replicate n none) (List.replicate n none) 0
  | 0 => by unfold Es; exact ⟨rfl, rfl⟩
  | n + 1 => by
    rw [List.replicate_succ, List.replicate_succ]
    unfold Es
    exact ⟨none, _, rfl, Es.nones n⟩
theorem Es.ofTs : ∀ {ds : List D} {vs : List V} {A : Ft} (n : Nat), Ts K cl w ds vs A → Es K cl w (ds.map some ++ List.replicate n none) (vs.map some ++ List.replicate n none) A
  | [], vs, A, n, h => by
    unfold Ts at h
    obtain ⟨rfl, rfl⟩ := h
    exact Es.nones n
  | d :: r, vs, A, n, h => by
    obtain ⟨v, vr, A1, A2, rfl, t, h2, rfl⟩ := h.inv
    rw [List.map_cons, List.map_cons, List.cons_append, List.cons_append]
    unfold Es
    exact ⟨v, _, A1, A2, rfl, t, Es.ofTs n h2, rfl⟩
/-- the parameters' trees behind a body -/
theorem par_back {asg : List Nat} : ∀ {ds : List D} {vs : List V} {k : Nat} {ρ : Env} {σ : Sg} {A A0 : Ft}, Es K cl w' ρ σ A → Ts K cl w ds vs A0 → Sm w.F w'.F →
    ((ds.zipIdx k).all fun p => if p.2 ∈ asg then isFrz p.1 else (slot ρ p.2).isSome) = true → (∀ j v, vs[j]? = some v → k + j ∉ asg → σ[k + j]? = some (some v)) →
    ∃ B, (∀ b x, B b x ≤ A b x) ∧ Ts K cl w' ((ds.zipIdx k).map fun p => if p.2 ∈ asg then p.1 else (slot ρ p.2).getD .non) vs B
  | [], vs, k, ρ, σ, A, A0, e, h, s, ok, hs => by
    unfold Ts at h
    obtain ⟨rfl, rfl⟩ := h
    exact ⟨0, fun _ _ => Nat.zero_le _, by show Ts K cl w' [] [] 0; unfold Ts; exact ⟨rfl, rfl⟩⟩
  | d :: r, vs, k, ρ, σ, A, A0, e, h, s, ok, hs => by
    obtain ⟨v, vr, A1, A2, rfl, t, h2, rfl⟩ := h.inv
    rw [List.zipIdx_cons, List.all_cons, Bool.and_eq_true] at ok
    rw [List.zipIdx_cons, List.map_cons]
    have hs' : ∀ j u, vr[j]? = some u → (k + 1) + j ∉ asg → σ[(k + 1) + j]? = some (some u) := fun j u hj hn => by
      have := hs (j + 1) u (by simpa using hj) (by rw [show k + (j + 1) = k + 1 + j by omega]; exact hn)
      rw [show k + (j + 1) = k + 1 + j by omega] at this
      exact this
    by_cases hk : k ∈ asg
    · have hf : isFrz d = true := by
        have := ok.1
        rw [if_pos hk] at this
        exact this
      obtain ⟨B, hB, ts⟩ := par_back e h2 s ok.2 hs'
      refine ⟨0 + B, fun b x => by rw [zero_add']; exact hB b x, ?_⟩
      unfold Ts
      refine ⟨v, vr, 0, B, rfl, ?_, ts, rfl⟩
      rw [if_pos hk]
      exact T.keep d v 0 ⟨s, fun b o p => by rw [zero_at] at p; omega, fun b o p => by rw [zero_at] at p; omega⟩ (t.frz hf)
    · have hsm : (slot ρ k).isSome = true := by
        have := ok.1
        rw [if_neg hk] at this
        exact this
      obtain ⟨d', hd⟩ := Option.isSome_iff_exists.mp hsm
      obtain ⟨v', C1, Cr, hv, t', rfl, e2⟩ := Es.out hd e
      have hv0 := hs 0 v rfl hk
      rw [Nat.add_zero, hv] at hv0
      cases hv0
      have slot_ne : ∀ p ∈ r.zipIdx (k + 1), slot (ρ.set k none) p.2 = slot ρ p.2 := by
        intro p hp
        have h1 : k + 1 ≤ p.2 := by
          have := List.mem_zipIdx hp
          omega
        unfold slot
        rw [List.getElem?_set_ne (by omega)]
      have ok2 : ((r.zipIdx (k + 1)).all fun p => if p.2 ∈ asg then isFrz p.1 else (slot (ρ.set k none) p.2).isSome) = true := by
        rw [List.all_eq_true] at ok ⊢
        intro p hp
        have := ok.2 p hp
        rw [slot_ne p hp]
        exact this
      obtain ⟨B, hB, ts⟩ := par_back e2 h2 s ok2 hs'
      have em : ((r.zipIdx (k + 1)).map fun p => if p.2 ∈ asg then p.1 else (slot (ρ.set k none) p.2).getD .non) = (r.zipIdx (k + 1)).map fun p => if p.2 ∈ asg then p.1 else (slot ρ p.2).getD .non :=
        List.map_congr_left fun p hp => by rw [slot_ne p hp]
      rw [em] at ts
      refine ⟨C1 + B, fun b x => by have := hB b x; simp only [add_at]; omega, ?_⟩
      unfold Ts
      refine ⟨v, vr, C1, B, rfl, ?_, ts, rfl⟩
      rw [if_neg hk, hd]
      exact t'
end

section
variable {cl : Str → Option Addr} {G : Str → Option D} {C : CT} {isSub : Str → Str → Bool} {nW : Nat}
/-- from a def's promise to its body's reading -/
theorem body_of {K : PySem.W.Frag} {fd : Fd} {N : List Str} {vs : List V} {H : Hp} {Q : VK} {E : XK} (hN : fd.ns = N.length) (h : spEv cl K (callF C G isSub nW fd) vs H Q E) :
    tS K cl (asgS fd.body) (evS C G isSub nW fd.body) (fun cls d _ H' => E cls d H') { nx := fun _ H' => Q .non H', rt := Q } (L2.start N vs) H := by
  obtain ⟨w, A, ds, rfl, g, ts, h⟩ := h
  have hlen := ts.length
  have hl : Es K cl w (Ev.start fd.ns ds) (L2.start N vs) A := by
    unfold Ev.start L2.start
    rw [hN, hlen]
    exact Es.ofTs _ ts
  refine ⟨w, A, Ev.start fd.ns ds, rfl, g, hl, ?_⟩
  have par : ∀ {w' : Hs} {A' : Ft} {σ' : Sg} {ρ' : Env}, Es K cl w' ρ' σ' A' → Sm w.F w'.F → parOk (asgS fd.body) ds ρ' = true → (∀ i, i ∉ asgS fd.body → σ'[i]? = (L2.start N vs)[i]?) →
      ∃ B, (∀ b x, B b x ≤ A' b x) ∧ Ts K cl w' (behind (asgS fd.body) ds ρ') vs B := by
    intro w' A' σ' ρ' e s ok st
    refine par_back (k := 0) e ts s ok fun j v hj hn => ?_
    rw [Nat.zero_add] at hn ⊢
    rw [st j hn]
    unfold L2.start
    have hjl : j < vs.length := (List.getElem?_eq_some_iff.mp hj).1
    rw [List.getElem?_append_left (by rw [List.length_map]; exact hjl), List.getElem?_map, hj]
    rfl
  by_cases hnp : ds.length = fd.np
  · cases ho : evS C G isSub nW fd.body (Ev.start fd.ns ds) with
    | bad =>
      have e : callF C G isSub nW fd ds = .bad := by unfold callF; rw [if_pos hnp, ho]
      rw [e] at h
      exact (show False from h).elim
    | brk ρ' =>
      have e : callF C G isSub nW fd ds = .bad := by unfold callF; rw [if_pos hnp, ho]
      rw [e] at h
      exact (show False from h).elim
    | ct ρ' =>
      have e : callF C G isSub nW fd ds = .bad := by unfold callF; rw [if_pos hnp, ho]
      rw [e] at h
      exact (show False from h).elim
    | nx ρ' =>
      by_cases hp : parOk (asgS fd.body) ds ρ' = true
      · have e : callF C G isSub nW fd ds = .ok .non (behind (asgS fd.body) ds ρ') := by unfold callF; rw [if_pos hnp, ho]; exact if_pos hp
        rw [e] at h
        intro w' A' σ' g' e' x' st'
        obtain ⟨B, hB, tb⟩ := par e' x'.F hp st'
        exact h w' B 0 .non (by rw [add0]; exact g'.sub hB) tb T.non (by rw [add0]; exact x'.weak fun b x z => Nat.lt_of_lt_of_le z (hB b x))
      · have e : callF C G isSub nW fd ds = .bad := by unfold callF; rw [if_pos hnp, ho]; exact if_neg hp
        rw [e] at h
        exact (show False from h).elim
    | ret d ρ' =>
      by_cases hp : parOk (asgS fd.body) ds ρ' = true
      · have e : callF C G isSub nW fd ds = .ok d (behind (asgS fd.body) ds ρ') := by unfold callF; rw [if_pos hnp, ho]; exact if_pos hp
        rw [e] at h
        intro w' A' B' σ' v g' e' t' x' st'
        obtain ⟨B, hB, tb⟩ := par e' x'.F hp st'
        exact h w' B B' v (g'.sub fun b x => by have := hB b x; simp only [add_at]; omega) tb t' (x'.weak fun b x z => by have := hB b x; simp only [add_at] at z ⊢; omega)
      · have e : callF C G isSub nW fd ds = .bad := by unfold callF; rw [if_pos hnp, ho]; exact if_neg hp
        rw [e] at h
        exact (show False from h).elim
    | exc x ρ' =>
      by_cases hp : parOk (asgS fd.body) ds ρ' = true
      · have e : callF C G isSub nW fd ds = .exc x (behind (asgS fd.body) ds ρ') := by unfold callF; rw [if_pos hnp, ho]; exact if_pos hp
        rw [e] at h
        intro w' A' σ' cls dd g' e' x' st' r
        obtain ⟨B, hB, tb⟩ := par e' x'.F hp st'
        exact h w' B cls dd (g'.sub hB) tb (x'.weak fun b x z => Nat.lt_of_lt_of_le z (hB b x)) r
      · have e : callF C G isSub nW fd ds = .bad := by unfold callF; rw [if_pos hnp, ho]; exact if_neg hp
        rw [e] at h
        exact (show False from h).elim
  · have e : callF C G isSub nW fd ds = .bad := by unfold callF; rw [if_neg hnp]
    rw [e] at h
    exact (show False from h).elim
/-- a def of the text: its statement, parameters, slots, term -/
structure DefI where
  name : Str
  st : Stmt
  ps : List Str
  N : List Str
  fd : Fd
/-- what is checked of a def -/
def DefI.ok (d : DefI) : Bool := decide (d.fd.ns = d.N.length) && decide (d.fd.np = d.ps.length) && chkSs d.N (defScope d.st) d.fd.body (defBody d.st)
/-- what the module gives -/
structure ModOk (P : Program) (w : World) (K : PySem.W.Frag) (mg : Str → Option Value) (base : Heap) (cl : Str → Option Addr) (Pg : Prg) (defs : List DefI) : Prop where
  gl : ∀ x d, Pg.G x = some d → mark x = false → ∃ u v, mg x = some u ∧ RelV v u ∧ ∀ w, T K cl w d v 0
  bl : ∀ x ∈ blts, mg x = none
  kc : ∀ c a f, cl c = some a → fldOk c f = true → Cls K a
  na : ∀ c a f, cl c = some a → fldOk c f = true → NoAttr K a f
  gcd : (Pg.G "math.gcd").isSome = true → mg "gcd" = some (.builtin "math.gcd")
  ex : ∀ c b, Pg.G (excKey c) = some (.bl b) → ∃ a, cl c = some a ∧ mg c = some (.ref a) ∧ (b = true → PySem.W.excIn K a [.type "ValueError", .type "Exception", .type "BaseException", .type "object"] "ValueError.__new__" = true ∧
    PySem.W.keepIn K (.ref a) = true ∧ PySem.W.subIn K (.ref a) (.type "BaseException") = some true ∧ PySem.W.typeIn K (.ref a) = some (.type "type"))
  exb : ∀ c d, Pg.G (excKey c) = some d → ∃ b, d = .bl b
  sub : ∀ x c a b, cl x = some a → cl c = some b → PySem.W.exmOne K (.ref a) (.ref b) = some (Pg.isSub x c)
  fns : ∀ f fd, Pg.fns f = some fd → ∃ d ∈ defs, d.name = f ∧ d.fd = fd
  at_ : ∀ d ∈ defs, ∃ (a : Addr) (f : FuncData), mg d.name = some (.ref a) ∧ Binds K f d.ps [] ∧ FunD K d.name d.name (defArgs d.st) (defBody d.st) (defScope d.st) [] [] a f
  sc : ∀ d ∈ defs, FnScope d.N d.ps (defScope d.st)
  ok : ∀ d ∈ defs, d.ok = true
theorem fn_all {P : Program} {w : World} {K : PySem.W.Frag} {mg : Str → Option Value} {base : Heap} {cl : Str → Option Addr} {Pg : Prg} {defs : List DefI} (M : ModOk P w K mg base cl Pg defs) : ∀ (n : Nat) (f : Str) (F : List D → CO), callN Pg n f = some F →
    ∃ d ∈ defs, ∃ (a : Addr) (fdt : FuncData), d.name = f ∧ mg f = some (.ref a) ∧ PySem.W.keepIn K (.ref a) = true ∧ Binds K fdt d.ps [] ∧ FunD K d.name d.name (defArgs d.st) (defBody d.st) (defScope d.st) [] [] a fdt ∧ FnOk P w K mg base (L2.CX P w) n a fdt d.ps (spEv cl K F)
  | 0, f, F, h => by cases h
  | n + 1, f, F, h => by
    have h : (Pg.fns f).map (fun fd => callF (callN Pg n) Pg.G Pg.isSub nWhile fd) = some F := h
    obtain ⟨fd, hf, rfl⟩ := Option.map_eq_some_iff.mp h
    obtain ⟨d, hd, rfl, rfl⟩ := M.fns f fd hf
    obtain ⟨a, fdt, hm, hb, hF⟩ := M.at_ d hd
    have hok := M.ok d hd
    unfold DefI.ok at hok
    simp only [Bool.and_eq_true, decide_eq_true_eq] at hok
    obtain ⟨⟨hns, hnp⟩, hchk⟩ := hok
    have S := M.sc d hd
    refine ⟨d, hd, a, fdt, rfl, hm, hF.kp, hb, hF, ?_⟩
    refine hF.ok S (fun vs H Q E hs => ?_) fun cdv A outer s H vs Q E hr hs => ?_
    · obtain ⟨w1, A1, ds, rfl, g, ts, h1⟩ := hs
      by_cases hl : ds.length = d.fd.np
      · rw [ts.length, hl, hnp]
      · have e : callF (callN Pg n) Pg.G Pg.isSub nWhile d.fd ds = .bad := by unfold callF; rw [if_neg hl]
        rw [e] at h1
        exact (show False from h1).elim
    · have L : Lib cl Pg.G (callN Pg n) (cxOf (L2.CX P w) P w K mg base d.N d.name (defScope d.st) a cdv A outer s H E) :=
        ⟨rfl, S.nd, by have := hr.un; show (A.deeper _).units + 65 < cLine; omega, M.gl, M.bl, M.kc, M.na, M.gcd, fun g F hg => by
          obtain ⟨d2, _, a2, fdt2, rfl, hm2, hk2, hb2, _, fo⟩ := fn_all M n g F hg
          exact ⟨a2, fdt2, d2.ps, n, hm2, hk2, hb2, hr, fo⟩⟩
      have Y : Ctx cl Pg.G Pg.isSub (cxOf (L2.CX P w) P w K mg base d.N d.name (defScope d.st) a cdv A outer s H E) :=
        ⟨passes_of rfl, fun _ => rfl, rfl, rfl, M.ex, M.exb, M.sub⟩
      exact ⟨_, (ssnd d.fd.body).b _ _ L Y (takes_of rfl rfl rfl rfl) _ hchk, body_of hns hs⟩
end
end Ev

/-! Ev, part Z: the module's facts. -/
namespace Ev
open PySem PySem.Spec PyProof.Rows L2

mutual
def conD (K : PySem.W.Frag) : D → Value → Bool
  | .non, .none => true
  | .bl b, .bool c => b == c
  | .int i, .int j _ => decide (i = j)
  | .str x, .str y _ => decide (x = y)
  | .tup ds, .ref a => (match K.lookup a with
    | some ⟨.type "tuple", _, .seq its _, _⟩ => decide (its.size ≤ sizeLine) && conDs K ds its.toList
    | _ => false)
  | _, _ => false
def conDs (K : PySem.W.Frag) : List D → List Value → Bool
  | [], [] => true
  | d :: ds, u :: us => conD K d u && conDs K ds us
  | _, _ => false
end
mutual
theorem conD_ok {K : PySem.W.Frag} {cl : Str → Option Addr} : ∀ (d : D) (u : Value), conD K d u = true → ∃ v, RelV v u ∧ ∀ w, T K cl w d v 0
  | .non, u, h => by
    cases u <;> first | (simp [conD] at h; done) | skip
    exact ⟨.non, rfl, fun w => T.non⟩
  | .bl b, u, h => by
    cases u <;> first | (simp [conD] at h; done) | skip
    unfold conD at h
    have := eq_of_beq h
    subst this
    exact ⟨.bl b, rfl, fun w => T.bl⟩
  | .int i, u, h => by
    cases u <;> first | (simp [conD] at h; done) | skip
    unfold conD at h
    cases of_decide_eq_true h
    exact ⟨.int i, ⟨_, rfl⟩, fun w => T.int⟩
  | .str x, u, h => by
    cases u <;> first | (simp [conD] at h; done) | skip
    unfold conD at h
    cases of_decide_eq_true h
    exact ⟨.str x, ⟨_, rfl⟩, fun w => T.str⟩
  | .tup ds, u, h => by
    cases u <;> first | (simp [conD] at h; done) | skip
    rename_i a
    unfold conD at h
    split at h
    · rename_i dd its n sl hl
      rw [Bool.and_eq_true, decide_eq_true_eq] at h
      obtain ⟨vs, rv, ts⟩ := conDs_ok ds its.toList h.2
      refine ⟨.ref a, rfl, fun w => ?_⟩
      unfold T
      exact ⟨a, vs, rfl, .inr ⟨_, its, n, hl, rfl, rfl, h.1, rv⟩, ts w⟩
    · cases h
  | .lst _ _, u, h => by cases u <;> simp [conD] at h
  | .dct _ _, u, h => by cases u <;> simp [conD] at h
  | .ins _ _ _, u, h => by cases u <;> simp [conD] at h
theorem conDs_ok {K : PySem.W.Frag} {cl : Str → Option Addr} : ∀ (ds : List D) (us : List Value), conDs K ds us = true → ∃ vs, Vals vs us ∧ ∀ w, Ts K cl w ds vs 0
  | [], us, h => by
    cases us with
    | nil => exact ⟨[], .nil, fun w => by unfold Ts; exact ⟨rfl, rfl⟩⟩
    | cons u us => simp [conDs] at h
  | d :: ds, us, h => by
    cases us with
    | nil => simp [conDs] at h
    | cons u us =>
      unfold conDs at h
      rw [Bool.and_eq_true] at h
      obtain ⟨v, r, t⟩ := conD_ok (cl := cl) d u h.1
      obtain ⟨vs, rs, ts⟩ := conDs_ok (cl := cl) ds us h.2
      refine ⟨v :: vs, .cons r rs, fun w => ?_⟩
      unfold Ts
      exact ⟨v, vs, 0, 0, rfl, t w, ts w, (add0 _).symm⟩
end
/-- a program's data: its defs, constants, classes of exceptions (plain: no __init__ of its own), who stands below whom; gcd is imported -/
structure PD where
  defs : List DefI
  consts : List (Str × D)
  cls : List (Str × Bool)
  subs : List (Str × Str)
  gcd : Bool
def PD.isSub (p : PD) (a b : Str) : Bool := p.subs.contains (a, b)
def PD.gl (p : PD) : List (Str × D) := p.consts ++ (if p.gcd then ([("math.gcd", D.non)] : List (Str × D)) else []) ++ p.cls.map fun c => (excKey c.1, D.bl c.2)
def PD.prg (p : PD) : Prg := ⟨fun f => (p.defs.find? fun d => d.name == f).map (·.fd), fun x => p.gl.lookup x, p.isSub⟩
def DefI.d (d : DefI) : He.DefD := ⟨(d.name, none), d.name, d.name, defArgs d.st, defBody d.st, defScope d.st, [], []⟩
def PD.fn (p : PD) : List He.DefD := p.defs.map DefI.d
def PD.fa (p : PD) : List He.Fa := p.defs.map (fun d => .glo d.name) ++ blts.map .free ++ p.cls.map (fun c => .glo c.1) ++ (p.cls.filter (·.2)).map (fun c => .exc c.1) ++ p.cls.flatMap fun x => p.cls.map fun y => .exm x.1 y.1 (p.isSub x.1 y.1)
def PD.ex (p : PD) (K : PySem.W.Frag) : Bool := (p.consts.all fun c => match PySem.W.nsIn K mainGlobals c.1 with
    | some (some u) => conD K c.2 u
    | _ => false) && (!p.gcd || (match PySem.W.nsIn K mainGlobals "gcd" with
    | some (some (.builtin s)) => s == "math.gcd"
    | _ => false))
def PD.cl (p : PD) (K : PySem.W.Frag) (c : Str) : Option Addr := if (p.cls.map (·.1)).contains c then some (He.ga K c) else none
/-- what is checked of the data alone -/
def PD.ok (p : PD) : Bool := p.defs.all DefI.ok && p.consts.all (fun c => !mark c.1) && p.cls.all fun c => fldTab.all fun f => f.1 != c.1
/-- what is shown of each def: its scope, its binding -/
structure DefI.Fits (d : DefI) : Prop where
  sc : FnScope d.N d.ps (defScope d.st)
  bd : ∀ (kV doc pm : Value) (an : Option Addr) (cdv ct : Value) (us : List Value), us.length = d.ps.length → bindArgs (PySem.W.fnOf d.name d.name (defArgs d.st) (defBody d.st) (defScope d.st) .none kV doc pm an cdv ct) ⟨us, []⟩ = pure (d.ps.zip us)
theorem excKey_inj {a b : Str} (h : excKey a = excKey b) : a = b := by
  unfold excKey at h
  have h := congrArg Str.cps h
  have h2 : (#[33] ++ a.cps).toList = (#[33] ++ b.cps).toList := congrArg Array.toList h
  simp at h2
  cases a; cases b
  simp only [Str.mk.injEq]
  exact h2
theorem excKey_0 (c : Str) : (excKey c).cps[0]? = some 33 := by
  show (#[33] ++ c.cps)[0]? = some 33
  rw [Array.getElem?_append_left (by decide)]
  rfl
theorem mark_exc (c : Str) : mark (excKey c) = true := by
  unfold mark
  rw [excKey_0]
  simp
theorem exc_ne (c : Str) : excKey c ≠ "math.gcd" := fun h => by
  have h2 : some 33 = ("math.gcd" : Str).cps[0]? := (excKey_0 c).symm.trans (congrArg (fun s : Str => s.cps[0]?) h)
  exact absurd h2 (by decide +kernel)
theorem lookup_mem' {α β : Type} [BEq α] [LawfulBEq α] : ∀ {l : List (α × β)} {a : α} {b : β}, l.lookup a = some b → (a, b) ∈ l
  | [], _, _, h => by cases h
  | (x, y) :: r, a, b, h => by
    rw [List.lookup_cons] at h
    split at h
    · rename_i e
      cases h
      rw [eq_of_beq e]
      exact List.mem_cons_self
    · exact List.mem_cons_of_mem _ (lookup_mem' h)
theorem modOk {P : Program} {w : World} {K : PySem.W.Frag} {mg : Str → Option Value} {base : Heap} {p : PD} (KB : K.In base) (GB : base.Ns mainGlobals mg) (hfa : ∀ f ∈ p.fa, f.ok K = true) (hfn : ∀ d ∈ p.fn, ∃ fd, FunD K d.name d.qual d.params d.body d.scope (d.dvs K) (d.kws K) (He.fAd K d.at_) fd)
    (hex : p.ex K = true) (hok : p.ok = true) (hd : ∀ d ∈ p.defs, d.Fits) : ModOk P w K mg base (p.cl K) p.prg p.defs := by
  unfold PD.ok at hok
  simp only [Bool.and_eq_true] at hok
  obtain ⟨⟨ok1, ok2⟩, ok3⟩ := hok
  unfold PD.ex at hex
  rw [Bool.and_eq_true] at hex
  have inFa : ∀ {f}, f ∈ p.defs.map (fun d => He.Fa.glo d.name) ∨ f ∈ blts.map He.Fa.free ∨ f ∈ p.cls.map (fun c => He.Fa.glo c.1) ∨ f ∈ (p.cls.filter (·.2)).map (fun c => He.Fa.exc c.1) ∨ f ∈ (p.cls.flatMap fun x => p.cls.map fun y => He.Fa.exm x.1 y.1 (p.isSub x.1 y.1)) → f.ok K = true := fun {f} h => hfa f (by
    unfold PD.fa
    simp only [List.mem_append]
    rcases h with h | h | h | h | h <;> simp [h])
  have clm : ∀ {c a}, p.cl K c = some a → (∃ b, (c, b) ∈ p.cls) ∧ a = He.ga K c := fun {c a} h => by
    unfold PD.cl at h
    split at h
    · rename_i hc
      cases h
      have hc : c ∈ p.cls.map (·.1) := by simpa using hc
      obtain ⟨q, hq, rfl⟩ := List.mem_map.mp hc
      exact ⟨⟨q.2, hq⟩, rfl⟩
    · cases h
  have clI : ∀ {c b}, (c, b) ∈ p.cls → p.cl K c = some (He.ga K c) := fun {c b} h => by
    unfold PD.cl
    rw [if_pos (by simp only [List.contains_eq_mem, decide_eq_true_eq]; exact List.mem_map.mpr ⟨(c, b), h, rfl⟩)]
  have glm : ∀ {x d}, p.prg.G x = some d → (x, d) ∈ p.consts ∨ (x = "math.gcd" ∧ p.gcd = true) ∨ ∃ c b, (c, b) ∈ p.cls ∧ x = excKey c ∧ d = .bl b := fun {x d} h => by
    have h := lookup_mem' (show p.gl.lookup x = some d from h)
    unfold PD.gl at h
    rw [List.mem_append, List.mem_append] at h
    rcases h with (h | h) | h
    · exact .inl h
    · split at h
      · rename_i hg
        simp only [List.mem_singleton, Prod.mk.injEq] at h
        exact .inr (.inl ⟨h.1, hg⟩)
      · cases h
    · obtain ⟨c, hc, e⟩ := List.mem_map.mp h
      cases e
      exact .inr (.inr ⟨c.1, c.2, hc, rfl, rfl⟩)
  have noF : ∀ {c b f}, (c, b) ∈ p.cls → fldOk c f = true → False := fun {c b f} hc hf => by
    have h1 := List.all_eq_true.mp ok3 _ hc
    unfold fldOk at hf
    cases hl : fldTab.lookup c with
    | none => rw [hl] at hf; cases hf
    | some l =>
      have := List.all_eq_true.mp h1 _ (lookup_mem' hl)
      simp at this
  have exG : ∀ {c d}, p.prg.G (excKey c) = some d → ∃ b, (c, b) ∈ p.cls ∧ d = .bl b := fun {c d} h => by
    rcases glm h with h | ⟨h, _⟩ | ⟨c', b, hc, e, rfl⟩
    · have := List.all_eq_true.mp ok2 _ h
      rw [mark_exc] at this
      cases this
    · exact absurd h (exc_ne c)
    · cases excKey_inj e
      exact ⟨b, hc, rfl⟩
  refine ⟨fun x d h hm => ?_, fun x hx => ?_, fun c a f h hf => ?_, fun c a f h hf => ?_, fun h => ?_, fun c b h => ?_, fun c d h => ?_, fun x c a b hx hc => ?_, fun f fd h => ?_, fun d h => ?_, fun d h => (hd d h).sc, fun d h => List.all_eq_true.mp ok1 d h⟩
  · rcases glm h with h | ⟨rfl, _⟩ | ⟨c, b, _, rfl, _⟩
    · have h1 := List.all_eq_true.mp hex.1 _ h
      cases hn : PySem.W.nsIn K mainGlobals x with
      | none => dsimp only at h1; rw [hn] at h1; cases h1
      | some o =>
        dsimp only at h1
        rw [hn] at h1
        cases o with
        | none => cases h1
        | some u =>
          obtain ⟨v, r, t⟩ := conD_ok (cl := p.cl K) d u h1
          exact ⟨u, v, PySem.W.mg_of KB GB hn, r, t⟩
    · exact absurd hm (by decide +kernel)
    · rw [mark_exc] at hm; cases hm
  · exact He.free_ok KB GB (inFa (f := .free x) (.inr (.inl (List.mem_map.mpr ⟨x, hx, rfl⟩))))
  · obtain ⟨⟨b, hc⟩, _⟩ := clm h
    exact (noF hc hf).elim
  · obtain ⟨⟨b, hc⟩, _⟩ := clm h
    exact (noF hc hf).elim
  · have hg : p.gcd = true := by
      obtain ⟨d, hd⟩ := Option.isSome_iff_exists.mp h
      rcases glm hd with h | ⟨_, h⟩ | ⟨c, b, _, e, _⟩
      · have := List.all_eq_true.mp ok2 _ h
        exact absurd this (by show ¬ (!mark "math.gcd") = true; decide +kernel)
      · exact h
      · exact absurd e.symm (exc_ne c)
    have h2 := hex.2
    rw [hg] at h2
    cases hn : PySem.W.nsIn K mainGlobals "gcd" with
    | none => rw [hn] at h2; cases h2
    | some o =>
      rw [hn] at h2
      cases o with
      | none => cases h2
      | some u =>
        cases u <;> first | (cases h2; done) | skip
        rename_i s
        have : s = "math.gcd" := eq_of_beq (show (s == "math.gcd") = true from h2)
        subst this
        exact PySem.W.mg_of KB GB hn
  · obtain ⟨b', hc, e⟩ := exG h
    cases e
    refine ⟨He.ga K c, clI hc, He.glo_ok KB GB (inFa (f := .glo c) (.inr (.inr (.inl (List.mem_map.mpr ⟨(c, b), hc, rfl⟩))))), fun hb => ?_⟩
    subst hb
    exact He.exc_ok (inFa (f := .exc c) (.inr (.inr (.inr (.inl (List.mem_map.mpr ⟨(c, true), List.mem_filter.mpr ⟨hc, rfl⟩, rfl⟩))))))
  · obtain ⟨b, _, e⟩ := exG h
    exact ⟨b, e⟩
  · obtain ⟨⟨b1, h1⟩, rfl⟩ := clm hx
    obtain ⟨⟨b2, h2⟩, rfl⟩ := clm hc
    exact He.exm_ok (inFa (f := .exm x c (p.isSub x c)) (.inr (.inr (.inr (.inr (List.mem_flatMap.mpr ⟨(x, b1), h1, List.mem_map.mpr ⟨(c, b2), h2, rfl⟩⟩))))))
  · have h : (p.defs.find? fun d => d.name == f).map (·.fd) = some fd := h
    obtain ⟨d, hd', rfl⟩ := Option.map_eq_some_iff.mp h
    have := List.find?_some hd'
    exact ⟨d, List.mem_of_find?_eq_some hd', eq_of_beq this, rfl⟩
  · obtain ⟨fd, F⟩ := hfn d.d (List.mem_map.mpr ⟨d, h, rfl⟩)
    exact ⟨_, fd, He.glo_ok KB GB (inFa (f := .glo d.name) (.inl (List.mem_map.mpr ⟨d, h, rfl⟩))), FunD.bindsN F (hd d h).bd, F⟩
end Ev

/-! Ev, part End: the law's end. -/
namespace Ev
open PySem PySem.Spec PyProof.Rows L2
theorem Ts.ints {K : PySem.W.Frag} {cl : Str → Option Addr} {w : Hs} : ∀ ns : List Int, Ts K cl w (ns.map D.int) (ns.map V.int) 0
  | [] => by show Ts K cl w [] [] 0; unfold Ts; exact ⟨rfl, rfl⟩
  | n :: r => by
    show Ts K cl w (.int n :: r.map D.int) (.int n :: r.map V.int) 0
    unfold Ts
    exact ⟨.int n, _, 0, 0, rfl, T.int, Ts.ints r, (add0 _).symm⟩
/-- the law's promise, from the evaluator's answer -/
theorem sp_law {K : PySem.W.Frag} {cl : Str → Option Addr} {F : List D → CO} {H : Hp} {a : Addr} {ns : List Int} {ds' : List D} (hs : SqL K H a (ns.map V.int)) (h : F [.lst .frz (ns.map D.int)] = .ok (.bl true) ds') :
    spEv cl K F [.ref a] H (fun v _ => v = .bl true) fun _ _ _ => False := by
  refine ⟨⟨H, H, H⟩, 0, [.lst .frz (ns.map D.int)], rfl, ⟨.refl _, .refl _, fun b x => Nat.zero_le _, fun b p => ?_, fun b p => ?_⟩, ?_, ?_⟩
  · rw [zero_at] at p; omega
  · rw [zero_at] at p; omega
  · refine Ts.one ?_
    unfold T
    exact ⟨a, _, 0, rfl, hs, Ts.ints ns, rfl⟩
  · rw [h]
    intro w' A' B v _ _ t _
    exact t.bl1
/-- F of walk_ofE -/
theorem law_F {P : Program} {w : World} {h : Heap} {mg : Str → Option Value} {fa : Addr} {p : PD} {k : Nat} {n : Nat} {d : DefI} {x : Str} {K : PySem.W.Frag} {F : List D → CO} (KX : K.In h) (G : h.Ns mainGlobals mg) (hmg : mg d.name = some (.ref fa)) (c : He.SaysX p.fa p.fn [] [] p.ex w h K)
    (hok : p.ok = true) (hd : ∀ e ∈ p.defs, e.Fits) (hl : callN p.prg k d.name = some F) (hdl : ∀ e ∈ p.defs, e.name = d.name → e = d) (hx : d.ps = [x]) (hlaw : ∀ ns : List Int, ns.length ≤ n → ∃ ds', F [.lst .frz (ns.map D.int)] = .ok (.bl true) ds') :
    ∃ (K : PySem.W.Frag) (fd : FuncData) (sp : Sp), K.In h ∧ (∀ (s : Shared) (u : Value), BindsTo s fd ⟨[u], []⟩ [(x, u)]) ∧
        (∀ (H : Hp) (a : Addr) (ns : List Int), ns.length ≤ n → Only H → SqL K H a (ns.map V.int) → sp [.ref a] H (fun v _ => v = .bl true) fun _ _ _ => False) ∧
        ∀ base : Heap, K.In base → base.Ns mainGlobals mg → FnOk P w K mg base (L2.CX P w) k fa fd [x] sp := by
  have mk : ∀ base : Heap, K.In base → base.Ns mainGlobals mg → ModOk P w K mg base (p.cl K) p.prg p.defs := fun base KB GB =>
    modOk KB GB (fun f hf => He.SaysD.facts c.t.d hf) (fun e he => He.SaysD.defs c.t.d he) c.more hok hd
  -- the function object does not lean on the base
  obtain ⟨e, he, a, fdt, hn, hm, _, _, FD, _⟩ := fn_all (mk h KX G) k d.name F hl
  have : e = d := hdl e he hn
  subst this
  have hm2 := hmg.symm.trans hm
  cases hm2
  refine ⟨K, fdt, spEv (p.cl K) K F, KX, fun s u => ?_, fun H a ns hl _ hs => ?_, fun base KB GB => ?_⟩
  · have := FunD.bindsA (ps := e.ps) FD (hd e he).bd s [u] (by rw [hx]; rfl)
    rw [hx] at this
    exact this
  · obtain ⟨ds', h1⟩ := hlaw ns hl
    exact sp_law hs h1
  · obtain ⟨e2, he2, a2, fdt2, hn2, hm3, _, _, FD2, fo⟩ := fn_all (mk base KB GB) k e.name F hl
    have : e2 = e := hdl e2 he2 hn2
    subst this
    have h3 := hm.symm.trans hm3
    cases h3
    have efd : fdt2 = fdt := by
      obtain ⟨_, _, _, _, _, _, _, _, _, _, _, l1, _⟩ := FD.ex
      obtain ⟨_, _, _, _, _, _, _, _, _, _, _, l2, _⟩ := FD2.ex
      rw [l1] at l2
      simp only [Option.some.injEq, Obj.mk.injEq, Data.func.injEq] at l2
      exact l2.2.2.1.symm
    subst efd
    rw [hx] at fo
    exact fo
/-- walk_ofE for what may be let out by the world -/
theorem walk_ofEw {l : PySem.W.OpenLaw} {n k : Nat} {q : Program} {loose : List Str} {XP : (Str → Option Value) → Heap → Prop} {YP : World → Heap → Prop} {d : DefRec} {CX : World → CXT} {x : Str}
    (hn : l.most = some n) (hn2 : n ≤ sizeLine) (hdf : d.params.defaults = []) (hr : Room k callerA)
    (F : ∀ (w : World) (mg : Str → Option Value) (fa : Addr) (h : Heap), YP w h → h.Ns mainGlobals mg → mg d.name = some (.ref fa) →
      ∃ (K : PySem.W.Frag) (fd : FuncData) (sp : Sp), K.In h ∧ (∀ (s : Shared) (u : Value), BindsTo s fd ⟨[u], []⟩ [(x, u)]) ∧
        (∀ (H : Hp) (a : Addr) (ns : List Int), ns.length ≤ n → Only H → SqL K H a (ns.map V.int) → sp [.ref a] H (fun v _ => v = .bl true) fun _ _ _ => False) ∧
        ∀ base : Heap, K.In base → base.Ns mainGlobals mg → FnOk l.prog w K mg base (CX w) k fa fd [x] sp)
    (hCX : ∀ (w : World) (H : Hp) (s : Shared) (e : Value) (s' : Shared), CX w [] H s (fun _ _ _ => False) e s' → False) :
    PySem.W.WalkO q loose XP YP l.row.toRowW d [] (fun f vs => PySem.call f vs) := by
  refine Att.attach_call hn hdf fun w s₀ s₁ mg mb fa o pm cd doc a vs ns G Y ho hd hcd hmg hobj hints hlen hg => ?_
  obtain ⟨K, fd, sp, KX, hb, hsp, hF⟩ := F w mg fa _ Y G.T.g hmg
  exact law_call KX G.T.g G.T.b G.T.builtins G.T.nolimit hg hobj hints (Nat.le_trans hlen hn2) hr hF hb (fun H hO hS => hsp H a ns hlen hO hS) fun H e s' => hCX w H s₁ e s'
theorem noCX {P : Program} (w : World) (H : Hp) (s : Shared) (e : Value) (s' : Shared) (h : L2.CX P w [] H s (fun _ _ _ => False) e s') : False := by
  obtain ⟨_, _, _, _, _, _, _, _, _, _, _, _, z⟩ := h
  exact z
end Ev

/-! LibA: tools for the plain laws. -/
namespace Ev
open PySem PySem.Spec PyProof.Rows L2
class Has (P : Prg) (f : Str) (fd : outParam Fd) : Prop where h : P.fns f = some fd
class HasG (P : Prg) (f : Str) (d : outParam D) : Prop where h : P.G f = some d
def run (P : Prg) (n : Nat) (fd : Fd) (ds : List D) : CO := callF (callN P n) P.G P.isSub nWhile fd ds
theorem callN_has {P n f fd} [i : Has P f fd] : callN P (n+1) f = some (run P n fd) := by
  simp only [callN, i.h, Option.map_some]; rfl
theorem G_has {P : Prg} {x d} [i : HasG P x d] : P.G x = some d := i.h
abbrev fr (p : Int × Int) : D := .tup [.int p.1, .int p.2]
/-- data that are held by nobody -/
def AllF {α : Type} (enc : α → D) : Prop := ∀ a, isFrz (enc a) = true
theorem allF_int : AllF D.int := fun _ => rfl
theorem allF_fr : AllF fr := fun _ => rfl
theorem frzL_map {α : Type} {enc : α → D} (h : AllF enc) : ∀ xs : List α, frzL (xs.map enc) = true
  | [] => rfl
  | a :: r => by simp [frzL, h a, frzL_map h r]
@[simp] theorem frzL_int (xs : List Int) : frzL (xs.map D.int) = true := frzL_map allF_int xs
@[simp] theorem frzL_fr (xs : List (Int × Int)) : frzL (xs.map fr) = true := frzL_map allF_fr xs
theorem frzL_app : ∀ a b : List D, frzL (a ++ b) = (frzL a && frzL b)
  | [], b => by simp [frzL]
  | x :: r, b => by simp [frzL, frzL_app r b, Bool.and_assoc]
mutual
theorem frz_can : ∀ d : D, isFrz d = true → canFrz d = true ∧ freeze d = d
  | .tup xs, h => by simp [isFrz] at h; have := frz_canL xs h; simp [canFrz, freeze, this]
  | .lst o xs, h => by simp [isFrz] at h; have := frz_canL xs h.2; simp [canFrz, freeze, this, h.1]
  | .dct o xs, h => by simp [isFrz] at h; have := frz_canP xs h.2; simp [canFrz, freeze, this, h.1]
  | .ins o c xs, h => by simp [isFrz] at h; have := frz_canF xs h.2; simp [canFrz, freeze, this, h.1]
  | .non, _ => by simp [canFrz, freeze]
  | .bl _, _ => by simp [canFrz, freeze]
  | .int _, _ => by simp [canFrz, freeze]
  | .str _, _ => by simp [canFrz, freeze]
theorem frz_canL : ∀ d : List D, frzL d = true → canL d = true ∧ freezeL d = d
  | [], _ => by simp [canL, freezeL]
  | d :: r, h => by simp [frzL] at h; simp [canL, freezeL, frz_can d h.1, frz_canL r h.2]
theorem frz_canP : ∀ d : List (DK × D), frzP d = true → canP d = true ∧ freezeP d = d
  | [], _ => by simp [canP, freezeP]
  | (k, d) :: r, h => by simp [frzP] at h; simp [canP, freezeP, frz_can d h.1, frz_canP r h.2]
theorem frz_canF : ∀ d : List (Str × D), frzF d = true → canF d = true ∧ freezeF d = d
  | [], _ => by simp [canF, freezeF]
  | (k, d) :: r, h => by simp [frzF] at h; simp [canF, freezeF, frz_can d h.1, frz_canF r h.2]
end
theorem canL_of {xs : List D} (h : frzL xs = true) : canL xs = true := (frz_canL xs h).1
theorem freezeL_of {xs : List D} (h : frzL xs = true) : freezeL xs = xs := (frz_canL xs h).2
@[simp] theorem canL_int (xs : List Int) : canL (xs.map D.int) = true := canL_of (frzL_int xs)
@[simp] theorem canL_fr (xs : List (Int × Int)) : canL (xs.map fr) = true := canL_of (frzL_fr xs)
@[simp] theorem freezeL_int (xs : List Int) : freezeL (xs.map D.int) = xs.map D.int := freezeL_of (frzL_int xs)
@[simp] theorem freezeL_fr (xs : List (Int × Int)) : freezeL (xs.map fr) = xs.map fr := freezeL_of (frzL_fr xs)

/-! ### loops -/
theorem forL_nx {step : D → Env → Fl} {d : D} {r : List D} {ρ ρ1 : Env} (h : step d ρ = .nx ρ1) : forL step (d :: r) ρ = forL step r ρ1 := by
  simp only [forL, h]
theorem forL_map {σ α : Type} {step : D → Env → Fl} {enc : σ → Env} {f : σ → α → σ} {dec : α → D} (I : σ → Prop) :
    ∀ (xs : List α) (s : σ), I s → (∀ s x, x ∈ xs → I s → step (dec x) (enc s) = .nx (enc (f s x)) ∧ I (f s x)) →
      forL step (xs.map dec) (enc s) = .nx (enc (xs.foldl f s)) ∧ I (xs.foldl f s)
  | [], s, h, _ => ⟨rfl, h⟩
  | x :: r, s, h, hs => by
    have h1 := hs s x (List.mem_cons_self ..) h
    simp only [List.map_cons, forL, h1.1, List.foldl_cons]
    exact forL_map I r _ h1.2 fun s y hy i => hs s y (List.mem_cons_of_mem _ hy) i
/-- a loop with an invariant that knows what is behind it -/
theorem forL_inv {α : Type} {step : D → Env → Fl} {dec : α → D} (I : List α → Env → Prop) :
    ∀ (xs : List α) (pre : List α) (ρ : Env), I pre ρ → (∀ pre x post ρ, pre ++ x :: post = xs → I pre ρ → ∃ ρ', step (dec x) ρ = .nx ρ' ∧ I (pre ++ [x]) ρ') → pre = [] →
      ∃ ρ', forL step (xs.map dec) ρ = .nx ρ' ∧ I xs ρ' := by
  intro xs
  have main : ∀ (post pre : List α) (ρ : Env), pre ++ post = xs → I pre ρ → (∀ pre x post ρ, pre ++ x :: post = xs → I pre ρ → ∃ ρ', step (dec x) ρ = .nx ρ' ∧ I (pre ++ [x]) ρ') →
      ∃ ρ', forL step (post.map dec) ρ = .nx ρ' ∧ I xs ρ' := by
    intro post
    induction post with
    | nil => intro pre ρ e i _; refine ⟨ρ, rfl, ?_⟩; rw [← e, List.append_nil]; exact i
    | cons x r ih =>
      intro pre ρ e i hs
      obtain ⟨ρ1, e1, i1⟩ := hs pre x r ρ e i
      obtain ⟨ρ2, e2, i2⟩ := ih (pre ++ [x]) ρ1 (by rw [List.append_assoc]; exact e) i1 hs
      exact ⟨ρ2, by simp only [List.map_cons, forL, e1]; exact e2, i2⟩
  intro pre ρ i hs hp
  subst hp
  exact main xs [] ρ rfl i hs
theorem whL_t {c : Env → Out Bool} {b : Env → Fl} {n : Nat} {ρ ρ1 ρ2 : Env} (h1 : c ρ = .ok true ρ1) (h2 : b ρ1 = .nx ρ2) : whL c b (n + 1) ρ = whL c b n ρ2 := by
  rw [whL, h1]; simp only [h2]
theorem whL_f {c : Env → Out Bool} {b : Env → Fl} {n : Nat} {ρ ρ1 : Env} (h1 : c ρ = .ok false ρ1) : whL c b (n + 1) ρ = .nx ρ1 := by
  rw [whL, h1]
/-- a while loop, by a measure -/
theorem whL_inv {c : Env → Out Bool} {b : Env → Fl} (I : Env → Prop) (μ : Env → Nat) (Q : Env → Prop)
    (hs : ∀ ρ, I ρ → (∃ ρ1, c ρ = .ok false ρ1 ∧ Q ρ1) ∨ (∃ ρ1 ρ2, c ρ = .ok true ρ1 ∧ b ρ1 = .nx ρ2 ∧ I ρ2 ∧ μ ρ2 < μ ρ)) :
    ∀ (n : Nat) (ρ : Env), I ρ → μ ρ < n → ∃ ρ', whL c b n ρ = .nx ρ' ∧ Q ρ'
  | 0, ρ, _, h => by omega
  | n + 1, ρ, i, h => by
    rcases hs ρ i with ⟨ρ1, e1, q⟩ | ⟨ρ1, ρ2, e1, e2, i2, lt⟩
    · exact ⟨ρ1, by simp only [whL, e1], q⟩
    · obtain ⟨ρ', e3, q⟩ := whL_inv I μ Q hs n ρ2 i2 (by omega)
      exact ⟨ρ', by simp only [whL, e1, e2]; exact e3, q⟩
theorem compL_map {σ α β : Type} {bnd : D → Env → Option Env} {tst : Env → Out Bool} {elt : Env → Out D} {wp : Env → Env} {dec : α → D} {out : β → D} {p : α → Bool} {g : α → β} (ρ0 : Env) (hw : wp ρ0 = ρ0)
    (h : ∀ x, ∃ ρ1, bnd (dec x) ρ0 = some ρ1 ∧ wp ρ1 = ρ0 ∧ tst ρ1 = .ok (p x) ρ1 ∧ (p x = true → elt ρ1 = .ok (out (g x)) ρ1)) :
    ∀ (xs : List α) (ρ : Env), wp ρ = ρ0 → ∃ ρ', wp ρ' = ρ0 ∧ compL bnd tst elt wp (xs.map dec) ρ = .ok (((xs.filter p).map g).map out) ρ' := by
  intro xs
  induction xs with
  | nil => intro ρ e; exact ⟨ρ, e, rfl⟩
  | cons x r ih =>
    intro ρ e
    obtain ⟨ρ1, e1, e2, e3, e4⟩ := h x
    obtain ⟨ρ', e5, e6⟩ := ih ρ1 e2
    refine ⟨ρ', e5, ?_⟩
    simp only [List.map_cons, compL, e, e1, e3, Out.bind]
    cases hp : p x with
    | false => simp only [Bool.false_eq_true, if_false]; rw [e6]; simp [hp]
    | true => simp only [if_true, e4 hp, e6, Out.bind]; simp [hp]

/-! ### the script's tape -/
def tp (o : Ow) (xs : List Int) (k c : Int) : D := .lst .own [.lst o (xs.map D.int), .int k, .int c]
def Tape (d : D) : Prop := ∃ o xs k c, o ≠ .lent ∧ 0 ≤ k ∧ 0 ≤ c ∧ d = tp o xs k c
theorem Tape.nf {d : D} (h : Tape d) : isFrz d = false := by
  obtain ⟨o, xs, k, c, _, _, _, rfl⟩ := h
  simp [tp, isFrz]
theorem Tape.lst {d : D} (h : Tape d) : isLst d = true := by
  obtain ⟨o, xs, k, c, _, _, _, rfl⟩ := h
  rfl
theorem log2_lt {j : Int} {n : Nat} (h0 : 0 < n) (h : j.natAbs < 2 ^ n) : j.natAbs.log2 < n := PySem.Flt.log2_lt_of h0 h
theorem divOk_of {j : Int} (h0 : 0 < j) (h : j < 2 ^ 8000) : divOk j := ⟨h0, Nat.lt_trans (log2_lt (n := 8000) (by decide) (by
  have : (j.natAbs : Int) = j := by omega
  have h2 : ((2 : Int) ^ 8000) = ((2 ^ 8000 : Nat) : Int) := by rw [Int.natCast_pow]; rfl
  omega)) (by decide)⟩
theorem mulOk_l {i j : Int} (h : i.natAbs < 2 ^ 63) : mulOk i j := .inl h
theorem mulOk_r {i j : Int} (h : j.natAbs < 2 ^ 63) : mulOk i j := .inr (.inl h)
theorem mulOk_b {i j : Int} {a b : Nat} (ha : i.natAbs < 2 ^ a) (hb : j.natAbs < 2 ^ b) (h0 : 0 < a) (h1 : 0 < b) (h : a + b ≤ 1000000) : mulOk i j := by
  have x := log2_lt h0 ha
  have y := log2_lt h1 hb
  exact .inr (.inr (by omega))
end Ev

/-! LibB: the evaluator's steps as rewriting rules (no step is taken ahead of its turn). -/
namespace Ev
open PySem PySem.Spec PyProof.Rows L2
section
variable {α β : Type} {a : α} {ρ : Env} {x : Ex} {d : D} {p : Pl} {q : Option Pl} {f : α → Env → Out β} {g : α → Env → Fl}
theorem bind_ok : (Out.ok a ρ).bind f = f a ρ := Eq.trans rfl rfl
theorem bind_exc : (Out.exc x ρ : Out α).bind f = .exc x ρ := Eq.trans rfl rfl
theorem fl_ok : (Out.ok a ρ).fl g = g a ρ := Eq.trans rfl rfl
theorem fl_exc : (Out.exc x ρ : Out α).fl g = .exc x ρ := Eq.trans rfl rfl
theorem use_none : use (.ok (d, none) ρ) = .ok d ρ := Eq.trans rfl rfl
theorem use_some : use (.ok (d, some p) ρ) = if isFrz d then .ok d ρ else .bad := Eq.trans rfl rfl
theorem use_exc : use (.exc x ρ) = .exc x ρ := Eq.trans rfl rfl
theorem tmp_ok : tmp (.ok d ρ) = .ok (d, none) ρ := Eq.trans rfl rfl
theorem tru_ok : tru (.ok (d, q) ρ) = liftO (trD d) ρ := Eq.trans rfl rfl
theorem tru_exc : tru (.exc x ρ) = .exc x ρ := Eq.trans rfl rfl
theorem liftO_some : liftO (some a) ρ = .ok a ρ := Eq.trans rfl rfl
theorem slot_0 {e : Option D} {r : Env} : slot (e :: r) 0 = e := Eq.trans rfl rfl
theorem slot_s {e : Option D} {r : Env} {i : Nat} : slot (e :: r) (i + 1) = slot r i := Eq.trans rfl rfl
end
section
variable (C : CT) (G : Str → Option D)
abbrev OO := Out (D × Option Pl)
abbrev DP := D × Option Pl
def k_v (i : Nat) : Option D → Env → OO | some d, ρ => .ok (d, some (.var i)) ρ | none, _ => .bad
def k_fz : DP → Env → OO := fun (d, pl) ρ1 => match pl with
    | none => .ok (d, none) ρ1
    | some pp => if isFrz d then .ok (d, none) ρ1 else if canFrz d then .ok (freeze d, none) (setE ρ1 pp (freeze d)) else .bad
def k_mv (i : Nat) : Option D → Env → OO | some d, ρ => if canFrz d then .ok (d, none) (ρ.set i none) else .bad | none, _ => .bad
def k_g : Option D → Env → OO | some d, ρ => .ok (d, none) ρ | none, _ => .bad
def stpO : Option Pl → Option Stp → Bool → Option Pl | some pp, some ss, true => some (.stp pp ss) | _, _, _ => none
def k_ix3 (p : Option Pl) (q : Bool) (ρ2 : Env) : Option (D × Option Stp) → OO | some (y, s) => .ok (y, stpO p s q) ρ2 | none => .bad
def k_ix2 (d : D) (p : Option Pl) (q : Bool) : D → Env → OO := fun k ρ2 => k_ix3 p q ρ2 (ixD d k)
def k_ix (i : E) : DP → Env → OO := fun (d, p) ρ1 => if calmP d p i then (use (ev C G i ρ1)).bind (k_ix2 d p (qt i)) else .bad
def k_fld2 (p : Option Pl) (f : Str) (ρ1 : Env) : Option D → OO | some y => .ok (y, p.map fun pp => .stp pp (.f f)) ρ1 | none => .bad
def k_fld (f : Str) : DP → Env → OO := fun (d, p) ρ1 => match d with
    | .ins _ c fs => if fldOk c f then k_fld2 p f ρ1 (aget fs f) else .bad
    | _ => .bad
def k_sl3 (d : D) (lo' : Option Int) : D → Env → OO := fun h ρ3 => match partD h with
        | some hi' => tmp (liftO (slD d lo' hi') ρ3)
        | none => .bad
def k_sl2 (d : D) (hi : E) : D → Env → OO := fun l ρ2 => match partD l with
      | some lo' => (use (ev C G hi ρ2)).bind (k_sl3 d lo')
      | none => .bad
def k_sl (lo hi : E) : DP → Env → OO := fun (d, p) ρ1 => if calmP d p lo && calmP d p hi then (use (ev C G lo ρ1)).bind (k_sl2 C G d hi) else .bad
def k_bin2 (op : B2) (d : D) : DP → Env → OO := fun (e, _) ρ2 => tmp (liftO (binD op d e) ρ2)
def k_bin (op : B2) (b : E) : DP → Env → OO := fun (d, p) ρ1 => if calmP d p b then (ev C G b ρ1).bind (k_bin2 op d) else .bad
def k_neg : DP → Env → OO := fun (d, _) ρ1 => match d with
    | .int i => .ok (.int (-i), none) ρ1
    | _ => .bad
def bO (ρ : Env) : Option Bool → OO | some b => .ok (.bl b, none) ρ | none => .bad
def k_not : DP → Env → OO := fun (d, _) ρ1 => bO ρ1 ((trD d).map not)
def k_cmp2 (op : C2) (d : D) : DP → Env → OO := fun (e, _) ρ2 => bO ρ2 (cmpD op d e)
def k_cmp (op : C2) (b : E) : DP → Env → OO := fun (d, p) ρ1 => if calmP d p b then (ev C G b ρ1).bind (k_cmp2 op d) else .bad
def k_ch4 (op' : C2) (e : D) : D → Env → OO := fun f ρ3 => bO ρ3 (cmpD op' e f)
def k_ch3 (op' : C2) (e : D) (c : E) (ρ2 : Env) : Option Bool → OO
    | some t => if t then (use (ev C G c ρ2)).bind (k_ch4 op' e) else .ok (.bl false, none) ρ2
    | none => .bad
def k_ch2 (op op' : C2) (d : D) (c : E) : D → Env → OO := fun e ρ2 => k_ch3 C G op' e c ρ2 (cmpD op d e)
def k_ch (op op' : C2) (b c : E) : D → Env → OO := fun d ρ1 => (use (ev C G b ρ1)).bind (k_ch2 C G op op' d c)
def k_and2 (b : E) (d : D) (p : Option Pl) (ρ1 : Env) : Option Bool → OO
    | some t => if t then ev C G b ρ1 else .ok (d, p) ρ1
    | none => .bad
def k_and (b : E) : DP → Env → OO := fun (d, p) ρ1 => k_and2 C G b d p ρ1 (trD d)
def k_or2 (b : E) (d : D) (p : Option Pl) (ρ1 : Env) : Option Bool → OO
    | some t => if t then .ok (d, p) ρ1 else ev C G b ρ1
    | none => .bad
def k_or (b : E) : DP → Env → OO := fun (d, p) ρ1 => k_or2 C G b d p ρ1 (trD d)
def k_ite2 (a b : E) (ρ1 : Env) : Option Bool → OO
    | some t => if t then ev C G a ρ1 else ev C G b ρ1
    | none => .bad
def k_ite (a b : E) : DP → Env → OO := fun (d, _) ρ1 => k_ite2 C G a b ρ1 (trD d)
def k_tup : List D → Env → OO := fun ds ρ1 => if ds.length ≤ sizeLine then .ok (.tup ds, none) ρ1 else .bad
def k_lst : List D → Env → OO := fun ds ρ1 => if ds.length ≤ sizeLine then .ok (.lst .own ds, none) ρ1 else .bad
def k_ret (avs : List Av) (ρ1 : Env) : CO → OO
        | .ok d ds' => .ok (d, none) (giveA avs ds' ρ1)
        | .exc x ds' => .exc x (giveA avs ds' ρ1)
        | .bad => .bad
def k_call2 (F : List D → CO) (avs : List Av) (ρ1 : Env) : Option (List D) → OO
      | some ds => if avOk avs then k_ret avs ρ1 (F ds) else .bad
      | none => .bad
def k_call3 (F : List D → CO) : List Av → Env → OO := fun avs ρ1 => k_call2 F avs ρ1 (avDs ρ1 avs)
def k_call (as : E) (ρ : Env) : Option (List D → CO) → OO
    | some F => (eva C G as ρ).bind (k_call3 F)
    | none => .bad
def k_b1 (f : F1) : DP → Env → OO := fun (d, _) ρ1 => tmp (liftO (b1D f d) ρ1)
def k_b22 (f : F2) (d : D) : D → Env → OO := fun e ρ2 => tmp (liftO (b2D f d e) ρ2)
def k_b2 (f : F2) (b : E) : D → Env → OO := fun d ρ1 => (use (ev C G b ρ1)).bind (k_b22 f d)
def k_isi (ty : Str) : DP → Env → OO := fun (d, _) ρ1 => bO ρ1 (isiD ty d)
def k_mm3 (m : MM) (pp : Pl) (ds : List D) (ρ2 : Env) : Option D → OO
      | some (.lst .own xs) => (match mmD m xs ds with
        | some (xs', d) => .ok (d, none) (setE ρ2 pp (.lst .own xs'))
        | none => .bad)
      | _ => .bad
def k_mm2 (m : MM) (pp : Pl) : List D → Env → OO := fun ds ρ2 => k_mm3 m pp ds ρ2 (getE ρ2 pp)
def k_mm (m : MM) (as : E) : DP → Env → OO := fun (d, p) ρ1 => if isLst d then (match p with
    | some (.var i) => (evs C G as ρ1).bind (k_mm2 m (.var i))
    | some pp => if qt as then (evs C G as ρ1).bind (k_mm2 m pp) else .bad
    | none => .bad) else .bad
def cB (tg : E) : D → Env → Option Env := fun d ρ => bindT tg d ρ
def cT (cd : E) : Env → Out Bool := fun ρ => tru (ev C G cd ρ)
def cE (el : E) : Env → Out D := fun ρ => use (ev C G el ρ)
def cW (own : List Nat) : Env → Env := fun ρ => wipeE ρ own
def k_comp2 (own : List Nat) (ρ1 : Env) (l : List (Nat × D)) : List D → Env → OO := fun ys ρ2 =>
      if ys.length ≤ sizeLine then .ok (.lst .own ys, none) (unlend (backE ρ1 ρ2 own) l) else .bad
def k_comp (tg cd el : E) (own : List Nat) : Wk → Env → OO := fun w ρ1 => if !ownOk ρ1 own then .bad else
    (noExc (compL (cB tg) (cT C G cd) (cE C G el) (cW own) w.ds ρ1)).bind (k_comp2 own ρ1 w.lent)
def k_evs2 (d : D) : List D → Env → Out (List D) := fun ds ρ2 => .ok (d :: ds) ρ2
def k_evs (r : E) : D → Env → Out (List D) := fun d ρ1 => (evs C G r ρ1).bind (k_evs2 d)
def k_eva2 (a : Av) : List Av → Env → Out (List Av) := fun avs ρ2 => .ok (a :: avs) ρ2
def k_eva (r : E) : DP → Env → Out (List Av) := fun (d, p) ρ1 => match p with
    | none => (eva C G r ρ1).bind (k_eva2 (.val d))
    | some pp => if isFrz d then (eva C G r ρ1).bind (k_eva2 (.val d))
      else (match pp with
        | .var i => (eva C G r ρ1).bind (k_eva2 (.pl (.var i)))
        | pp => if qt r then (eva C G r ρ1).bind (k_eva2 (.pl pp)) else .bad)
def k_rng1 : D → Env → Out Wk := fun d ρ1 => match d with
    | .int j => if -(2 ^ 62) ≤ j ∧ j < 2 ^ 62 then .ok ⟨rangeI 0 1 j.toNat, []⟩ ρ1 else .bad
    | _ => .bad
def k_rng22 (d : D) : D → Env → Out Wk := fun e ρ2 => match d, e with
    | .int i, .int j => if -(2 ^ 62) ≤ i ∧ i < 2 ^ 62 ∧ -(2 ^ 62) ≤ j ∧ j < 2 ^ 62 then .ok ⟨rangeI i 1 (j - i).toNat, []⟩ ρ2 else .bad
    | _, _ => .bad
def k_rng2 (b : E) : D → Env → Out Wk := fun d ρ1 => (use (ev C G b ρ1)).bind (k_rng22 d)
def k_rng33 (d e : D) : D → Env → Out Wk := fun f ρ3 => match d, e, f with
    | .int i, .int j, .int k => if rgOk i j k = true then .ok ⟨rangeI i k (Builtin.Range.rangeSize i j k).toNat, []⟩ ρ3 else .bad
    | _, _, _ => .bad
def k_rng32 (d : D) (c : E) : D → Env → Out Wk := fun e ρ2 => (use (ev C G c ρ2)).bind (k_rng33 d e)
def k_rng3 (b c : E) : D → Env → Out Wk := fun d ρ1 => (use (ev C G b ρ1)).bind (k_rng32 C G d c)
def k_enm2 (d : D) : Wk → Env → Out Wk := fun w ρ2 => if isTupD d then .bad else .ok ⟨enumD w.ds, w.lent⟩ ρ2
def k_enm : DP → Env → Out Wk := fun (d, p) ρ1 => (walkD d p ρ1).bind (k_enm2 d)
def k_zip4 (d : D) (w : Wk) (e : D) : Wk → Env → Out Wk := fun w2 ρ4 => if isTupD d = isTupD e then .ok ⟨zipD w.ds w2.ds, w.lent ++ w2.lent⟩ ρ4 else .bad
def k_zip3 (d : D) (w : Wk) : DP → Env → Out Wk := fun (e, p2) ρ3 => (walkD e p2 ρ3).bind (k_zip4 d w e)
def k_zip2 (d : D) (b : E) : Wk → Env → Out Wk := fun w ρ2 => (ev C G b ρ2).bind (k_zip3 d w)
def k_zip (b : E) : DP → Env → Out Wk := fun (d, p) ρ1 => (walkD d p ρ1).bind (k_zip2 C G d b)
def k_seqw : DP → Env → Out Wk := fun (d, p) ρ1 => walkD d p ρ1
variable {C : CT} {G : Str → Option D} {ρ ρ' : Env} {d e : D} {p q : Option Pl}
theorem ev_v {i : Nat} : ev C G (.v i) ρ = k_v i (slot ρ i) ρ := by rw [ev]; cases slot ρ i <;> rfl
theorem ev_fz {a : E} : ev C G (.fz a) ρ = (ev C G a ρ).bind k_fz := by rw [ev]; rfl
theorem ev_mv {i : Nat} : ev C G (.mv i) ρ = k_mv i (slot ρ i) ρ := by rw [ev]; cases slot ρ i <;> rfl
theorem ev_g {x : Str} : ev C G (.g x) ρ = k_g (G x) ρ := by rw [ev]; cases G x <;> rfl
theorem ev_int {i : Int} : ev C G (.int i) ρ = .ok (.int i, none) ρ := by rw [ev]
theorem ev_str {i : Str} : ev C G (.str i) ρ = .ok (.str i, none) ρ := by rw [ev]
theorem ev_bl {i : Bool} : ev C G (.bl i) ρ = .ok (.bl i, none) ρ := by rw [ev]
theorem ev_non : ev C G .non ρ = .ok (.non, none) ρ := by rw [ev]
theorem ev_nop : ev C G .nop ρ = .ok (.non, none) ρ := by rw [ev]
theorem ev_ix {a i : E} : ev C G (.ix a i) ρ = (ev C G a ρ).bind (k_ix C G i) := by
  rw [ev]
  congr 1
  funext x ρ1
  obtain ⟨d, p⟩ := x
  simp only [k_ix]
  split
  · congr 1
    funext k ρ2
    simp only [k_ix2]
    cases ixD d k with
    | none => rfl
    | some y =>
      obtain ⟨y, s⟩ := y
      simp only [k_ix3]
      cases p <;> cases s <;> cases qt i <;> rfl
  · rfl
theorem ev_fld {a : E} {f : Str} : ev C G (.fld a f) ρ = (ev C G a ρ).bind (k_fld f) := by
  rw [ev]
  congr 1
theorem ev_sl {a lo hi : E} : ev C G (.sl a lo hi) ρ = (ev C G a ρ).bind (k_sl C G lo hi) := by rw [ev]; rfl
theorem ev_bin {op : B2} {a b : E} : ev C G (.bin op a b) ρ = (ev C G a ρ).bind (k_bin C G op b) := by rw [ev]; rfl
theorem ev_neg {a : E} : ev C G (.neg a) ρ = (ev C G a ρ).bind k_neg := by rw [ev]; rfl
theorem ev_not {a : E} : ev C G (.not a) ρ = (ev C G a ρ).bind k_not := by
  rw [ev]
  congr 1
  funext x ρ1
  obtain ⟨d, p⟩ := x
  simp only [k_not]
  cases trD d <;> rfl
theorem ev_cmp {op : C2} {a b : E} : ev C G (.cmp op a b) ρ = (ev C G a ρ).bind (k_cmp C G op b) := by
  rw [ev]
  congr 1
theorem ev_chain {op op' : C2} {a b c : E} : ev C G (.chain op op' a b c) ρ = (use (ev C G a ρ)).bind (k_ch C G op op' b c) := by
  rw [ev]
  congr 1
  funext d ρ1
  simp only [k_ch]
  congr 1
  funext e ρ2
  simp only [k_ch2]
  cases cmpD op d e with
  | none => rfl
  | some t =>
    cases t with
    | false => rfl
    | true =>
      simp only [k_ch3, if_true]
      congr 1
theorem ev_and {a b : E} : ev C G (.and a b) ρ = (ev C G a ρ).bind (k_and C G b) := by
  rw [ev]
  congr 1
  funext x ρ1
  obtain ⟨d, p⟩ := x
  simp only [k_and]
  cases trD d with | none => rfl | some t => cases t <;> rfl
theorem ev_or {a b : E} : ev C G (.or a b) ρ = (ev C G a ρ).bind (k_or C G b) := by
  rw [ev]
  congr 1
  funext x ρ1
  obtain ⟨d, p⟩ := x
  simp only [k_or]
  cases trD d with | none => rfl | some t => cases t <;> rfl
theorem ev_itE {c a b : E} : ev C G (.ite c a b) ρ = (ev C G c ρ).bind (k_ite C G a b) := by
  rw [ev]
  congr 1
  funext x ρ1
  obtain ⟨d, p⟩ := x
  simp only [k_ite]
  cases trD d with | none => rfl | some t => cases t <;> rfl
theorem ev_tup {es : E} : ev C G (.tup es) ρ = (evs C G es ρ).bind k_tup := by rw [ev]; rfl
theorem ev_lst {es : E} : ev C G (.lst es) ρ = (evs C G es ρ).bind k_lst := by rw [ev]; rfl
theorem ev_call {f : Str} {as : E} : ev C G (.call f as) ρ = k_call C G as ρ (C f) := by
  rw [ev]
  cases C f with
  | none => rfl
  | some F =>
    simp only [k_call]
    congr 1
theorem ev_b1 {f : F1} {a : E} : ev C G (.b1 f a) ρ = (ev C G a ρ).bind (k_b1 f) := by rw [ev]; rfl
theorem ev_b2 {f : F2} {a b : E} : ev C G (.b2 f a b) ρ = if f2Ok G f then (use (ev C G a ρ)).bind (k_b2 C G f b) else .bad := by rw [ev]; rfl
theorem ev_isi {a : E} {ty : Str} : ev C G (.isi a ty) ρ = (ev C G a ρ).bind (k_isi ty) := by
  rw [ev]
  congr 1
theorem ev_mm {m : MM} {o as : E} : ev C G (.mm m o as) ρ = (ev C G o ρ).bind (k_mm C G m as) := by
  rw [ev]
  congr 1
theorem ev_comp {tg it cd el : E} {own : List Nat} : ev C G (.comp tg it cd el own) ρ = (evw C G it ρ).bind (k_comp C G tg cd el own) := by rw [ev]; rfl
theorem evs_nIl : evs C G .nil ρ = .ok [] ρ := by rw [evs]
theorem evs_cons {a r : E} : evs C G (.cons a r) ρ = (use (ev C G a ρ)).bind (k_evs C G r) := by rw [evs]; rfl
theorem eva_nil : eva C G .nil ρ = .ok [] ρ := by rw [eva]
theorem eva_cons {a r : E} : eva C G (.cons a r) ρ = (ev C G a ρ).bind (k_eva C G r) := by
  rw [eva]
  congr 1
theorem evw_rng1 {a : E} : evw C G (.rng1 a) ρ = (use (ev C G a ρ)).bind k_rng1 := by rw [evw]; rfl
theorem evw_rng2 {a b : E} : evw C G (.rng2 a b) ρ = (use (ev C G a ρ)).bind (k_rng2 C G b) := by rw [evw]; rfl
theorem evw_enm {a : E} : evw C G (.enm a) ρ = (ev C G a ρ).bind k_enm := by rw [evw]; rfl
theorem evw_zip {a b : E} : evw C G (.zip a b) ρ = (ev C G a ρ).bind (k_zip C G b) := by rw [evw]; rfl
theorem evw_seq {a : E} : evw C G (.seq a) ρ = (ev C G a ρ).bind k_seqw := by rw [evw]; rfl
end
/-! ### statements -/
def flThen : Fl → (Env → Fl) → Fl
  | .nx ρ, f => f ρ
  | o, _ => o
section
variable {f : Env → Fl} {ρ : Env} {d : D} {x : Ex}
theorem then_nx : flThen (.nx ρ) f = f ρ := Eq.trans rfl rfl
theorem then_ret : flThen (.ret d ρ) f = .ret d ρ := Eq.trans rfl rfl
theorem then_brk : flThen (.brk ρ) f = .brk ρ := Eq.trans rfl rfl
theorem then_ct : flThen (.ct ρ) f = .ct ρ := Eq.trans rfl rfl
theorem then_exc : flThen (.exc x ρ) f = .exc x ρ := Eq.trans rfl rfl
theorem env_nx {g : Env → Env} : (Fl.nx ρ).env g = .nx (g ρ) := Eq.trans rfl rfl
theorem env_ret {g : Env → Env} : (Fl.ret d ρ).env g = .ret d (g ρ) := Eq.trans rfl rfl
end
section
variable (C : CT) (G : Str → Option D) (isSub : Str → Str → Bool) (nW : Nat)
def s_blk (s : S) : Env → Fl := evS C G isSub nW s
def s_asg (t : E) : D → Env → Fl := fun d ρ1 => liftF (bindT t d ρ1)
def s_par22 (i j : Nat) (d : D) : D → Env → Fl := fun e ρ2 => if i < ρ2.length ∧ j < ρ2.length then .nx ((ρ2.set i (some d)).set j (some e)) else .bad
def s_par2 (i j : Nat) (b : E) : D → Env → Fl := fun d ρ1 => (use (ev C G b ρ1)).fl (s_par22 i j d)
def s_aug3 (i : Nat) (ρ1 : Env) : Option D → Fl | some y => if flat y then .nx (ρ1.set i (some y)) else .bad | none => .bad
def s_aug2 (i : Nat) (op : B2) (x : D) : D → Env → Fl := fun d ρ1 => s_aug3 i ρ1 (binD op x d)
def s_aug (i : Nat) (op : B2) (e : E) (ρ : Env) : Option D → Fl
  | some x => if flat x then (use (ev C G e ρ)).fl (s_aug2 i op x) else .bad
  | none => .bad
def s_put3 (pp : Option Pl) (d y : D) : D → Env → Fl := fun k ρ3 => putF pp d k y ρ3
def s_put2 (i : E) (y : D) : DP → Env → Fl := fun (d, pp) ρ2 => if qt i then (use (ev C G i ρ2)).fl (s_put3 pp d y) else .bad
def s_put (p i : E) : D → Env → Fl := fun y ρ1 => (ev C G p ρ1).fl (s_put2 C G i y)
def s_ex : DP → Env → Fl := fun _ ρ1 => .nx ρ1
def s_ret : D → Env → Fl := fun d ρ1 => .ret d ρ1
def s_iff (a b : S) : Bool → Env → Fl := fun t ρ1 => if t then evS C G isSub nW a ρ1 else evS C G isSub nW b ρ1
def s_opt (b : S) : Option Env → Fl | some ρ' => evS C G isSub nW b ρ' | none => .bad
def s_step (t : E) (b : S) : D → Env → Fl := fun d ρ => s_opt C G isSub nW b (bindT t d ρ)
def s_unl (l : List (Nat × D)) : Env → Env := fun ρ => unlend ρ l
def s_for (t : E) (b : S) : Wk → Env → Fl := fun w ρ1 => if w.lent.any (fun p => (asgT t ++ asgS b).contains p.1) then .bad else (forL (s_step C G isSub nW t b) w.ds ρ1).env (s_unl w.lent)
def s_raise (c : Str) (ρ : Env) : Option D → Fl | some (.bl true) => .exc ⟨c, []⟩ ρ | _ => .bad
def s_hO (ρ1 : Env) : Option D → Fl | some d => .ret d ρ1 | none => .bad
def s_hnd (c : Str) (e : E) : Fl → Fl
    | .exc x ρ1 => if isSub x.c c then s_hO ρ1 (evh e x) else .exc x ρ1
    | o => o
def s_par3 (i j k : Nat) : List D → Env → Fl := fun ds ρ1 => par3F i j k ds ρ1
variable {C : CT} {G : Str → Option D} {isSub : Str → Str → Bool} {nW : Nat} {ρ ρ' : Env}
theorem evS_nil : evS C G isSub nW .nil ρ = .nx ρ := by rw [evS]
theorem evS_cons {s r : S} : evS C G isSub nW (.cons s r) ρ = flThen (evS C G isSub nW s ρ) (s_blk C G isSub nW r) := by
  rw [evS]
  cases evS C G isSub nW s ρ <;> rfl
theorem blk_def {s : S} : s_blk C G isSub nW s ρ = evS C G isSub nW s ρ := Eq.trans rfl rfl
theorem evS_asg {t e : E} : evS C G isSub nW (.asg t e) ρ = (use (ev C G e ρ)).fl (s_asg t) := by rw [evS]; rfl
theorem evS_par2 {i j : Nat} {a b : E} : evS C G isSub nW (.par2 i j a b) ρ = (use (ev C G a ρ)).fl (s_par2 C G i j b) := by rw [evS]; rfl
theorem evS_par3 {i j k : Nat} {es : E} : evS C G isSub nW (.par3 i j k es) ρ = (evs C G es ρ).fl (s_par3 i j k) := by rw [evS]; rfl
theorem evS_aug {i : Nat} {op : B2} {e : E} : evS C G isSub nW (.aug i op e) ρ = s_aug C G i op e ρ (slot ρ i) := by
  rw [evS]
  cases slot ρ i with
  | none => rfl
  | some x =>
    simp only [s_aug]
    split <;> first | rfl | skip
theorem evS_puT {a i e : E} : evS C G isSub nW (.put a i e) ρ = (use (ev C G e ρ)).fl (s_put C G a i) := by rw [evS]; rfl
theorem evS_ex {e : E} : evS C G isSub nW (.ex e) ρ = (ev C G e ρ).fl s_ex := by rw [evS]; rfl
theorem evS_ret {e : E} : evS C G isSub nW (.ret e) ρ = (use (ev C G e ρ)).fl s_ret := by rw [evS]; rfl
theorem evS_retN : evS C G isSub nW .retN ρ = .ret .non ρ := by rw [evS]
theorem evS_iff {c : E} {a b : S} : evS C G isSub nW (.iff c a b) ρ = (tru (ev C G c ρ)).fl (s_iff C G isSub nW a b) := by rw [evS]; rfl
theorem evS_whl {c : E} {b : S} : evS C G isSub nW (.whl c b) ρ = whL (cT C G c) (s_blk C G isSub nW b) nW ρ := by rw [evS]; rfl
theorem evS_foR {t it : E} {b : S} : evS C G isSub nW (.forr t it b) ρ = (evw C G it ρ).fl (s_for C G isSub nW t b) := by
  rw [evS]
  congr 1
theorem evS_brk : evS C G isSub nW .brk ρ = .brk ρ := by rw [evS]
theorem evS_cont : evS C G isSub nW .cont ρ = .ct ρ := by rw [evS]
theorem evS_pass : evS C G isSub nW .pass ρ = .nx ρ := by rw [evS]
theorem evS_raise {c : Str} : evS C G isSub nW (.raise c) ρ = s_raise c ρ (G (excKey c)) := by
  rw [evS]
  cases G (excKey c) with
  | none => rfl
  | some x => cases x <;> first | rfl | skip
theorem evS_try {b : S} {c : Str} {e : E} : evS C G isSub nW (.tryy b c e) ρ = if (G (excKey c)).isSome then s_hnd isSub c e (evS C G isSub nW b ρ) else .bad := by
  rw [evS]
  split <;> first | rfl | skip
end
def endC (as : List Nat) (ds : List D) : Fl → CO
    | .nx ρ => if parOk as ds ρ then .ok .non (behind as ds ρ) else .bad
    | .ret d ρ => if parOk as ds ρ then .ok d (behind as ds ρ) else .bad
    | .exc x ρ => if parOk as ds ρ then .exc x (behind as ds ρ) else .bad
    | _ => .bad
theorem run_def {P : Prg} {n : Nat} {fd : Fd} {ds : List D} (h : ds.length = fd.np) : run P n fd ds = endC (asgS fd.body) ds (evS (callN P n) P.G P.isSub nWhile fd.body (start fd.ns ds)) := by
  unfold run callF
  rw [if_pos h]
  cases evS (callN P n) P.G P.isSub nWhile fd.body (start fd.ns ds) <;> rfl
theorem endC_nx {as : List Nat} {ds : List D} {ρ : Env} : endC as ds (.nx ρ) = if parOk as ds ρ then .ok .non (behind as ds ρ) else .bad := Eq.trans rfl rfl
theorem endC_ret {as : List Nat} {ds : List D} {d : D} {ρ : Env} : endC as ds (.ret d ρ) = if parOk as ds ρ then .ok d (behind as ds ρ) else .bad := Eq.trans rfl rfl
theorem endC_exc {as : List Nat} {ds : List D} {d : Ex} {ρ : Env} : endC as ds (.exc d ρ) = if parOk as ds ρ then .exc d (behind as ds ρ) else .bad := Eq.trans rfl rfl
theorem raise_t {c : Str} {ρ : Env} : s_raise c ρ (some (.bl true)) = .exc ⟨c, []⟩ ρ := Eq.trans rfl rfl
theorem hnd_exc {isSub : Str → Str → Bool} {c : Str} {e : E} {x : Ex} {ρ : Env} : s_hnd isSub c e (.exc x ρ) = if isSub x.c c then s_hO ρ (evh e x) else .exc x ρ := Eq.trans rfl rfl
theorem hnd_nx {isSub : Str → Str → Bool} {c : Str} {e : E} {ρ : Env} : s_hnd isSub c e (.nx ρ) = .nx ρ := Eq.trans rfl rfl
theorem hnd_ret {isSub : Str → Str → Bool} {c : Str} {e : E} {d : D} {ρ : Env} : s_hnd isSub c e (.ret d ρ) = .ret d ρ := Eq.trans rfl rfl
class HasSub (P : Prg) (c d : Str) (b : outParam Bool) : Prop where h : P.isSub c d = b
theorem sub_has {P : Prg} {c d b} [i : HasSub P c d b] : P.isSub c d = b := i.h
theorem isi_bool_non  : isiD "bool" (.non) = some false := by kernel_rfl
theorem isi_bool_bl {b : Bool} : isiD "bool" (.bl b) = some true := by kernel_rfl
theorem isi_bool_int {i : Int} : isiD "bool" (.int i) = some false := by kernel_rfl
theorem isi_bool_str {x : Str} : isiD "bool" (.str x) = some false := by kernel_rfl
theorem isi_bool_tup {xs : List D} : isiD "bool" (.tup xs) = some false := by kernel_rfl
theorem isi_bool_lst {o : Ow} {xs : List D} : isiD "bool" (.lst o xs) = some false := by kernel_rfl
theorem isi_int_non  : isiD "int" (.non) = some false := by kernel_rfl
theorem isi_int_bl {b : Bool} : isiD "int" (.bl b) = some true := by kernel_rfl
theorem isi_int_int {i : Int} : isiD "int" (.int i) = some true := by kernel_rfl
theorem isi_int_str {x : Str} : isiD "int" (.str x) = some false := by kernel_rfl
theorem isi_int_tup {xs : List D} : isiD "int" (.tup xs) = some false := by kernel_rfl
theorem isi_int_lst {o : Ow} {xs : List D} : isiD "int" (.lst o xs) = some false := by kernel_rfl
theorem isi_str_non  : isiD "str" (.non) = some false := by kernel_rfl
theorem isi_str_bl {b : Bool} : isiD "str" (.bl b) = some false := by kernel_rfl
theorem isi_str_int {i : Int} : isiD "str" (.int i) = some false := by kernel_rfl
theorem isi_str_str {x : Str} : isiD "str" (.str x) = some true := by kernel_rfl
theorem isi_str_tup {xs : List D} : isiD "str" (.tup xs) = some false := by kernel_rfl
theorem isi_str_lst {o : Ow} {xs : List D} : isiD "str" (.lst o xs) = some false := by kernel_rfl
theorem isi_tuple_non  : isiD "tuple" (.non) = some false := by kernel_rfl
theorem isi_tuple_bl {b : Bool} : isiD "tuple" (.bl b) = some false := by kernel_rfl
theorem isi_tuple_int {i : Int} : isiD "tuple" (.int i) = some false := by kernel_rfl
theorem isi_tuple_str {x : Str} : isiD "tuple" (.str x) = some false := by kernel_rfl
theorem isi_tuple_tup {xs : List D} : isiD "tuple" (.tup xs) = some true := by kernel_rfl
theorem isi_tuple_lst {o : Ow} {xs : List D} : isiD "tuple" (.lst o xs) = some false := by kernel_rfl
theorem isi_list_non  : isiD "list" (.non) = some false := by kernel_rfl
theorem isi_list_bl {b : Bool} : isiD "list" (.bl b) = some false := by kernel_rfl
theorem isi_list_int {i : Int} : isiD "list" (.int i) = some false := by kernel_rfl
theorem isi_list_str {x : Str} : isiD "list" (.str x) = some false := by kernel_rfl
theorem isi_list_tup {xs : List D} : isiD "list" (.tup xs) = some false := by kernel_rfl
theorem isi_list_lst {o : Ow} {xs : List D} : isiD "list" (.lst o xs) = some true := by kernel_rfl
theorem rng1_ok {j : Int} {ρ : Env} (h0 : 0 ≤ j) (h1 : j ≤ 1000000) : k_rng1 (.int j) ρ = .ok ⟨rangeI 0 1 j.toNat, []⟩ ρ := by
  show (if _ then _ else _) = _
  have h2 : (1000000 : Int) < 2 ^ 62 := by decide
  have h3 : -(2 ^ 62 : Int) ≤ 0 := by decide
  rw [if_pos ⟨Int.le_trans h3 h0, Int.lt_of_le_of_lt h1 h2⟩]
theorem eqO_ii {i j : Int} : eqO (.int i) (.int j) = some (i == j) := by simp [eqO, okEq, flat, eqD]
theorem eqO_bb {i j : Bool} : eqO (.bl i) (.bl j) = some (i == j) := by simp [eqO, okEq, flat, eqD]
theorem eqO_ss {i j : Str} : eqO (.str i) (.str j) = some (i == j) := by simp [eqO, okEq, flat, eqD]
theorem eqO_nn : eqO .non .non = some true := by simp [eqO, okEq, flat, eqD]
theorem flat_int {i : Int} : flat (.int i) = true := rfl
theorem flat_str {i : Str} : flat (.str i) = true := rfl
theorem flat_bl {i : Bool} : flat (.bl i) = true := rfl
theorem flat_non : flat .non = true := rfl
theorem evw_rng3 {C : CT} {G : Str → Option D} {ρ : Env} {a b c : E} : evw C G (.rng3 a b c) ρ = (use (ev C G a ρ)).bind (k_rng3 C G b c) := by rw [evw]; rfl
theorem rng3_down {i j : Int} {ρ : Env} (h0 : -1000000 ≤ i) (h1 : i ≤ 1000000) (h2 : -1000000 ≤ j) (h3 : j ≤ 1000000) : k_rng33 (.int i) (.int j) (.int (-1)) ρ = .ok ⟨rangeI i (-1) (i - j).toNat, []⟩ ρ := by
  have hs := PySem.W.rangeSize_downNat i j
  have c1 : -(2 ^ 62 : Int) ≤ -1000000 := by decide
  have c2 : (1000000 : Int) < 2 ^ 62 := by decide
  have hk : rgOk i j (-1) = true := by
    unfold rgOk
    rw [PySem.W.small_down (Int.le_trans c1 h0) (Int.lt_of_le_of_lt h1 c2) (Int.le_trans c1 h2) (Int.lt_of_le_of_lt h3 c2), hs]
    simp
    omega
  show (if rgOk i j (-1) = true then _ else _) = _
  rw [if_pos hk, hs, Int.toNat_natCast]
theorem sl_big {n : Nat} (h : n ≤ 1000000) : n ≤ sizeLine := Nat.le_trans h (by decide)
end Ev

namespace Ev.Fr
open PySem PySem.Spec PyProof.Rows L2
def b_fraction : S := (.cons (.iff (.cmp .eq (.v 1) (.int 0)) (.cons (.raise "BadNumber") .nil) .nil) (.cons (.iff (.cmp .lt (.v 1) (.int 0)) (.cons (.par2 0 1 (.neg (.v 0)) (.neg (.v 1))) .nil) .nil) (.cons (.asg (.v 2) (.b2 .gcd (.v 0) (.v 1))) (.cons (.ret (.tup (.cons (.bin .fdiv (.v 0) (.v 2)) (.cons (.bin .fdiv (.v 1) (.v 2)) .nil)))) .nil))))
def fd_fraction : Fd := ⟨2, 3, b_fraction⟩
def b_whole : S := (.cons (.ret (.tup (.cons (.fz (.v 0)) (.cons (.int 1) .nil)))) .nil)
def fd_whole : Fd := ⟨1, 1, b_whole⟩
def b_add : S := (.cons (.ret (.call "fraction" (.cons (.bin .add (.bin .mul (.ix (.v 0) (.int 0)) (.ix (.v 1) (.int 1))) (.bin .mul (.ix (.v 1) (.int 0)) (.ix (.v 0) (.int 1)))) (.cons (.bin .mul (.ix (.v 0) (.int 1)) (.ix (.v 1) (.int 1))) .nil)))) .nil)
def fd_add : Fd := ⟨2, 2, b_add⟩
def b_minus : S := (.cons (.ret (.call "fraction" (.cons (.bin .sub (.bin .mul (.ix (.v 0) (.int 0)) (.ix (.v 1) (.int 1))) (.bin .mul (.ix (.v 1) (.int 0)) (.ix (.v 0) (.int 1)))) (.cons (.bin .mul (.ix (.v 0) (.int 1)) (.ix (.v 1) (.int 1))) .nil)))) .nil)
def fd_minus : Fd := ⟨2, 2, b_minus⟩
def b_times : S := (.cons (.ret (.call "fraction" (.cons (.bin .mul (.ix (.v 0) (.int 0)) (.ix (.v 1) (.int 0))) (.cons (.bin .mul (.ix (.v 0) (.int 1)) (.ix (.v 1) (.int 1))) .nil)))) .nil)
def fd_times : Fd := ⟨2, 2, b_times⟩
def b_over : S := (.cons (.ret (.call "fraction" (.cons (.bin .mul (.ix (.v 0) (.int 0)) (.ix (.v 1) (.int 1))) (.cons (.bin .mul (.ix (.v 0) (.int 1)) (.ix (.v 1) (.int 0))) .nil)))) .nil)
def fd_over : Fd := ⟨2, 2, b_over⟩
def b_less : S := (.cons (.ret (.cmp .lt (.bin .mul (.ix (.v 0) (.int 0)) (.ix (.v 1) (.int 1))) (.bin .mul (.ix (.v 1) (.int 0)) (.ix (.v 0) (.int 1))))) .nil)
def fd_less : Fd := ⟨2, 2, b_less⟩
def b_at_most : S := (.cons (.ret (.not (.call "less" (.cons (.v 1) (.cons (.v 0) .nil))))) .nil)
def fd_at_most : Fd := ⟨2, 2, b_at_most⟩
def b_total_of : S := (.cons (.asg (.v 1) (.g "ZERO")) (.cons (.forr (.v 2) (.seq (.v 0)) (.cons (.asg (.v 1) (.call "add" (.cons (.v 1) (.cons (.v 2) .nil)))) .nil)) (.cons (.ret (.mv 1)) .nil)))
def fd_total_of : Fd := ⟨1, 3, b_total_of⟩
def b_greatest : S := (.cons (.asg (.v 1) (.fz (.ix (.v 0) (.int 0)))) (.cons (.forr (.v 2) (.seq (.v 0)) (.cons (.iff (.call "less" (.cons (.v 1) (.cons (.v 2) .nil))) (.cons (.asg (.v 1) (.fz (.v 2))) .nil) .nil) .nil)) (.cons (.ret (.mv 1)) .nil)))
def fd_greatest : Fd := ⟨1, 3, b_greatest⟩
def b_least : S := (.cons (.asg (.v 1) (.fz (.ix (.v 0) (.int 0)))) (.cons (.forr (.v 2) (.seq (.v 0)) (.cons (.iff (.call "less" (.cons (.v 2) (.cons (.v 1) .nil))) (.cons (.asg (.v 1) (.fz (.v 2))) .nil) .nil) .nil)) (.cons (.ret (.mv 1)) .nil)))
def fd_least : Fd := ⟨1, 3, b_least⟩
def b_floor : S := (.cons (.ret (.bin .fdiv (.ix (.v 0) (.int 0)) (.ix (.v 0) (.int 1)))) .nil)
def fd_floor : Fd := ⟨1, 1, b_floor⟩
def b_ceiling : S := (.cons (.ret (.neg (.bin .fdiv (.neg (.ix (.v 0) (.int 0))) (.ix (.v 0) (.int 1))))) .nil)
def fd_ceiling : Fd := ⟨1, 1, b_ceiling⟩
def b_in_order : S := (.cons (.asg (.v 1) (.lst .nil)) (.cons (.forr (.tup (.cons (.v 2) (.cons (.v 3) .nil))) (.enm (.fz (.v 0))) (.cons (.asg (.v 4) (.b1 .len (.v 1))) (.cons (.whl (.and (.cmp .gt (.v 4) (.int 0)) (.call "less" (.cons (.ix (.v 0) (.ix (.v 1) (.bin .sub (.v 4) (.int 1)))) (.cons (.v 3) .nil)))) (.cons (.aug 4 .sub (.int 1)) .nil)) (.cons (.ex (.mm .insert (.v 1) (.cons (.fz (.v 4)) (.cons (.fz (.v 2)) .nil)))) .nil)))) (.cons (.ret (.mv 1)) .nil)))
def fd_in_order : Fd := ⟨1, 5, b_in_order⟩
def b_fraction_text : S := (.cons (.iff (.cmp .eq (.ix (.v 0) (.int 1)) (.int 1)) (.cons (.ret (.b1 .str (.ix (.v 0) (.int 0)))) .nil) .nil) (.cons (.ret (.bin .add (.bin .add (.b1 .str (.ix (.v 0) (.int 0))) (.str "/")) (.b1 .str (.ix (.v 0) (.int 1))))) .nil))
def fd_fraction_text : Fd := ⟨1, 1, b_fraction_text⟩
def b__law_draw : S := (.cons (.iff (.cmp .lt (.ix (.v 0) (.int 2)) (.v 1)) (.cons (.asg (.v 2) (.fz (.ix (.v 0) (.int 0)))) (.cons (.asg (.v 3) (.fz (.ix (.v 0) (.int 1)))) (.cons (.asg (.v 4) (.int 0)) (.cons (.iff (.cmp .lt (.v 3) (.b1 .len (.v 2))) (.cons (.asg (.v 4) (.fz (.ix (.v 2) (.v 3)))) .nil) .nil) (.cons (.iff (.cmp .lt (.v 4) (.int 0)) (.cons (.asg (.v 4) (.bin .sub (.bin .mul (.neg (.int 2)) (.v 4)) (.int 1))) .nil) .nil) (.cons (.iff (.cmp .lt (.v 4) (.bin .pow (.int 10) (.int 9))) (.cons (.asg (.v 4) (.bin .mod (.b1 .int (.bin .add (.bin .add (.bin .mul (.v 4) (.int 48271)) (.bin .mul (.v 3) (.int 69621))) (.int 12345))) (.int 2147483647))) (.cons (.asg (.v 4) (.bin .mod (.b1 .int (.bin .add (.bin .add (.bin .mul (.v 4) (.int 16807)) (.bin .mul (.v 3) (.int 39373))) (.int 6789))) (.int 2147483629))) .nil)) .nil) (.cons (.put (.v 0) (.int 1) (.bin .add (.v 3) (.int 1))) (.cons (.put (.v 0) (.int 2) (.fz (.v 4))) .nil)))))))) .nil) (.cons (.asg (.v 5) (.bin .mod (.b1 .int (.ix (.v 0) (.int 2))) (.v 1))) (.cons (.put (.v 0) (.int 2) (.bin .fdiv (.ix (.v 0) (.int 2)) (.v 1))) (.cons (.ret (.mv 5)) .nil))))
def fd__law_draw : Fd := ⟨2, 6, b__law_draw⟩
def b__law_tape : S := (.cons (.ret (.lst (.cons (.b1 .list (.v 0)) (.cons (.int 0) (.cons (.int 0) .nil))))) .nil)
def fd__law_tape : Fd := ⟨1, 1, b__law_tape⟩
def b__law_same : S := (.cons (.ret (.and (.isi (.v 0) "bool") (.cmp .eq (.v 0) (.v 1)))) .nil)
def fd__law_same : Fd := ⟨2, 2, b__law_same⟩
def b__law_is : S := (.cons (.iff (.cmp .is (.v 1) .non) (.cons (.ret (.cmp .is (.v 0) .non)) .nil) .nil) (.cons (.iff (.isi (.v 1) "bool") (.cons (.ret (.and (.isi (.v 0) "bool") (.cmp .eq (.v 0) (.v 1)))) .nil) .nil) (.cons (.iff (.isi (.v 1) "int") (.cons (.ret (.and (.isi (.v 0) "int") (.cmp .eq (.v 0) (.v 1)))) .nil) .nil) (.cons (.iff (.isi (.v 1) "str") (.cons (.ret (.and (.isi (.v 0) "str") (.cmp .eq (.v 0) (.v 1)))) .nil) .nil) (.cons (.iff (.isi (.v 1) "tuple") (.cons (.ret (.and (.isi (.v 0) "tuple") (.cmp .eq (.v 0) (.v 1)))) .nil) .nil) (.cons (.ret (.and (.isi (.v 0) "list") (.cmp .eq (.v 0) (.v 1)))) .nil))))))
def fd__law_is : Fd := ⟨2, 2, b__law_is⟩
def b__law_mod : S := (.cons (.ret (.bin .sub (.v 0) (.bin .mul (.bin .fdiv (.v 0) (.v 1)) (.v 1)))) .nil)
def fd__law_mod : Fd := ⟨2, 2, b__law_mod⟩
def b__law_gcd : S := (.cons (.forr (.v 2) (.rng1 (.int 200)) (.cons (.iff (.cmp .ne (.v 1) (.int 0)) (.cons (.par2 0 1 (.fz (.v 1)) (.call "_law_mod" (.cons (.v 0) (.cons (.v 1) .nil)))) .nil) .nil) .nil)) (.cons (.ret (.fz (.v 0))) .nil))
def fd__law_gcd : Fd := ⟨2, 3, b__law_gcd⟩
def b__law_frac : S := (.cons (.iff (.cmp .lt (.v 1) (.int 0)) (.cons (.par2 0 1 (.bin .sub (.int 0) (.v 0)) (.bin .sub (.int 0) (.v 1))) .nil) .nil) (.cons (.asg (.v 2) (.call "_law_gcd" (.cons (.b1 .abs (.v 0)) (.cons (.v 1) .nil)))) (.cons (.ret (.tup (.cons (.bin .fdiv (.v 0) (.v 2)) (.cons (.bin .fdiv (.v 1) (.v 2)) .nil)))) .nil)))
def fd__law_frac : Fd := ⟨2, 3, b__law_frac⟩
def b__law_add : S := (.cons (.ret (.call "_law_frac" (.cons (.bin .add (.bin .mul (.ix (.v 0) (.int 0)) (.ix (.v 1) (.int 1))) (.bin .mul (.ix (.v 1) (.int 0)) (.ix (.v 0) (.int 1)))) (.cons (.bin .mul (.ix (.v 0) (.int 1)) (.ix (.v 1) (.int 1))) .nil)))) .nil)
def fd__law_add : Fd := ⟨2, 2, b__law_add⟩
def b__law_sub : S := (.cons (.ret (.call "_law_frac" (.cons (.bin .sub (.bin .mul (.ix (.v 0) (.int 0)) (.ix (.v 1) (.int 1))) (.bin .mul (.ix (.v 1) (.int 0)) (.ix (.v 0) (.int 1)))) (.cons (.bin .mul (.ix (.v 0) (.int 1)) (.ix (.v 1) (.int 1))) .nil)))) .nil)
def fd__law_sub : Fd := ⟨2, 2, b__law_sub⟩
def b__law_mul : S := (.cons (.ret (.call "_law_frac" (.cons (.bin .mul (.ix (.v 0) (.int 0)) (.ix (.v 1) (.int 0))) (.cons (.bin .mul (.ix (.v 0) (.int 1)) (.ix (.v 1) (.int 1))) .nil)))) .nil)
def fd__law_mul : Fd := ⟨2, 2, b__law_mul⟩
def b__law_div : S := (.cons (.ret (.call "_law_frac" (.cons (.bin .mul (.ix (.v 0) (.int 0)) (.ix (.v 1) (.int 1))) (.cons (.bin .mul (.ix (.v 0) (.int 1)) (.ix (.v 1) (.int 0))) .nil)))) .nil)
def fd__law_div : Fd := ⟨2, 2, b__law_div⟩
def b__law_lt : S := (.cons (.ret (.cmp .lt (.bin .mul (.ix (.v 0) (.int 0)) (.ix (.v 1) (.int 1))) (.bin .mul (.ix (.v 1) (.int 0)) (.ix (.v 0) (.int 1))))) .nil)
def fd__law_lt : Fd := ⟨2, 2, b__law_lt⟩
def b__law_sum : S := (.cons (.asg (.v 1) (.tup (.cons (.int 0) (.cons (.int 1) .nil)))) (.cons (.forr (.v 2) (.seq (.v 0)) (.cons (.asg (.v 1) (.call "_law_add" (.cons (.v 1) (.cons (.v 2) .nil)))) .nil)) (.cons (.ret (.mv 1)) .nil)))
def fd__law_sum : Fd := ⟨1, 3, b__law_sum⟩
def b__law_up : S := (.cons (.asg (.v 1) (.lst .nil)) (.cons (.forr (.v 2) (.seq (.v 0)) (.cons (.asg (.v 3) (.int 0)) (.cons (.forr (.v 4) (.seq (.v 1)) (.cons (.iff (.not (.call "_law_lt" (.cons (.v 2) (.cons (.v 4) .nil)))) (.cons (.asg (.v 3) (.bin .add (.v 3) (.int 1))) .nil) .nil) .nil)) (.cons (.asg (.v 1) (.bin .add (.bin .add (.sl (.v 1) .nop (.v 3)) (.lst (.cons (.fz (.v 2)) .nil))) (.sl (.v 1) (.v 3) .nop))) .nil)))) (.cons (.ret (.mv 1)) .nil)))
def fd__law_up : Fd := ⟨1, 5, b__law_up⟩
def b__law_fraction : S := (.cons (.ret (.ite (.cmp .eq (.call "_law_draw" (.cons (.v 0) (.cons (.int 2) .nil))) (.int 0)) (.call "_law_frac" (.cons (.call "_law_draw" (.cons (.v 0) (.cons (.bin .add (.bin .mul (.int 4) (.v 1)) (.int 1)) .nil))) (.cons (.bin .add (.int 1) (.call "_law_draw" (.cons (.v 0) (.cons (.int 4) .nil)))) .nil))) (.tup (.cons (.call "_law_draw" (.cons (.v 0) (.cons (.bin .add (.v 1) (.int 1)) .nil))) (.cons (.int 1) .nil))))) .nil)
def fd__law_fraction : Fd := ⟨2, 2, b__law_fraction⟩
def b__law_signed : S := (.cons (.asg (.v 2) (.call "_law_fraction" (.cons (.v 0) (.cons (.v 1) .nil)))) (.cons (.ret (.ite (.cmp .eq (.call "_law_draw" (.cons (.v 0) (.cons (.int 2) .nil))) (.int 0)) (.fz (.v 2)) (.tup (.cons (.bin .sub (.int 0) (.ix (.v 2) (.int 0))) (.cons (.fz (.ix (.v 2) (.int 1))) .nil))))) .nil))
def fd__law_signed : Fd := ⟨2, 3, b__law_signed⟩
def b__law_none : S := (.cons (.tryy (.cons (.iff (.cmp .eq (.v 2) (.int 0)) (.cons (.ex (.call "fraction" (.cons (.ix (.v 0) (.int 0)) (.cons (.int 0) .nil)))) .nil) (.cons (.ex (.call "over" (.cons (.v 0) (.cons (.v 1) .nil)))) .nil)) .nil) "BadNumber" (.bl true)) (.cons (.ret (.bl false)) .nil))
def fd__law_none : Fd := ⟨3, 3, b__law_none⟩
end Ev.Fr

/-! FrA: the fractions' functions. -/
namespace Ev.Fr
open PySem PySem.Spec PyProof.Rows L2
variable {P : Prg} {n : Nat}
/-- lowest terms, the bottom above 0 -/
def nf (t b : Int) : Int × Int := if b < 0 then (-t / ((Nat.gcd t.natAbs b.natAbs : Nat) : Int), -b / ((Nat.gcd t.natAbs b.natAbs : Nat) : Int)) else (t / ((Nat.gcd t.natAbs b.natAbs : Nat) : Int), b / ((Nat.gcd t.natAbs b.natAbs : Nat) : Int))
theorem gcd_pos {t b : Int} (h : b ≠ 0) : (0 : Int) < ((Nat.gcd t.natAbs b.natAbs : Nat) : Int) := by
  have : 0 < Nat.gcd t.natAbs b.natAbs := Nat.gcd_pos_of_pos_right _ (by omega)
  omega
theorem gcd_le {t b : Int} (h : b ≠ 0) : ((Nat.gcd t.natAbs b.natAbs : Nat) : Int) ≤ b.natAbs := by
  have : Nat.gcd t.natAbs b.natAbs ≤ b.natAbs := Nat.gcd_le_right _ (by omega)
  omega
theorem divOk_gcd {t b : Int} (h : b ≠ 0) (hb : b.natAbs < 2 ^ 8000) : divOk ((Nat.gcd t.natAbs b.natAbs : Nat) : Int) := by
  refine ⟨gcd_pos h, ?_⟩
  have h1 := gcd_le (t := t) h
  have h2 : (((Nat.gcd t.natAbs b.natAbs : Nat) : Int)).natAbs < 2 ^ 8000 := Nat.lt_of_le_of_lt (by omega) hb
  exact Nat.lt_trans (log2_lt (by decide) h2) (by decide)
theorem s_fraction [HasG P "math.gcd" .non] (t b : Int) (h : b ≠ 0) (hb : b.natAbs < 2 ^ 8000) :
    run P n fd_fraction [.int t, .int b] = .ok (fr (nf t b)) [.int t, .int b] := by
  rw [run_def rfl]
  have h2 := divOk_gcd (t := t) h hb
  by_cases h3 : b < 0
  · simp [fd_fraction, b_fraction, bind_ok, bind_exc, fl_ok, fl_exc, use_none, use_some, use_exc, tmp_ok, tru_ok, tru_exc, liftO_some, slot_0, slot_s, ev_v, ev_fz, ev_mv, ev_g, ev_int, ev_str, ev_bl, ev_non, ev_nop, ev_ix, ev_fld, ev_sl, ev_bin, ev_neg, ev_not, ev_cmp, ev_chain, ev_and, ev_or, ev_itE, ev_tup, ev_lst, ev_call, ev_b1, ev_b2, ev_isi, ev_mm, ev_comp, evs_nIl, evs_cons, eva_nil, eva_cons, evw_rng1, evw_rng2, evw_enm, evw_zip, evw_seq, then_nx, then_ret, then_brk, then_ct, then_exc, env_nx, env_ret, evS_nil, evS_cons, blk_def, evS_asg, evS_par2, evS_par3, evS_aug, evS_puT, evS_ex, evS_ret, evS_retN, evS_iff, evS_whl, evS_foR, evS_brk, evS_cont, evS_pass, evS_raise, evS_try, endC_nx, endC_ret, endC_exc, raise_t, hnd_exc, hnd_nx, hnd_ret, sub_has, isi_bool_non, isi_bool_bl, isi_bool_int, isi_bool_str, isi_bool_tup, isi_bool_lst, isi_int_non, isi_int_bl, isi_int_int, isi_int_str, isi_int_tup, isi_int_lst, isi_str_non, isi_str_bl, isi_str_int, isi_str_str, isi_str_tup, isi_str_lst, isi_tuple_non, isi_tuple_bl, isi_tuple_int, isi_tuple_str, isi_tuple_tup, isi_tuple_lst, isi_list_non, isi_list_bl, isi_list_int, isi_list_str, isi_list_tup, isi_list_lst, evw_rng3, k_v, k_fz, k_mv, k_g, stpO, k_ix3, k_ix2, k_ix, k_fld2, k_fld, k_sl3, k_sl2, k_sl, k_bin2, k_bin, k_neg, bO, k_not, k_cmp2, k_cmp, k_ch4, k_ch3, k_ch2, k_ch, k_and2, k_and, k_or2, k_or, k_ite2, k_ite, k_tup, k_lst, k_ret, k_call2, k_call3, k_call, k_b1, k_b22, k_b2, k_isi, k_mm3, k_mm2, k_mm, cB, cT, cE, cW, k_comp2, k_comp, k_evs2, k_evs, k_eva2, k_eva, k_rng22, k_rng2, k_rng32, k_rng3, k_enm2, k_enm, k_zip4, k_zip3, k_zip2, k_zip, k_seqw, s_asg, s_par22, s_par2, s_aug3, s_aug2, s_aug, s_put3, s_put2, s_put, s_ex, s_ret, s_iff, s_opt, s_unl, s_hO, s_par3, s_for, ixN, liftF, bindT, bindT.bindTs, calmP, qt, isFrz, frzL, canFrz, canL, freeze, freezeL, avDs, avD, avOk, avRoots, Av.isVar, giveA, setE, getE, getS, setS, binD, slD, cmpD, b1D, b2D, trD, ixD, eqO, okEq, eqD, eqL, flat, okD, okL, dep, depL, start, behind, parOk, asgS, asgT, callN_has, G_has, f2Ok, items, walkD, walkP, unlend, sizeLine_eq, evh, evhs, putF, itmF, mmD, isLst, partD, par3F, noExc, ownOk, wipeE, backE, Pl.root, h, h3, h2, nf]
  · simp [fd_fraction, b_fraction, bind_ok, bind_exc, fl_ok, fl_exc, use_none, use_some, use_exc, tmp_ok, tru_ok, tru_exc, liftO_some, slot_0, slot_s, ev_v, ev_fz, ev_mv, ev_g, ev_int, ev_str, ev_bl, ev_non, ev_nop, ev_ix, ev_fld, ev_sl, ev_bin, ev_neg, ev_not, ev_cmp, ev_chain, ev_and, ev_or, ev_itE, ev_tup, ev_lst, ev_call, ev_b1, ev_b2, ev_isi, ev_mm, ev_comp, evs_nIl, evs_cons, eva_nil, eva_cons, evw_rng1, evw_rng2, evw_enm, evw_zip, evw_seq, then_nx, then_ret, then_brk, then_ct, then_exc, env_nx, env_ret, evS_nil, evS_cons, blk_def, evS_asg, evS_par2, evS_par3, evS_aug, evS_puT, evS_ex, evS_ret, evS_retN, evS_iff, evS_whl, evS_foR, evS_brk, evS_cont, evS_pass, evS_raise, evS_try, endC_nx, endC_ret, endC_exc, raise_t, hnd_exc, hnd_nx, hnd_ret, sub_has, isi_bool_non, isi_bool_bl, isi_bool_int, isi_bool_str, isi_bool_tup, isi_bool_lst, isi_int_non, isi_int_bl, isi_int_int, isi_int_str, isi_int_tup, isi_int_lst, isi_str_non, isi_str_bl, isi_str_int, isi_str_str, isi_str_tup, isi_str_lst, isi_tuple_non, isi_tuple_bl, isi_tuple_int, isi_tuple_str, isi_tuple_tup, isi_tuple_lst, isi_list_non, isi_list_bl, isi_list_int, isi_list_str, isi_list_tup, isi_list_lst, evw_rng3, k_v, k_fz, k_mv, k_g, stpO, k_ix3, k_ix2, k_ix, k_fld2, k_fld, k_sl3, k_sl2, k_sl, k_bin2, k_bin, k_neg, bO, k_not, k_cmp2, k_cmp, k_ch4, k_ch3, k_ch2, k_ch, k_and2, k_and, k_or2, k_or, k_ite2, k_ite, k_tup, k_lst, k_ret, k_call2, k_call3, k_call, k_b1, k_b22, k_b2, k_isi, k_mm3, k_mm2, k_mm, cB, cT, cE, cW, k_comp2, k_comp, k_evs2, k_evs, k_eva2, k_eva, k_rng22, k_rng2, k_rng32, k_rng3, k_enm2, k_enm, k_zip4, k_zip3, k_zip2, k_zip, k_seqw, s_asg, s_par22, s_par2, s_aug3, s_aug2, s_aug, s_put3, s_put2, s_put, s_ex, s_ret, s_iff, s_opt, s_unl, s_hO, s_par3, s_for, ixN, liftF, bindT, bindT.bindTs, calmP, qt, isFrz, frzL, canFrz, canL, freeze, freezeL, avDs, avD, avOk, avRoots, Av.isVar, giveA, setE, getE, getS, setS, binD, slD, cmpD, b1D, b2D, trD, ixD, eqO, okEq, eqD, eqL, flat, okD, okL, dep, depL, start, behind, parOk, asgS, asgT, callN_has, G_has, f2Ok, items, walkD, walkP, unlend, sizeLine_eq, evh, evhs, putF, itmF, mmD, isLst, partD, par3F, noExc, ownOk, wipeE, backE, Pl.root, h, h3, h2, nf]
theorem s_fraction0 [HasG P (excKey "BadNumber") (.bl true)] (t : Int) :
    run P n fd_fraction [.int t, .int 0] = .exc ⟨"BadNumber", []⟩ [.int t, .int 0] := by
  rw [run_def rfl]
  simp [fd_fraction, b_fraction, bind_ok, bind_exc, fl_ok, fl_exc, use_none, use_some, use_exc, tmp_ok, tru_ok, tru_exc, liftO_some, slot_0, slot_s, ev_v, ev_fz, ev_mv, ev_g, ev_int, ev_str, ev_bl, ev_non, ev_nop, ev_ix, ev_fld, ev_sl, ev_bin, ev_neg, ev_not, ev_cmp, ev_chain, ev_and, ev_or, ev_itE, ev_tup, ev_lst, ev_call, ev_b1, ev_b2, ev_isi, ev_mm, ev_comp, evs_nIl, evs_cons, eva_nil, eva_cons, evw_rng1, evw_rng2, evw_enm, evw_zip, evw_seq, then_nx, then_ret, then_brk, then_ct, then_exc, env_nx, env_ret, evS_nil, evS_cons, blk_def, evS_asg, evS_par2, evS_par3, evS_aug, evS_puT, evS_ex, evS_ret, evS_retN, evS_iff, evS_whl, evS_foR, evS_brk, evS_cont, evS_pass, evS_raise, evS_try, endC_nx, endC_ret, endC_exc, raise_t, hnd_exc, hnd_nx, hnd_ret, sub_has, isi_bool_non, isi_bool_bl, isi_bool_int, isi_bool_str, isi_bool_tup, isi_bool_lst, isi_int_non, isi_int_bl, isi_int_int, isi_int_str, isi_int_tup, isi_int_lst, isi_str_non, isi_str_bl, isi_str_int, isi_str_str, isi_str_tup, isi_str_lst, isi_tuple_non, isi_tuple_bl, isi_tuple_int, isi_tuple_str, isi_tuple_tup, isi_tuple_lst, isi_list_non, isi_list_bl, isi_list_int, isi_list_str, isi_list_tup, isi_list_lst, evw_rng3, k_v, k_fz, k_mv, k_g, stpO, k_ix3, k_ix2, k_ix, k_fld2, k_fld, k_sl3, k_sl2, k_sl, k_bin2, k_bin, k_neg, bO, k_not, k_cmp2, k_cmp, k_ch4, k_ch3, k_ch2, k_ch, k_and2, k_and, k_or2, k_or, k_ite2, k_ite, k_tup, k_lst, k_ret, k_call2, k_call3, k_call, k_b1, k_b22, k_b2, k_isi, k_mm3, k_mm2, k_mm, cB, cT, cE, cW, k_comp2, k_comp, k_evs2, k_evs, k_eva2, k_eva, k_rng22, k_rng2, k_rng32, k_rng3, k_enm2, k_enm, k_zip4, k_zip3, k_zip2, k_zip, k_seqw, s_asg, s_par22, s_par2, s_aug3, s_aug2, s_aug, s_put3, s_put2, s_put, s_ex, s_ret, s_iff, s_opt, s_unl, s_hO, s_par3, s_for, ixN, liftF, bindT, bindT.bindTs, calmP, qt, isFrz, frzL, canFrz, canL, freeze, freezeL, avDs, avD, avOk, avRoots, Av.isVar, giveA, setE, getE, getS, setS, binD, slD, cmpD, b1D, b2D, trD, ixD, eqO, okEq, eqD, eqL, flat, okD, okL, dep, depL, start, behind, parOk, asgS, asgT, callN_has, G_has, f2Ok, items, walkD, walkP, unlend, sizeLine_eq, evh, evhs, putF, itmF, mmD, isLst, partD, par3F, noExc, ownOk, wipeE, backE, Pl.root]

section
variable [HasG P "math.gcd" .non] [Has P "fraction" fd_fraction] {a b : Int × Int}
theorem s_whole {i : Int} : run P n fd_whole [.int i] = .ok (fr (i, 1)) [.int i] := by
  rw [run_def rfl]
  simp [fd_whole, b_whole, bind_ok, bind_exc, fl_ok, fl_exc, use_none, use_some, use_exc, tmp_ok, tru_ok, tru_exc, liftO_some, slot_0, slot_s, ev_v, ev_fz, ev_mv, ev_g, ev_int, ev_str, ev_bl, ev_non, ev_nop, ev_ix, ev_fld, ev_sl, ev_bin, ev_neg, ev_not, ev_cmp, ev_chain, ev_and, ev_or, ev_itE, ev_tup, ev_lst, ev_call, ev_b1, ev_b2, ev_isi, ev_mm, ev_comp, evs_nIl, evs_cons, eva_nil, eva_cons, evw_rng1, evw_rng2, evw_enm, evw_zip, evw_seq, then_nx, then_ret, then_brk, then_ct, then_exc, env_nx, env_ret, evS_nil, evS_cons, blk_def, evS_asg, evS_par2, evS_par3, evS_aug, evS_puT, evS_ex, evS_ret, evS_retN, evS_iff, evS_whl, evS_foR, evS_brk, evS_cont, evS_pass, evS_raise, evS_try, endC_nx, endC_ret, endC_exc, raise_t, hnd_exc, hnd_nx, hnd_ret, sub_has, isi_bool_non, isi_bool_bl, isi_bool_int, isi_bool_str, isi_bool_tup, isi_bool_lst, isi_int_non, isi_int_bl, isi_int_int, isi_int_str, isi_int_tup, isi_int_lst, isi_str_non, isi_str_bl, isi_str_int, isi_str_str, isi_str_tup, isi_str_lst, isi_tuple_non, isi_tuple_bl, isi_tuple_int, isi_tuple_str, isi_tuple_tup, isi_tuple_lst, isi_list_non, isi_list_bl, isi_list_int, isi_list_str, isi_list_tup, isi_list_lst, evw_rng3, k_v, k_fz, k_mv, k_g, stpO, k_ix3, k_ix2, k_ix, k_fld2, k_fld, k_sl3, k_sl2, k_sl, k_bin2, k_bin, k_neg, bO, k_not, k_cmp2, k_cmp, k_ch4, k_ch3, k_ch2, k_ch, k_and2, k_and, k_or2, k_or, k_ite2, k_ite, k_tup, k_lst, k_ret, k_call2, k_call3, k_call, k_b1, k_b22, k_b2, k_isi, k_mm3, k_mm2, k_mm, cB, cT, cE, cW, k_comp2, k_comp, k_evs2, k_evs, k_eva2, k_eva, k_rng22, k_rng2, k_rng32, k_rng3, k_enm2, k_enm, k_zip4, k_zip3, k_zip2, k_zip, k_seqw, s_asg, s_par22, s_par2, s_aug3, s_aug2, s_aug, s_put3, s_put2, s_put, s_ex, s_ret, s_iff, s_opt, s_unl, s_hO, s_par3, s_for, ixN, liftF, bindT, bindT.bindTs, calmP, qt, isFrz, frzL, canFrz, canL, freeze, freezeL, avDs, avD, avOk, avRoots, Av.isVar, giveA, setE, getE, getS, setS, binD, slD, cmpD, b1D, b2D, trD, ixD, eqO, okEq, eqD, eqL, flat, okD, okL, dep, depL, start, behind, parOk, asgS, asgT, callN_has, G_has, f2Ok, items, walkD, walkP, unlend, sizeLine_eq, evh, evhs, putF, itmF, mmD, isLst, partD, par3F, noExc, ownOk, wipeE, backE, Pl.root]
def add (a b : Int × Int) : Int × Int := nf (a.1 * b.2 + b.1 * a.2) (a.2 * b.2)
def minus (a b : Int × Int) : Int × Int := nf (a.1 * b.2 - b.1 * a.2) (a.2 * b.2)
def times (a b : Int × Int) : Int × Int := nf (a.1 * b.1) (a.2 * b.2)
def over (a b : Int × Int) : Int × Int := nf (a.1 * b.2) (a.2 * b.1)
def lt (a b : Int × Int) : Bool := decide (a.1 * b.2 < b.1 * a.2)
/-- a fraction of at most k bits, the bottom above 0 -/
structure Q (k : Nat) (a : Int × Int) : Prop where
  t : a.1.natAbs < 2 ^ k
  b : a.2.natAbs < 2 ^ k
  p : 0 < a.2
theorem natAbs_mul_lt {i j : Int} {k l : Nat} (h1 : i.natAbs < 2 ^ k) (h2 : j.natAbs < 2 ^ l) : (i * j).natAbs < 2 ^ (k + l) := by
  rw [Int.natAbs_mul, Nat.pow_add]
  exact Nat.mul_lt_mul'' h1 h2
theorem pow_le_pow {k l : Nat} (h : k ≤ l) : 2 ^ k ≤ 2 ^ l := Nat.pow_le_pow_right (by decide) h
theorem natAbs_lt_mono {i : Int} {k l : Nat} (h : i.natAbs < 2 ^ k) (h2 : k ≤ l) : i.natAbs < 2 ^ l := Nat.lt_of_lt_of_le h (pow_le_pow h2)
theorem Q.mono {k l : Nat} (h : Q k a) (h2 : k ≤ l) : Q l a := ⟨natAbs_lt_mono h.t h2, natAbs_lt_mono h.b h2, h.p⟩
theorem mulOk_k {i j : Int} {k l : Nat} (hi : i.natAbs < 2 ^ k) (hj : j.natAbs < 2 ^ l) (hk : k ≤ 3000) (hl : l ≤ 3000) : mulOk i j :=
  mulOk_b (natAbs_lt_mono hi (Nat.le_succ_of_le hk)) (natAbs_lt_mono hj (Nat.le_succ_of_le hl)) (by omega) (by omega) (by omega)
variable {k l : Nat} (hk : k ≤ 3000) (hl : l ≤ 3000) (ha : Q k a) (hb : Q l b)
include hk hl ha hb
theorem s_add : run P (n + 1) fd_add [fr a, fr b] = .ok (fr (add a b)) [fr a, fr b] := by
  have h1 := mulOk_k ha.t hb.b hk hl
  have h2 := mulOk_k hb.t ha.b hl hk
  have h3 := mulOk_k ha.b hb.b hk hl
  have h4 : a.2 * b.2 ≠ 0 := Int.ne_of_gt (Int.mul_pos ha.p hb.p)
  have h5 : (a.2 * b.2).natAbs < 2 ^ 8000 := natAbs_lt_mono (natAbs_mul_lt ha.b hb.b) (by omega)
  have h6 := s_fraction (P := P) (n := n) (a.1 * b.2 + b.1 * a.2) (a.2 * b.2) h4 h5
  rw [run_def rfl]
  simp [fd_add, b_add, bind_ok, bind_exc, fl_ok, fl_exc, use_none, use_some, use_exc, tmp_ok, tru_ok, tru_exc, liftO_some, slot_0, slot_s, ev_v, ev_fz, ev_mv, ev_g, ev_int, ev_str, ev_bl, ev_non, ev_nop, ev_ix, ev_fld, ev_sl, ev_bin, ev_neg, ev_not, ev_cmp, ev_chain, ev_and, ev_or, ev_itE, ev_tup, ev_lst, ev_call, ev_b1, ev_b2, ev_isi, ev_mm, ev_comp, evs_nIl, evs_cons, eva_nil, eva_cons, evw_rng1, evw_rng2, evw_enm, evw_zip, evw_seq, then_nx, then_ret, then_brk, then_ct, then_exc, env_nx, env_ret, evS_nil, evS_cons, blk_def, evS_asg, evS_par2, evS_par3, evS_aug, evS_puT, evS_ex, evS_ret, evS_retN, evS_iff, evS_whl, evS_foR, evS_brk, evS_cont, evS_pass, evS_raise, evS_try, endC_nx, endC_ret, endC_exc, raise_t, hnd_exc, hnd_nx, hnd_ret, sub_has, isi_bool_non, isi_bool_bl, isi_bool_int, isi_bool_str, isi_bool_tup, isi_bool_lst, isi_int_non, isi_int_bl, isi_int_int, isi_int_str, isi_int_tup, isi_int_lst, isi_str_non, isi_str_bl, isi_str_int, isi_str_str, isi_str_tup, isi_str_lst, isi_tuple_non, isi_tuple_bl, isi_tuple_int, isi_tuple_str, isi_tuple_tup, isi_tuple_lst, isi_list_non, isi_list_bl, isi_list_int, isi_list_str, isi_list_tup, isi_list_lst, evw_rng3, k_v, k_fz, k_mv, k_g, stpO, k_ix3, k_ix2, k_ix, k_fld2, k_fld, k_sl3, k_sl2, k_sl, k_bin2, k_bin, k_neg, bO, k_not, k_cmp2, k_cmp, k_ch4, k_ch3, k_ch2, k_ch, k_and2, k_and, k_or2, k_or, k_ite2, k_ite, k_tup, k_lst, k_ret, k_call2, k_call3, k_call, k_b1, k_b22, k_b2, k_isi, k_mm3, k_mm2, k_mm, cB, cT, cE, cW, k_comp2, k_comp, k_evs2, k_evs, k_eva2, k_eva, k_rng22, k_rng2, k_rng32, k_rng3, k_enm2, k_enm, k_zip4, k_zip3, k_zip2, k_zip, k_seqw, s_asg, s_par22, s_par2, s_aug3, s_aug2, s_aug, s_put3, s_put2, s_put, s_ex, s_ret, s_iff, s_opt, s_unl, s_hO, s_par3, s_for, ixN, liftF, bindT, bindT.bindTs, calmP, qt, isFrz, frzL, canFrz, canL, freeze, freezeL, avDs, avD, avOk, avRoots, Av.isVar, giveA, setE, getE, getS, setS, binD, slD, cmpD, b1D, b2D, trD, ixD, eqO, okEq, eqD, eqL, flat, okD, okL, dep, depL, start, behind, parOk, asgS, asgT, callN_has, G_has, f2Ok, items, walkD, walkP, unlend, sizeLine_eq, evh, evhs, putF, itmF, mmD, isLst, partD, par3F, noExc, ownOk, wipeE, backE, Pl.root, h1, h2, h3, ixN, h6, add]
theorem s_minus : run P (n + 1) fd_minus [fr a, fr b] = .ok (fr (minus a b)) [fr a, fr b] := by
  have h1 := mulOk_k ha.t hb.b hk hl
  have h2 := mulOk_k hb.t ha.b hl hk
  have h3 := mulOk_k ha.b hb.b hk hl
  have h4 : a.2 * b.2 ≠ 0 := Int.ne_of_gt (Int.mul_pos ha.p hb.p)
  have h5 : (a.2 * b.2).natAbs < 2 ^ 8000 := natAbs_lt_mono (natAbs_mul_lt ha.b hb.b) (by omega)
  have h6 := s_fraction (P := P) (n := n) (a.1 * b.2 - b.1 * a.2) (a.2 * b.2) h4 h5
  rw [run_def rfl]
  simp [fd_minus, b_minus, bind_ok, bind_exc, fl_ok, fl_exc, use_none, use_some, use_exc, tmp_ok, tru_ok, tru_exc, liftO_some, slot_0, slot_s, ev_v, ev_fz, ev_mv, ev_g, ev_int, ev_str, ev_bl, ev_non, ev_nop, ev_ix, ev_fld, ev_sl, ev_bin, ev_neg, ev_not, ev_cmp, ev_chain, ev_and, ev_or, ev_itE, ev_tup, ev_lst, ev_call, ev_b1, ev_b2, ev_isi, ev_mm, ev_comp, evs_nIl, evs_cons, eva_nil, eva_cons, evw_rng1, evw_rng2, evw_enm, evw_zip, evw_seq, then_nx, then_ret, then_brk, then_ct, then_exc, env_nx, env_ret, evS_nil, evS_cons, blk_def, evS_asg, evS_par2, evS_par3, evS_aug, evS_puT, evS_ex, evS_ret, evS_retN, evS_iff, evS_whl, evS_foR, evS_brk, evS_cont, evS_pass, evS_raise, evS_try, endC_nx, endC_ret, endC_exc, raise_t, hnd_exc, hnd_nx, hnd_ret, sub_has, isi_bool_non, isi_bool_bl, isi_bool_int, isi_bool_str, isi_bool_tup, isi_bool_lst, isi_int_non, isi_int_bl, isi_int_int, isi_int_str, isi_int_tup, isi_int_lst, isi_str_non, isi_str_bl, isi_str_int, isi_str_str, isi_str_tup, isi_str_lst, isi_tuple_non, isi_tuple_bl, isi_tuple_int, isi_tuple_str, isi_tuple_tup, isi_tuple_lst, isi_list_non, isi_list_bl, isi_list_int, isi_list_str, isi_list_tup, isi_list_lst, evw_rng3, k_v, k_fz, k_mv, k_g, stpO, k_ix3, k_ix2, k_ix, k_fld2, k_fld, k_sl3, k_sl2, k_sl, k_bin2, k_bin, k_neg, bO, k_not, k_cmp2, k_cmp, k_ch4, k_ch3, k_ch2, k_ch, k_and2, k_and, k_or2, k_or, k_ite2, k_ite, k_tup, k_lst, k_ret, k_call2, k_call3, k_call, k_b1, k_b22, k_b2, k_isi, k_mm3, k_mm2, k_mm, cB, cT, cE, cW, k_comp2, k_comp, k_evs2, k_evs, k_eva2, k_eva, k_rng22, k_rng2, k_rng32, k_rng3, k_enm2, k_enm, k_zip4, k_zip3, k_zip2, k_zip, k_seqw, s_asg, s_par22, s_par2, s_aug3, s_aug2, s_aug, s_put3, s_put2, s_put, s_ex, s_ret, s_iff, s_opt, s_unl, s_hO, s_par3, s_for, ixN, liftF, bindT, bindT.bindTs, calmP, qt, isFrz, frzL, canFrz, canL, freeze, freezeL, avDs, avD, avOk, avRoots, Av.isVar, giveA, setE, getE, getS, setS, binD, slD, cmpD, b1D, b2D, trD, ixD, eqO, okEq, eqD, eqL, flat, okD, okL, dep, depL, start, behind, parOk, asgS, asgT, callN_has, G_has, f2Ok, items, walkD, walkP, unlend, sizeLine_eq, evh, evhs, putF, itmF, mmD, isLst, partD, par3F, noExc, ownOk, wipeE, backE, Pl.root, h1, h2, h3, ixN, h6, minus]
theorem s_times : run P (n + 1) fd_times [fr a, fr b] = .ok (fr (times a b)) [fr a, fr b] := by
  have h1 := mulOk_k ha.t hb.t hk hl
  have h3 := mulOk_k ha.b hb.b hk hl
  have h4 : a.2 * b.2 ≠ 0 := Int.ne_of_gt (Int.mul_pos ha.p hb.p)
  have h5 : (a.2 * b.2).natAbs < 2 ^ 8000 := natAbs_lt_mono (natAbs_mul_lt ha.b hb.b) (by omega)
  have h6 := s_fraction (P := P) (n := n) (a.1 * b.1) (a.2 * b.2) h4 h5
  rw [run_def rfl]
  simp [fd_times, b_times, bind_ok, bind_exc, fl_ok, fl_exc, use_none, use_some, use_exc, tmp_ok, tru_ok, tru_exc, liftO_some, slot_0, slot_s, ev_v, ev_fz, ev_mv, ev_g, ev_int, ev_str, ev_bl, ev_non, ev_nop, ev_ix, ev_fld, ev_sl, ev_bin, ev_neg, ev_not, ev_cmp, ev_chain, ev_and, ev_or, ev_itE, ev_tup, ev_lst, ev_call, ev_b1, ev_b2, ev_isi, ev_mm, ev_comp, evs_nIl, evs_cons, eva_nil, eva_cons, evw_rng1, evw_rng2, evw_enm, evw_zip, evw_seq, then_nx, then_ret, then_brk, then_ct, then_exc, env_nx, env_ret, evS_nil, evS_cons, blk_def, evS_asg, evS_par2, evS_par3, evS_aug, evS_puT, evS_ex, evS_ret, evS_retN, evS_iff, evS_whl, evS_foR, evS_brk, evS_cont, evS_pass, evS_raise, evS_try, endC_nx, endC_ret, endC_exc, raise_t, hnd_exc, hnd_nx, hnd_ret, sub_has, isi_bool_non, isi_bool_bl, isi_bool_int, isi_bool_str, isi_bool_tup, isi_bool_lst, isi_int_non, isi_int_bl, isi_int_int, isi_int_str, isi_int_tup, isi_int_lst, isi_str_non, isi_str_bl, isi_str_int, isi_str_str, isi_str_tup, isi_str_lst, isi_tuple_non, isi_tuple_bl, isi_tuple_int, isi_tuple_str, isi_tuple_tup, isi_tuple_lst, isi_list_non, isi_list_bl, isi_list_int, isi_list_str, isi_list_tup, isi_list_lst, evw_rng3, k_v, k_fz, k_mv, k_g, stpO, k_ix3, k_ix2, k_ix, k_fld2, k_fld, k_sl3, k_sl2, k_sl, k_bin2, k_bin, k_neg, bO, k_not, k_cmp2, k_cmp, k_ch4, k_ch3, k_ch2, k_ch, k_and2, k_and, k_or2, k_or, k_ite2, k_ite, k_tup, k_lst, k_ret, k_call2, k_call3, k_call, k_b1, k_b22, k_b2, k_isi, k_mm3, k_mm2, k_mm, cB, cT, cE, cW, k_comp2, k_comp, k_evs2, k_evs, k_eva2, k_eva, k_rng22, k_rng2, k_rng32, k_rng3, k_enm2, k_enm, k_zip4, k_zip3, k_zip2, k_zip, k_seqw, s_asg, s_par22, s_par2, s_aug3, s_aug2, s_aug, s_put3, s_put2, s_put, s_ex, s_ret, s_iff, s_opt, s_unl, s_hO, s_par3, s_for, ixN, liftF, bindT, bindT.bindTs, calmP, qt, isFrz, frzL, canFrz, canL, freeze, freezeL, avDs, avD, avOk, avRoots, Av.isVar, giveA, setE, getE, getS, setS, binD, slD, cmpD, b1D, b2D, trD, ixD, eqO, okEq, eqD, eqL, flat, okD, okL, dep, depL, start, behind, parOk, asgS, asgT, callN_has, G_has, f2Ok, items, walkD, walkP, unlend, sizeLine_eq, evh, evhs, putF, itmF, mmD, isLst, partD, par3F, noExc, ownOk, wipeE, backE, Pl.root, h1, h3, ixN, h6, times]
theorem s_over (h0 : b.1 ≠ 0) : run P (n + 1) fd_over [fr a, fr b] = .ok (fr (over a b)) [fr a, fr b] := by
  have h1 := mulOk_k ha.t hb.b hk hl
  have h3 := mulOk_k ha.b hb.t hk hl
  have h4 : a.2 * b.1 ≠ 0 := Int.mul_ne_zero (Int.ne_of_gt ha.p) h0
  have h5 : (a.2 * b.1).natAbs < 2 ^ 8000 := natAbs_lt_mono (natAbs_mul_lt ha.b hb.t) (by omega)
  have h6 := s_fraction (P := P) (n := n) (a.1 * b.2) (a.2 * b.1) h4 h5
  rw [run_def rfl]
  simp [fd_over, b_over, bind_ok, bind_exc, fl_ok, fl_exc, use_none, use_some, use_exc, tmp_ok, tru_ok, tru_exc, liftO_some, slot_0, slot_s, ev_v, ev_fz, ev_mv, ev_g, ev_int, ev_str, ev_bl, ev_non, ev_nop, ev_ix, ev_fld, ev_sl, ev_bin, ev_neg, ev_not, ev_cmp, ev_chain, ev_and, ev_or, ev_itE, ev_tup, ev_lst, ev_call, ev_b1, ev_b2, ev_isi, ev_mm, ev_comp, evs_nIl, evs_cons, eva_nil, eva_cons, evw_rng1, evw_rng2, evw_enm, evw_zip, evw_seq, then_nx, then_ret, then_brk, then_ct, then_exc, env_nx, env_ret, evS_nil, evS_cons, blk_def, evS_asg, evS_par2, evS_par3, evS_aug, evS_puT, evS_ex, evS_ret, evS_retN, evS_iff, evS_whl, evS_foR, evS_brk, evS_cont, evS_pass, evS_raise, evS_try, endC_nx, endC_ret, endC_exc, raise_t, hnd_exc, hnd_nx, hnd_ret, sub_has, isi_bool_non, isi_bool_bl, isi_bool_int, isi_bool_str, isi_bool_tup, isi_bool_lst, isi_int_non, isi_int_bl, isi_int_int, isi_int_str, isi_int_tup, isi_int_lst, isi_str_non, isi_str_bl, isi_str_int, isi_str_str, isi_str_tup, isi_str_lst, isi_tuple_non, isi_tuple_bl, isi_tuple_int, isi_tuple_str, isi_tuple_tup, isi_tuple_lst, isi_list_non, isi_list_bl, isi_list_int, isi_list_str, isi_list_tup, isi_list_lst, evw_rng3, k_v, k_fz, k_mv, k_g, stpO, k_ix3, k_ix2, k_ix, k_fld2, k_fld, k_sl3, k_sl2, k_sl, k_bin2, k_bin, k_neg, bO, k_not, k_cmp2, k_cmp, k_ch4, k_ch3, k_ch2, k_ch, k_and2, k_and, k_or2, k_or, k_ite2, k_ite, k_tup, k_lst, k_ret, k_call2, k_call3, k_call, k_b1, k_b22, k_b2, k_isi, k_mm3, k_mm2, k_mm, cB, cT, cE, cW, k_comp2, k_comp, k_evs2, k_evs, k_eva2, k_eva, k_rng22, k_rng2, k_rng32, k_rng3, k_enm2, k_enm, k_zip4, k_zip3, k_zip2, k_zip, k_seqw, s_asg, s_par22, s_par2, s_aug3, s_aug2, s_aug, s_put3, s_put2, s_put, s_ex, s_ret, s_iff, s_opt, s_unl, s_hO, s_par3, s_for, ixN, liftF, bindT, bindT.bindTs, calmP, qt, isFrz, frzL, canFrz, canL, freeze, freezeL, avDs, avD, avOk, avRoots, Av.isVar, giveA, setE, getE, getS, setS, binD, slD, cmpD, b1D, b2D, trD, ixD, eqO, okEq, eqD, eqL, flat, okD, okL, dep, depL, start, behind, parOk, asgS, asgT, callN_has, G_has, f2Ok, items, walkD, walkP, unlend, sizeLine_eq, evh, evhs, putF, itmF, mmD, isLst, partD, par3F, noExc, ownOk, wipeE, backE, Pl.root, h1, h3, ixN, h6, over]
theorem s_over0 [HasG P (excKey "BadNumber") (.bl true)] (h0 : b.1 = 0) : run P (n + 1) fd_over [fr a, fr b] = .exc ⟨"BadNumber", []⟩ [fr a, fr b] := by
  have h1 := mulOk_k ha.t hb.b hk hl
  have h3 := mulOk_k ha.b hb.t hk hl
  have h6 := s_fraction0 (P := P) (n := n) (a.1 * b.2)
  rw [h0] at h3
  rw [run_def rfl]
  simp [fd_over, b_over, bind_ok, bind_exc, fl_ok, fl_exc, use_none, use_some, use_exc, tmp_ok, tru_ok, tru_exc, liftO_some, slot_0, slot_s, ev_v, ev_fz, ev_mv, ev_g, ev_int, ev_str, ev_bl, ev_non, ev_nop, ev_ix, ev_fld, ev_sl, ev_bin, ev_neg, ev_not, ev_cmp, ev_chain, ev_and, ev_or, ev_itE, ev_tup, ev_lst, ev_call, ev_b1, ev_b2, ev_isi, ev_mm, ev_comp, evs_nIl, evs_cons, eva_nil, eva_cons, evw_rng1, evw_rng2, evw_enm, evw_zip, evw_seq, then_nx, then_ret, then_brk, then_ct, then_exc, env_nx, env_ret, evS_nil, evS_cons, blk_def, evS_asg, evS_par2, evS_par3, evS_aug, evS_puT, evS_ex, evS_ret, evS_retN, evS_iff, evS_whl, evS_foR, evS_brk, evS_cont, evS_pass, evS_raise, evS_try, endC_nx, endC_ret, endC_exc, raise_t, hnd_exc, hnd_nx, hnd_ret, sub_has, isi_bool_non, isi_bool_bl, isi_bool_int, isi_bool_str, isi_bool_tup, isi_bool_lst, isi_int_non, isi_int_bl, isi_int_int, isi_int_str, isi_int_tup, isi_int_lst, isi_str_non, isi_str_bl, isi_str_int, isi_str_str, isi_str_tup, isi_str_lst, isi_tuple_non, isi_tuple_bl, isi_tuple_int, isi_tuple_str, isi_tuple_tup, isi_tuple_lst, isi_list_non, isi_list_bl, isi_list_int, isi_list_str, isi_list_tup, isi_list_lst, evw_rng3, k_v, k_fz, k_mv, k_g, stpO, k_ix3, k_ix2, k_ix, k_fld2, k_fld, k_sl3, k_sl2, k_sl, k_bin2, k_bin, k_neg, bO, k_not, k_cmp2, k_cmp, k_ch4, k_ch3, k_ch2, k_ch, k_and2, k_and, k_or2, k_or, k_ite2, k_ite, k_tup, k_lst, k_ret, k_call2, k_call3, k_call, k_b1, k_b22, k_b2, k_isi, k_mm3, k_mm2, k_mm, cB, cT, cE, cW, k_comp2, k_comp, k_evs2, k_evs, k_eva2, k_eva, k_rng22, k_rng2, k_rng32, k_rng3, k_enm2, k_enm, k_zip4, k_zip3, k_zip2, k_zip, k_seqw, s_asg, s_par22, s_par2, s_aug3, s_aug2, s_aug, s_put3, s_put2, s_put, s_ex, s_ret, s_iff, s_opt, s_unl, s_hO, s_par3, s_for, ixN, liftF, bindT, bindT.bindTs, calmP, qt, isFrz, frzL, canFrz, canL, freeze, freezeL, avDs, avD, avOk, avRoots, Av.isVar, giveA, setE, getE, getS, setS, binD, slD, cmpD, b1D, b2D, trD, ixD, eqO, okEq, eqD, eqL, flat, okD, okL, dep, depL, start, behind, parOk, asgS, asgT, callN_has, G_has, f2Ok, items, walkD, walkP, unlend, sizeLine_eq, evh, evhs, putF, itmF, mmD, isLst, partD, par3F, noExc, ownOk, wipeE, backE, Pl.root, h1, h3, ixN, h6, h0]
omit [HasG P "math.gcd" .non] [Has P "fraction" fd_fraction]
theorem s_less : run P n fd_less [fr a, fr b] = .ok (.bl (lt a b)) [fr a, fr b] := by
  have h1 := mulOk_k ha.t hb.b hk hl
  have h2 := mulOk_k hb.t ha.b hl hk
  rw [run_def rfl]
  simp [fd_less, b_less, bind_ok, bind_exc, fl_ok, fl_exc, use_none, use_some, use_exc, tmp_ok, tru_ok, tru_exc, liftO_some, slot_0, slot_s, ev_v, ev_fz, ev_mv, ev_g, ev_int, ev_str, ev_bl, ev_non, ev_nop, ev_ix, ev_fld, ev_sl, ev_bin, ev_neg, ev_not, ev_cmp, ev_chain, ev_and, ev_or, ev_itE, ev_tup, ev_lst, ev_call, ev_b1, ev_b2, ev_isi, ev_mm, ev_comp, evs_nIl, evs_cons, eva_nil, eva_cons, evw_rng1, evw_rng2, evw_enm, evw_zip, evw_seq, then_nx, then_ret, then_brk, then_ct, then_exc, env_nx, env_ret, evS_nil, evS_cons, blk_def, evS_asg, evS_par2, evS_par3, evS_aug, evS_puT, evS_ex, evS_ret, evS_retN, evS_iff, evS_whl, evS_foR, evS_brk, evS_cont, evS_pass, evS_raise, evS_try, endC_nx, endC_ret, endC_exc, raise_t, hnd_exc, hnd_nx, hnd_ret, sub_has, isi_bool_non, isi_bool_bl, isi_bool_int, isi_bool_str, isi_bool_tup, isi_bool_lst, isi_int_non, isi_int_bl, isi_int_int, isi_int_str, isi_int_tup, isi_int_lst, isi_str_non, isi_str_bl, isi_str_int, isi_str_str, isi_str_tup, isi_str_lst, isi_tuple_non, isi_tuple_bl, isi_tuple_int, isi_tuple_str, isi_tuple_tup, isi_tuple_lst, isi_list_non, isi_list_bl, isi_list_int, isi_list_str, isi_list_tup, isi_list_lst, evw_rng3, k_v, k_fz, k_mv, k_g, stpO, k_ix3, k_ix2, k_ix, k_fld2, k_fld, k_sl3, k_sl2, k_sl, k_bin2, k_bin, k_neg, bO, k_not, k_cmp2, k_cmp, k_ch4, k_ch3, k_ch2, k_ch, k_and2, k_and, k_or2, k_or, k_ite2, k_ite, k_tup, k_lst, k_ret, k_call2, k_call3, k_call, k_b1, k_b22, k_b2, k_isi, k_mm3, k_mm2, k_mm, cB, cT, cE, cW, k_comp2, k_comp, k_evs2, k_evs, k_eva2, k_eva, k_rng22, k_rng2, k_rng32, k_rng3, k_enm2, k_enm, k_zip4, k_zip3, k_zip2, k_zip, k_seqw, s_asg, s_par22, s_par2, s_aug3, s_aug2, s_aug, s_put3, s_put2, s_put, s_ex, s_ret, s_iff, s_opt, s_unl, s_hO, s_par3, s_for, ixN, liftF, bindT, bindT.bindTs, calmP, qt, isFrz, frzL, canFrz, canL, freeze, freezeL, avDs, avD, avOk, avRoots, Av.isVar, giveA, setE, getE, getS, setS, binD, slD, cmpD, b1D, b2D, trD, ixD, eqO, okEq, eqD, eqL, flat, okD, okL, dep, depL, start, behind, parOk, asgS, asgT, callN_has, G_has, f2Ok, items, walkD, walkP, unlend, sizeLine_eq, evh, evhs, putF, itmF, mmD, isLst, partD, par3F, noExc, ownOk, wipeE, backE, Pl.root, h1, h2, ixN, lt]
theorem s_at_most [Has P "less" fd_less] : run P (n + 1) fd_at_most [fr a, fr b] = .ok (.bl (!lt b a)) [fr a, fr b] := by
  have h1 := s_less (P := P) (n := n) hl hk hb ha
  rw [run_def rfl]
  simp [fd_at_most, b_at_most, bind_ok, bind_exc, fl_ok, fl_exc, use_none, use_some, use_exc, tmp_ok, tru_ok, tru_exc, liftO_some, slot_0, slot_s, ev_v, ev_fz, ev_mv, ev_g, ev_int, ev_str, ev_bl, ev_non, ev_nop, ev_ix, ev_fld, ev_sl, ev_bin, ev_neg, ev_not, ev_cmp, ev_chain, ev_and, ev_or, ev_itE, ev_tup, ev_lst, ev_call, ev_b1, ev_b2, ev_isi, ev_mm, ev_comp, evs_nIl, evs_cons, eva_nil, eva_cons, evw_rng1, evw_rng2, evw_enm, evw_zip, evw_seq, then_nx, then_ret, then_brk, then_ct, then_exc, env_nx, env_ret, evS_nil, evS_cons, blk_def, evS_asg, evS_par2, evS_par3, evS_aug, evS_puT, evS_ex, evS_ret, evS_retN, evS_iff, evS_whl, evS_foR, evS_brk, evS_cont, evS_pass, evS_raise, evS_try, endC_nx, endC_ret, endC_exc, raise_t, hnd_exc, hnd_nx, hnd_ret, sub_has, isi_bool_non, isi_bool_bl, isi_bool_int, isi_bool_str, isi_bool_tup, isi_bool_lst, isi_int_non, isi_int_bl, isi_int_int, isi_int_str, isi_int_tup, isi_int_lst, isi_str_non, isi_str_bl, isi_str_int, isi_str_str, isi_str_tup, isi_str_lst, isi_tuple_non, isi_tuple_bl, isi_tuple_int, isi_tuple_str, isi_tuple_tup, isi_tuple_lst, isi_list_non, isi_list_bl, isi_list_int, isi_list_str, isi_list_tup, isi_list_lst, evw_rng3, k_v, k_fz, k_mv, k_g, stpO, k_ix3, k_ix2, k_ix, k_fld2, k_fld, k_sl3, k_sl2, k_sl, k_bin2, k_bin, k_neg, bO, k_not, k_cmp2, k_cmp, k_ch4, k_ch3, k_ch2, k_ch, k_and2, k_and, k_or2, k_or, k_ite2, k_ite, k_tup, k_lst, k_ret, k_call2, k_call3, k_call, k_b1, k_b22, k_b2, k_isi, k_mm3, k_mm2, k_mm, cB, cT, cE, cW, k_comp2, k_comp, k_evs2, k_evs, k_eva2, k_eva, k_rng22, k_rng2, k_rng32, k_rng3, k_enm2, k_enm, k_zip4, k_zip3, k_zip2, k_zip, k_seqw, s_asg, s_par22, s_par2, s_aug3, s_aug2, s_aug, s_put3, s_put2, s_put, s_ex, s_ret, s_iff, s_opt, s_unl, s_hO, s_par3, s_for, ixN, liftF, bindT, bindT.bindTs, calmP, qt, isFrz, frzL, canFrz, canL, freeze, freezeL, avDs, avD, avOk, avRoots, Av.isVar, giveA, setE, getE, getS, setS, binD, slD, cmpD, b1D, b2D, trD, ixD, eqO, okEq, eqD, eqL, flat, okD, okL, dep, depL, start, behind, parOk, asgS, asgT, callN_has, G_has, f2Ok, items, walkD, walkP, unlend, sizeLine_eq, evh, evhs, putF, itmF, mmD, isLst, partD, par3F, noExc, ownOk, wipeE, backE, Pl.root, h1]
omit hl hb
theorem s_floor : run P n fd_floor [fr a] = .ok (.int (a.1 / a.2)) [fr a] := by
  have h1 : divOk a.2 := ⟨ha.p, Nat.lt_trans (log2_lt (n := 3001) (by decide) (natAbs_lt_mono ha.b (by omega))) (by decide)⟩
  rw [run_def rfl]
  simp [fd_floor, b_floor, bind_ok, bind_exc, fl_ok, fl_exc, use_none, use_some, use_exc, tmp_ok, tru_ok, tru_exc, liftO_some, slot_0, slot_s, ev_v, ev_fz, ev_mv, ev_g, ev_int, ev_str, ev_bl, ev_non, ev_nop, ev_ix, ev_fld, ev_sl, ev_bin, ev_neg, ev_not, ev_cmp, ev_chain, ev_and, ev_or, ev_itE, ev_tup, ev_lst, ev_call, ev_b1, ev_b2, ev_isi, ev_mm, ev_comp, evs_nIl, evs_cons, eva_nil, eva_cons, evw_rng1, evw_rng2, evw_enm, evw_zip, evw_seq, then_nx, then_ret, then_brk, then_ct, then_exc, env_nx, env_ret, evS_nil, evS_cons, blk_def, evS_asg, evS_par2, evS_par3, evS_aug, evS_puT, evS_ex, evS_ret, evS_retN, evS_iff, evS_whl, evS_foR, evS_brk, evS_cont, evS_pass, evS_raise, evS_try, endC_nx, endC_ret, endC_exc, raise_t, hnd_exc, hnd_nx, hnd_ret, sub_has, isi_bool_non, isi_bool_bl, isi_bool_int, isi_bool_str, isi_bool_tup, isi_bool_lst, isi_int_non, isi_int_bl, isi_int_int, isi_int_str, isi_int_tup, isi_int_lst, isi_str_non, isi_str_bl, isi_str_int, isi_str_str, isi_str_tup, isi_str_lst, isi_tuple_non, isi_tuple_bl, isi_tuple_int, isi_tuple_str, isi_tuple_tup, isi_tuple_lst, isi_list_non, isi_list_bl, isi_list_int, isi_list_str, isi_list_tup, isi_list_lst, evw_rng3, k_v, k_fz, k_mv, k_g, stpO, k_ix3, k_ix2, k_ix, k_fld2, k_fld, k_sl3, k_sl2, k_sl, k_bin2, k_bin, k_neg, bO, k_not, k_cmp2, k_cmp, k_ch4, k_ch3, k_ch2, k_ch, k_and2, k_and, k_or2, k_or, k_ite2, k_ite, k_tup, k_lst, k_ret, k_call2, k_call3, k_call, k_b1, k_b22, k_b2, k_isi, k_mm3, k_mm2, k_mm, cB, cT, cE, cW, k_comp2, k_comp, k_evs2, k_evs, k_eva2, k_eva, k_rng22, k_rng2, k_rng32, k_rng3, k_enm2, k_enm, k_zip4, k_zip3, k_zip2, k_zip, k_seqw, s_asg, s_par22, s_par2, s_aug3, s_aug2, s_aug, s_put3, s_put2, s_put, s_ex, s_ret, s_iff, s_opt, s_unl, s_hO, s_par3, s_for, ixN, liftF, bindT, bindT.bindTs, calmP, qt, isFrz, frzL, canFrz, canL, freeze, freezeL, avDs, avD, avOk, avRoots, Av.isVar, giveA, setE, getE, getS, setS, binD, slD, cmpD, b1D, b2D, trD, ixD, eqO, okEq, eqD, eqL, flat, okD, okL, dep, depL, start, behind, parOk, asgS, asgT, callN_has, G_has, f2Ok, items, walkD, walkP, unlend, sizeLine_eq, evh, evhs, putF, itmF, mmD, isLst, partD, par3F, noExc, ownOk, wipeE, backE, Pl.root, h1, ixN]
theorem s_ceiling : run P n fd_ceiling [fr a] = .ok (.int (-(-a.1 / a.2))) [fr a] := by
  have h1 : divOk a.2 := ⟨ha.p, Nat.lt_trans (log2_lt (n := 3001) (by decide) (natAbs_lt_mono ha.b (by omega))) (by decide)⟩
  rw [run_def rfl]
  simp [fd_ceiling, b_ceiling, bind_ok, bind_exc, fl_ok, fl_exc, use_none, use_some, use_exc, tmp_ok, tru_ok, tru_exc, liftO_some, slot_0, slot_s, ev_v, ev_fz, ev_mv, ev_g, ev_int, ev_str, ev_bl, ev_non, ev_nop, ev_ix, ev_fld, ev_sl, ev_bin, ev_neg, ev_not, ev_cmp, ev_chain, ev_and, ev_or, ev_itE, ev_tup, ev_lst, ev_call, ev_b1, ev_b2, ev_isi, ev_mm, ev_comp, evs_nIl, evs_cons, eva_nil, eva_cons, evw_rng1, evw_rng2, evw_enm, evw_zip, evw_seq, then_nx, then_ret, then_brk, then_ct, then_exc, env_nx, env_ret, evS_nil, evS_cons, blk_def, evS_asg, evS_par2, evS_par3, evS_aug, evS_puT, evS_ex, evS_ret, evS_retN, evS_iff, evS_whl, evS_foR, evS_brk, evS_cont, evS_pass, evS_raise, evS_try, endC_nx, endC_ret, endC_exc, raise_t, hnd_exc, hnd_nx, hnd_ret, sub_has, isi_bool_non, isi_bool_bl, isi_bool_int, isi_bool_str, isi_bool_tup, isi_bool_lst, isi_int_non, isi_int_bl, isi_int_int, isi_int_str, isi_int_tup, isi_int_lst, isi_str_non, isi_str_bl, isi_str_int, isi_str_str, isi_str_tup, isi_str_lst, isi_tuple_non, isi_tuple_bl, isi_tuple_int, isi_tuple_str, isi_tuple_tup, isi_tuple_lst, isi_list_non, isi_list_bl, isi_list_int, isi_list_str, isi_list_tup, isi_list_lst, evw_rng3, k_v, k_fz, k_mv, k_g, stpO, k_ix3, k_ix2, k_ix, k_fld2, k_fld, k_sl3, k_sl2, k_sl, k_bin2, k_bin, k_neg, bO, k_not, k_cmp2, k_cmp, k_ch4, k_ch3, k_ch2, k_ch, k_and2, k_and, k_or2, k_or, k_ite2, k_ite, k_tup, k_lst, k_ret, k_call2, k_call3, k_call, k_b1, k_b22, k_b2, k_isi, k_mm3, k_mm2, k_mm, cB, cT, cE, cW, k_comp2, k_comp, k_evs2, k_evs, k_eva2, k_eva, k_rng22, k_rng2, k_rng32, k_rng3, k_enm2, k_enm, k_zip4, k_zip3, k_zip2, k_zip, k_seqw, s_asg, s_par22, s_par2, s_aug3, s_aug2, s_aug, s_put3, s_put2, s_put, s_ex, s_ret, s_iff, s_opt, s_unl, s_hO, s_par3, s_for, ixN, liftF, bindT, bindT.bindTs, calmP, qt, isFrz, frzL, canFrz, canL, freeze, freezeL, avDs, avD, avOk, avRoots, Av.isVar, giveA, setE, getE, getS, setS, binD, slD, cmpD, b1D, b2D, trD, ixD, eqO, okEq, eqD, eqL, flat, okD, okL, dep, depL, start, behind, parOk, asgS, asgT, callN_has, G_has, f2Ok, items, walkD, walkP, unlend, sizeLine_eq, evh, evhs, putF, itmF, mmD, isLst, partD, par3F, noExc, ownOk, wipeE, backE, Pl.root, h1, ixN]
end
def txt (a : Int × Int) : Str := if a.2 = 1 then toString a.1 else (toString a.1 : Str) ++ "/" ++ (toString a.2 : Str)
end Ev.Fr

/-! FrB: the law's own fractions, its tape. -/
namespace Ev.Fr
open PySem PySem.Spec PyProof.Rows L2
variable {P : Prg} {n : Nat}
theorem Q.d {k : Nat} {a : Int × Int} (h : Q k a) (hk : k ≤ 3000) : divOk a.2 := ⟨h.p, Nat.lt_trans (log2_lt (n := 3001) (by decide) (natAbs_lt_mono h.b (by omega))) (by decide)⟩
theorem str_app (x y : Str) : (x ++ y).length = x.length + y.length := strLen_append x y
/-- a short text of an int -/
theorem nat_len {m : Nat} (h : m.log2 < 1920) : m.repr.length ≤ 1920 := by
  refine (Nat.length_repr_le_iff (by decide)).mpr (Nat.lt_of_lt_of_le (m := 2 ^ 1920) ?_ (Nat.pow_le_pow_left (by decide) _))
  rcases Nat.eq_zero_or_pos m with rfl | h0
  · exact Nat.pow_pos (by decide)
  · exact (Nat.log2_lt (Nat.ne_of_gt h0)).mp h
theorem str_int_len {i : Int} (h : i.natAbs.log2 < 1920) : (Str.ofString i.repr).length ≤ 2000 := by
  rw [PySem.ofString_length, Int.repr_eq_if]
  split
  · have : i.toNat = i.natAbs := by omega
    rw [this]
    exact Nat.le_trans (nat_len h) (by decide)
  · have : (-i).toNat = i.natAbs := by omega
    rw [this, String.length_append]
    have := nat_len h
    have h2 : "-".length = 1 := by decide
    omega
theorem s_text {k : Nat} {a : Int × Int} (hk : k ≤ 1900) (h0 : 0 < k) (ha : Q k a) : run P n fd_fraction_text [fr a] = .ok (.str (txt a)) [fr a] := by
  have h1 : a.1.natAbs.log2 < 1920 := by have := log2_lt h0 ha.t; omega
  have h2 : a.2.natAbs.log2 < 1920 := by have := log2_lt h0 ha.b; omega
  have h3 := str_int_len h1
  have h4 := str_int_len h2
  rw [run_def rfl]
  by_cases h : a.2 = 1
  · simp [fd_fraction_text, b_fraction_text, bind_ok, bind_exc, fl_ok, fl_exc, use_none, use_some, use_exc, tmp_ok, tru_ok, tru_exc, liftO_some, slot_0, slot_s, ev_v, ev_fz, ev_mv, ev_g, ev_int, ev_str, ev_bl, ev_non, ev_nop, ev_ix, ev_fld, ev_sl, ev_bin, ev_neg, ev_not, ev_cmp, ev_chain, ev_and, ev_or, ev_itE, ev_tup, ev_lst, ev_call, ev_b1, ev_b2, ev_isi, ev_mm, ev_comp, evs_nIl, evs_cons, eva_nil, eva_cons, evw_rng1, evw_rng2, evw_enm, evw_zip, evw_seq, then_nx, then_ret, then_brk, then_ct, then_exc, env_nx, env_ret, evS_nil, evS_cons, blk_def, evS_asg, evS_par2, evS_par3, evS_aug, evS_puT, evS_ex, evS_ret, evS_retN, evS_iff, evS_whl, evS_foR, evS_brk, evS_cont, evS_pass, evS_raise, evS_try, endC_nx, endC_ret, endC_exc, raise_t, hnd_exc, hnd_nx, hnd_ret, sub_has, isi_bool_non, isi_bool_bl, isi_bool_int, isi_bool_str, isi_bool_tup, isi_bool_lst, isi_int_non, isi_int_bl, isi_int_int, isi_int_str, isi_int_tup, isi_int_lst, isi_str_non, isi_str_bl, isi_str_int, isi_str_str, isi_str_tup, isi_str_lst, isi_tuple_non, isi_tuple_bl, isi_tuple_int, isi_tuple_str, isi_tuple_tup, isi_tuple_lst, isi_list_non, isi_list_bl, isi_list_int, isi_list_str, isi_list_tup, isi_list_lst, evw_rng3, k_v, k_fz, k_mv, k_g, stpO, k_ix3, k_ix2, k_ix, k_fld2, k_fld, k_sl3, k_sl2, k_sl, k_bin2, k_bin, k_neg, bO, k_not, k_cmp2, k_cmp, k_ch4, k_ch3, k_ch2, k_ch, k_and2, k_and, k_or2, k_or, k_ite2, k_ite, k_tup, k_lst, k_ret, k_call2, k_call3, k_call, k_b1, k_b22, k_b2, k_isi, k_mm3, k_mm2, k_mm, cB, cT, cE, cW, k_comp2, k_comp, k_evs2, k_evs, k_eva2, k_eva, k_rng22, k_rng2, k_rng32, k_rng3, k_enm2, k_enm, k_zip4, k_zip3, k_zip2, k_zip, k_seqw, s_asg, s_par22, s_par2, s_aug3, s_aug2, s_aug, s_put3, s_put2, s_put, s_ex, s_ret, s_iff, s_opt, s_unl, s_hO, s_par3, s_for, ixN, liftF, bindT, bindT.bindTs, calmP, qt, isFrz, frzL, canFrz, canL, freeze, freezeL, avDs, avD, avOk, avRoots, Av.isVar, giveA, setE, getE, getS, setS, binD, slD, cmpD, b1D, b2D, trD, ixD, eqO, okEq, eqD, eqL, flat, okD, okL, dep, depL, start, behind, parOk, asgS, asgT, callN_has, G_has, f2Ok, items, walkD, walkP, unlend, sizeLine_eq, evh, evhs, putF, itmF, mmD, isLst, partD, par3F, noExc, ownOk, wipeE, backE, Pl.root, ixN, h1, h, txt]
  · simp [fd_fraction_text, b_fraction_text, bind_ok, bind_exc, fl_ok, fl_exc, use_none, use_some, use_exc, tmp_ok, tru_ok, tru_exc, liftO_some, slot_0, slot_s, ev_v, ev_fz, ev_mv, ev_g, ev_int, ev_str, ev_bl, ev_non, ev_nop, ev_ix, ev_fld, ev_sl, ev_bin, ev_neg, ev_not, ev_cmp, ev_chain, ev_and, ev_or, ev_itE, ev_tup, ev_lst, ev_call, ev_b1, ev_b2, ev_isi, ev_mm, ev_comp, evs_nIl, evs_cons, eva_nil, eva_cons, evw_rng1, evw_rng2, evw_enm, evw_zip, evw_seq, then_nx, then_ret, then_brk, then_ct, then_exc, env_nx, env_ret, evS_nil, evS_cons, blk_def, evS_asg, evS_par2, evS_par3, evS_aug, evS_puT, evS_ex, evS_ret, evS_retN, evS_iff, evS_whl, evS_foR, evS_brk, evS_cont, evS_pass, evS_raise, evS_try, endC_nx, endC_ret, endC_exc, raise_t, hnd_exc, hnd_nx, hnd_ret, sub_has, isi_bool_non, isi_bool_bl, isi_bool_int, isi_bool_str, isi_bool_tup, isi_bool_lst, isi_int_non, isi_int_bl, isi_int_int, isi_int_str, isi_int_tup, isi_int_lst, isi_str_non, isi_str_bl, isi_str_int, isi_str_str, isi_str_tup, isi_str_lst, isi_tuple_non, isi_tuple_bl, isi_tuple_int, isi_tuple_str, isi_tuple_tup, isi_tuple_lst, isi_list_non, isi_list_bl, isi_list_int, isi_list_str, isi_list_tup, isi_list_lst, evw_rng3, k_v, k_fz, k_mv, k_g, stpO, k_ix3, k_ix2, k_ix, k_fld2, k_fld, k_sl3, k_sl2, k_sl, k_bin2, k_bin, k_neg, bO, k_not, k_cmp2, k_cmp, k_ch4, k_ch3, k_ch2, k_ch, k_and2, k_and, k_or2, k_or, k_ite2, k_ite, k_tup, k_lst, k_ret, k_call2, k_call3, k_call, k_b1, k_b22, k_b2, k_isi, k_mm3, k_mm2, k_mm, cB, cT, cE, cW, k_comp2, k_comp, k_evs2, k_evs, k_eva2, k_eva, k_rng22, k_rng2, k_rng32, k_rng3, k_enm2, k_enm, k_zip4, k_zip3, k_zip2, k_zip, k_seqw, s_asg, s_par22, s_par2, s_aug3, s_aug2, s_aug, s_put3, s_put2, s_put, s_ex, s_ret, s_iff, s_opt, s_unl, s_hO, s_par3, s_for, ixN, liftF, bindT, bindT.bindTs, calmP, qt, isFrz, frzL, canFrz, canL, freeze, freezeL, avDs, avD, avOk, avRoots, Av.isVar, giveA, setE, getE, getS, setS, binD, slD, cmpD, b1D, b2D, trD, ixD, eqO, okEq, eqD, eqL, flat, okD, okL, dep, depL, start, behind, parOk, asgS, asgT, callN_has, G_has, f2Ok, items, walkD, walkP, unlend, sizeLine_eq, evh, evhs, putF, itmF, mmD, isLst, partD, par3F, noExc, ownOk, wipeE, backE, Pl.root, ixN, h1, h2, h, txt, str_app]
    have h5 : ("/" : Str).length = 1 := by decide
    rw [if_pos (by omega)]
    simp [bind_ok, bind_exc, fl_ok, fl_exc, use_none, use_some, use_exc, tmp_ok, tru_ok, tru_exc, liftO_some, slot_0, slot_s, ev_v, ev_fz, ev_mv, ev_g, ev_int, ev_str, ev_bl, ev_non, ev_nop, ev_ix, ev_fld, ev_sl, ev_bin, ev_neg, ev_not, ev_cmp, ev_chain, ev_and, ev_or, ev_itE, ev_tup, ev_lst, ev_call, ev_b1, ev_b2, ev_isi, ev_mm, ev_comp, evs_nIl, evs_cons, eva_nil, eva_cons, evw_rng1, evw_rng2, evw_enm, evw_zip, evw_seq, then_nx, then_ret, then_brk, then_ct, then_exc, env_nx, env_ret, evS_nil, evS_cons, blk_def, evS_asg, evS_par2, evS_par3, evS_aug, evS_puT, evS_ex, evS_ret, evS_retN, evS_iff, evS_whl, evS_foR, evS_brk, evS_cont, evS_pass, evS_raise, evS_try, endC_nx, endC_ret, endC_exc, raise_t, hnd_exc, hnd_nx, hnd_ret, sub_has, isi_bool_non, isi_bool_bl, isi_bool_int, isi_bool_str, isi_bool_tup, isi_bool_lst, isi_int_non, isi_int_bl, isi_int_int, isi_int_str, isi_int_tup, isi_int_lst, isi_str_non, isi_str_bl, isi_str_int, isi_str_str, isi_str_tup, isi_str_lst, isi_tuple_non, isi_tuple_bl, isi_tuple_int, isi_tuple_str, isi_tuple_tup, isi_tuple_lst, isi_list_non, isi_list_bl, isi_list_int, isi_list_str, isi_list_tup, isi_list_lst, evw_rng3, k_v, k_fz, k_mv, k_g, stpO, k_ix3, k_ix2, k_ix, k_fld2, k_fld, k_sl3, k_sl2, k_sl, k_bin2, k_bin, k_neg, bO, k_not, k_cmp2, k_cmp, k_ch4, k_ch3, k_ch2, k_ch, k_and2, k_and, k_or2, k_or, k_ite2, k_ite, k_tup, k_lst, k_ret, k_call2, k_call3, k_call, k_b1, k_b22, k_b2, k_isi, k_mm3, k_mm2, k_mm, cB, cT, cE, cW, k_comp2, k_comp, k_evs2, k_evs, k_eva2, k_eva, k_rng22, k_rng2, k_rng32, k_rng3, k_enm2, k_enm, k_zip4, k_zip3, k_zip2, k_zip, k_seqw, s_asg, s_par22, s_par2, s_aug3, s_aug2, s_aug, s_put3, s_put2, s_put, s_ex, s_ret, s_iff, s_opt, s_unl, s_hO, s_par3, s_for, ixN, liftF, bindT, bindT.bindTs, calmP, qt, isFrz, frzL, canFrz, canL, freeze, freezeL, avDs, avD, avOk, avRoots, Av.isVar, giveA, setE, getE, getS, setS, binD, slD, cmpD, b1D, b2D, trD, ixD, eqO, okEq, eqD, eqL, flat, okD, okL, dep, depL, start, behind, parOk, asgS, asgT, callN_has, G_has, f2Ok, items, walkD, walkP, unlend, sizeLine_eq, evh, evhs, putF, itmF, mmD, isLst, partD, par3F, noExc, ownOk, wipeE, backE, Pl.root, h2]
    rw [if_pos (by rw [str_app]; omega)]
    simp [bind_ok, bind_exc, fl_ok, fl_exc, use_none, use_some, use_exc, tmp_ok, tru_ok, tru_exc, liftO_some, slot_0, slot_s, ev_v, ev_fz, ev_mv, ev_g, ev_int, ev_str, ev_bl, ev_non, ev_nop, ev_ix, ev_fld, ev_sl, ev_bin, ev_neg, ev_not, ev_cmp, ev_chain, ev_and, ev_or, ev_itE, ev_tup, ev_lst, ev_call, ev_b1, ev_b2, ev_isi, ev_mm, ev_comp, evs_nIl, evs_cons, eva_nil, eva_cons, evw_rng1, evw_rng2, evw_enm, evw_zip, evw_seq, then_nx, then_ret, then_brk, then_ct, then_exc, env_nx, env_ret, evS_nil, evS_cons, blk_def, evS_asg, evS_par2, evS_par3, evS_aug, evS_puT, evS_ex, evS_ret, evS_retN, evS_iff, evS_whl, evS_foR, evS_brk, evS_cont, evS_pass, evS_raise, evS_try, endC_nx, endC_ret, endC_exc, raise_t, hnd_exc, hnd_nx, hnd_ret, sub_has, isi_bool_non, isi_bool_bl, isi_bool_int, isi_bool_str, isi_bool_tup, isi_bool_lst, isi_int_non, isi_int_bl, isi_int_int, isi_int_str, isi_int_tup, isi_int_lst, isi_str_non, isi_str_bl, isi_str_int, isi_str_str, isi_str_tup, isi_str_lst, isi_tuple_non, isi_tuple_bl, isi_tuple_int, isi_tuple_str, isi_tuple_tup, isi_tuple_lst, isi_list_non, isi_list_bl, isi_list_int, isi_list_str, isi_list_tup, isi_list_lst, evw_rng3, k_v, k_fz, k_mv, k_g, stpO, k_ix3, k_ix2, k_ix, k_fld2, k_fld, k_sl3, k_sl2, k_sl, k_bin2, k_bin, k_neg, bO, k_not, k_cmp2, k_cmp, k_ch4, k_ch3, k_ch2, k_ch, k_and2, k_and, k_or2, k_or, k_ite2, k_ite, k_tup, k_lst, k_ret, k_call2, k_call3, k_call, k_b1, k_b22, k_b2, k_isi, k_mm3, k_mm2, k_mm, cB, cT, cE, cW, k_comp2, k_comp, k_evs2, k_evs, k_eva2, k_eva, k_rng22, k_rng2, k_rng32, k_rng3, k_enm2, k_enm, k_zip4, k_zip3, k_zip2, k_zip, k_seqw, s_asg, s_par22, s_par2, s_aug3, s_aug2, s_aug, s_put3, s_put2, s_put, s_ex, s_ret, s_iff, s_opt, s_unl, s_hO, s_par3, s_for, ixN, liftF, bindT, bindT.bindTs, calmP, qt, isFrz, frzL, canFrz, canL, freeze, freezeL, avDs, avD, avOk, avRoots, Av.isVar, giveA, setE, getE, getS, setS, binD, slD, cmpD, b1D, b2D, trD, ixD, eqO, okEq, eqD, eqL, flat, okD, okL, dep, depL, start, behind, parOk, asgS, asgT, callN_has, G_has, f2Ok, items, walkD, walkP, unlend, sizeLine_eq, evh, evhs, putF, itmF, mmD, isLst, partD, par3F, noExc, ownOk, wipeE, backE, Pl.root]
theorem s_mod {i j : Int} {k : Nat} (hk : k ≤ 3000) (hi : i.natAbs < 2 ^ k) (hj : j.natAbs < 2 ^ k) (h0 : 0 < j) (hp : 0 ≤ i) : run P n fd__law_mod [.int i, .int j] = .ok (.int (i % j)) [.int i, .int j] := by
  have h1 : divOk j := ⟨h0, Nat.lt_trans (log2_lt (n := 3001) (by decide) (natAbs_lt_mono hj (by omega))) (by decide)⟩
  have h2 : mulOk (i / j) j := by
    refine mulOk_k (k := k) ?_ hj hk hk
    have h3 : 0 ≤ i / j := Int.ediv_nonneg hp (by omega)
    have h4 : i / j ≤ i := Int.ediv_le_self _ hp
    omega
  have h3 : i - i / j * j = i % j := by
    have := Int.emod_add_mul_ediv i j
    rw [Int.mul_comm (i / j) j]
    omega
  rw [run_def rfl]
  simp [fd__law_mod, b__law_mod, bind_ok, bind_exc, fl_ok, fl_exc, use_none, use_some, use_exc, tmp_ok, tru_ok, tru_exc, liftO_some, slot_0, slot_s, ev_v, ev_fz, ev_mv, ev_g, ev_int, ev_str, ev_bl, ev_non, ev_nop, ev_ix, ev_fld, ev_sl, ev_bin, ev_neg, ev_not, ev_cmp, ev_chain, ev_and, ev_or, ev_itE, ev_tup, ev_lst, ev_call, ev_b1, ev_b2, ev_isi, ev_mm, ev_comp, evs_nIl, evs_cons, eva_nil, eva_cons, evw_rng1, evw_rng2, evw_enm, evw_zip, evw_seq, then_nx, then_ret, then_brk, then_ct, then_exc, env_nx, env_ret, evS_nil, evS_cons, blk_def, evS_asg, evS_par2, evS_par3, evS_aug, evS_puT, evS_ex, evS_ret, evS_retN, evS_iff, evS_whl, evS_foR, evS_brk, evS_cont, evS_pass, evS_raise, evS_try, endC_nx, endC_ret, endC_exc, raise_t, hnd_exc, hnd_nx, hnd_ret, sub_has, isi_bool_non, isi_bool_bl, isi_bool_int, isi_bool_str, isi_bool_tup, isi_bool_lst, isi_int_non, isi_int_bl, isi_int_int, isi_int_str, isi_int_tup, isi_int_lst, isi_str_non, isi_str_bl, isi_str_int, isi_str_str, isi_str_tup, isi_str_lst, isi_tuple_non, isi_tuple_bl, isi_tuple_int, isi_tuple_str, isi_tuple_tup, isi_tuple_lst, isi_list_non, isi_list_bl, isi_list_int, isi_list_str, isi_list_tup, isi_list_lst, evw_rng3, k_v, k_fz, k_mv, k_g, stpO, k_ix3, k_ix2, k_ix, k_fld2, k_fld, k_sl3, k_sl2, k_sl, k_bin2, k_bin, k_neg, bO, k_not, k_cmp2, k_cmp, k_ch4, k_ch3, k_ch2, k_ch, k_and2, k_and, k_or2, k_or, k_ite2, k_ite, k_tup, k_lst, k_ret, k_call2, k_call3, k_call, k_b1, k_b22, k_b2, k_isi, k_mm3, k_mm2, k_mm, cB, cT, cE, cW, k_comp2, k_comp, k_evs2, k_evs, k_eva2, k_eva, k_rng22, k_rng2, k_rng32, k_rng3, k_enm2, k_enm, k_zip4, k_zip3, k_zip2, k_zip, k_seqw, s_asg, s_par22, s_par2, s_aug3, s_aug2, s_aug, s_put3, s_put2, s_put, s_ex, s_ret, s_iff, s_opt, s_unl, s_hO, s_par3, s_for, ixN, liftF, bindT, bindT.bindTs, calmP, qt, isFrz, frzL, canFrz, canL, freeze, freezeL, avDs, avD, avOk, avRoots, Av.isVar, giveA, setE, getE, getS, setS, binD, slD, cmpD, b1D, b2D, trD, ixD, eqO, okEq, eqD, eqL, flat, okD, okL, dep, depL, start, behind, parOk, asgS, asgT, callN_has, G_has, f2Ok, items, walkD, walkP, unlend, sizeLine_eq, evh, evhs, putF, itmF, mmD, isLst, partD, par3F, noExc, ownOk, wipeE, backE, Pl.root, h1, h2, h3]
/-! ### Euclid -/
def eu1 (s : Nat × Nat) : Nat × Nat := if s.2 = 0 then s else (s.2, s.1 % s.2)
def eu : Nat → Nat × Nat → Nat × Nat
  | 0, s => s
  | k + 1, s => eu k (eu1 s)
theorem eu_zero (a : Nat) : ∀ k, eu k (a, 0) = (a, 0)
  | 0 => rfl
  | k + 1 => eu_zero a k
theorem eu_gcd : ∀ (k a b : Nat), b < 2 ^ k → eu (2 * k) (a, b) = (Nat.gcd a b, 0)
  | 0, a, b, h => by
    have : b = 0 := by simp at h; exact h
    subst this
    simp [eu]
  | k + 1, a, b, h => by
    show eu (2 * k) (eu1 (eu1 (a, b))) = _
    by_cases hb : b = 0
    · subst hb
      simp [eu1, eu_zero]
    · have e1 : eu1 (a, b) = (b, a % b) := by simp [eu1, hb]
      have g1 : Nat.gcd a b = Nat.gcd b (a % b) := by rw [Nat.gcd_comm a b, Nat.gcd_rec b a, Nat.gcd_comm]
      rw [e1, g1]
      by_cases hr : a % b = 0
      · rw [hr]
        simp [eu1, eu_zero]
      · have e2 : eu1 (b, a % b) = (a % b, b % (a % b)) := by simp [eu1, hr]
        have g2 : Nat.gcd b (a % b) = Nat.gcd (a % b) (b % (a % b)) := by rw [Nat.gcd_comm b, Nat.gcd_rec (a % b) b, Nat.gcd_comm]
        rw [e2, g2]
        refine eu_gcd k _ _ ?_
        have l1 : a % b < b := Nat.mod_lt _ (by omega)
        have l2 : b % (a % b) < a % b := Nat.mod_lt _ (by omega)
        have l3 : b % (a % b) + (a % b) * (b / (a % b)) = b := Nat.mod_add_div _ _
        have l4 : 1 ≤ b / (a % b) := (Nat.one_le_div_iff (by omega)).mpr (by omega)
        have l5 : (a % b) * 1 ≤ (a % b) * (b / (a % b)) := Nat.mul_le_mul_left _ l4
        rw [Nat.pow_succ] at h
        omega
theorem foldl_eu {α : Type} : ∀ (xs : List α) (s : Nat × Nat), xs.foldl (fun s _ => eu1 s) s = eu xs.length s
  | [], _ => rfl
  | _ :: r, s => foldl_eu r (eu1 s)
def gstep (P : Prg) (n : Nat) : D → Env → Fl := s_step (callN P (n + 1)) P.G P.isSub nWhile (.v 2) (.cons (.iff (.cmp .ne (.v 1) (.int 0)) (.cons (.par2 0 1 (.fz (.v 1)) (.call "_law_mod" (.cons (.v 0) (.cons (.v 1) .nil)))) .nil) .nil) .nil)
theorem g_step [Has P "_law_mod" fd__law_mod] {a b : Nat} {o : Option D} {d : D} (h1 : a < 2 ^ 3000) (h2 : b < 2 ^ 100) :
    gstep P n d [some (.int a), some (.int b), o] = .nx [some (.int (eu1 (a, b)).1), some (.int (eu1 (a, b)).2), some d] := by
  by_cases hb : b = 0
  · subst hb
    simp [gstep, s_step, s_opt, bind_ok, bind_exc, fl_ok, fl_exc, use_none, use_some, use_exc, tmp_ok, tru_ok, tru_exc, liftO_some, slot_0, slot_s, ev_v, ev_fz, ev_mv, ev_g, ev_int, ev_str, ev_bl, ev_non, ev_nop, ev_ix, ev_fld, ev_sl, ev_bin, ev_neg, ev_not, ev_cmp, ev_chain, ev_and, ev_or, ev_itE, ev_tup, ev_lst, ev_call, ev_b1, ev_b2, ev_isi, ev_mm, ev_comp, evs_nIl, evs_cons, eva_nil, eva_cons, evw_rng1, evw_rng2, evw_enm, evw_zip, evw_seq, then_nx, then_ret, then_brk, then_ct, then_exc, env_nx, env_ret, evS_nil, evS_cons, blk_def, evS_asg, evS_par2, evS_par3, evS_aug, evS_puT, evS_ex, evS_ret, evS_retN, evS_iff, evS_whl, evS_foR, evS_brk, evS_cont, evS_pass, evS_raise, evS_try, endC_nx, endC_ret, endC_exc, raise_t, hnd_exc, hnd_nx, hnd_ret, sub_has, isi_bool_non, isi_bool_bl, isi_bool_int, isi_bool_str, isi_bool_tup, isi_bool_lst, isi_int_non, isi_int_bl, isi_int_int, isi_int_str, isi_int_tup, isi_int_lst, isi_str_non, isi_str_bl, isi_str_int, isi_str_str, isi_str_tup, isi_str_lst, isi_tuple_non, isi_tuple_bl, isi_tuple_int, isi_tuple_str, isi_tuple_tup, isi_tuple_lst, isi_list_non, isi_list_bl, isi_list_int, isi_list_str, isi_list_tup, isi_list_lst, evw_rng3, k_v, k_fz, k_mv, k_g, stpO, k_ix3, k_ix2, k_ix, k_fld2, k_fld, k_sl3, k_sl2, k_sl, k_bin2, k_bin, k_neg, bO, k_not, k_cmp2, k_cmp, k_ch4, k_ch3, k_ch2, k_ch, k_and2, k_and, k_or2, k_or, k_ite2, k_ite, k_tup, k_lst, k_ret, k_call2, k_call3, k_call, k_b1, k_b22, k_b2, k_isi, k_mm3, k_mm2, k_mm, cB, cT, cE, cW, k_comp2, k_comp, k_evs2, k_evs, k_eva2, k_eva, k_rng22, k_rng2, k_rng32, k_rng3, k_enm2, k_enm, k_zip4, k_zip3, k_zip2, k_zip, k_seqw, s_asg, s_par22, s_par2, s_aug3, s_aug2, s_aug, s_put3, s_put2, s_put, s_ex, s_ret, s_iff, s_opt, s_unl, s_hO, s_par3, s_for, ixN, liftF, bindT, bindT.bindTs, calmP, qt, isFrz, frzL, canFrz, canL, freeze, freezeL, avDs, avD, avOk, avRoots, Av.isVar, giveA, setE, getE, getS, setS, binD, slD, cmpD, b1D, b2D, trD, ixD, eqO, okEq, eqD, eqL, flat, okD, okL, dep, depL, start, behind, parOk, asgS, asgT, callN_has, G_has, f2Ok, items, walkD, walkP, unlend, sizeLine_eq, evh, evhs, putF, itmF, mmD, isLst, partD, par3F, noExc, ownOk, wipeE, backE, Pl.root, eu1]
  · have hm := s_mod (P := P) (n := n) (i := a) (j := b) (k := 3000) (Nat.le_refl _) (by simpa using h1) (natAbs_lt_mono (k := 100) (by simpa using h2) (by decide)) (by omega) (by omega)
    simp [gstep, s_step, s_opt, bind_ok, bind_exc, fl_ok, fl_exc, use_none, use_some, use_exc, tmp_ok, tru_ok, tru_exc, liftO_some, slot_0, slot_s, ev_v, ev_fz, ev_mv, ev_g, ev_int, ev_str, ev_bl, ev_non, ev_nop, ev_ix, ev_fld, ev_sl, ev_bin, ev_neg, ev_not, ev_cmp, ev_chain, ev_and, ev_or, ev_itE, ev_tup, ev_lst, ev_call, ev_b1, ev_b2, ev_isi, ev_mm, ev_comp, evs_nIl, evs_cons, eva_nil, eva_cons, evw_rng1, evw_rng2, evw_enm, evw_zip, evw_seq, then_nx, then_ret, then_brk, then_ct, then_exc, env_nx, env_ret, evS_nil, evS_cons, blk_def, evS_asg, evS_par2, evS_par3, evS_aug, evS_puT, evS_ex, evS_ret, evS_retN, evS_iff, evS_whl, evS_foR, evS_brk, evS_cont, evS_pass, evS_raise, evS_try, endC_nx, endC_ret, endC_exc, raise_t, hnd_exc, hnd_nx, hnd_ret, sub_has, isi_bool_non, isi_bool_bl, isi_bool_int, isi_bool_str, isi_bool_tup, isi_bool_lst, isi_int_non, isi_int_bl, isi_int_int, isi_int_str, isi_int_tup, isi_int_lst, isi_str_non, isi_str_bl, isi_str_int, isi_str_str, isi_str_tup, isi_str_lst, isi_tuple_non, isi_tuple_bl, isi_tuple_int, isi_tuple_str, isi_tuple_tup, isi_tuple_lst, isi_list_non, isi_list_bl, isi_list_int, isi_list_str, isi_list_tup, isi_list_lst, evw_rng3, k_v, k_fz, k_mv, k_g, stpO, k_ix3, k_ix2, k_ix, k_fld2, k_fld, k_sl3, k_sl2, k_sl, k_bin2, k_bin, k_neg, bO, k_not, k_cmp2, k_cmp, k_ch4, k_ch3, k_ch2, k_ch, k_and2, k_and, k_or2, k_or, k_ite2, k_ite, k_tup, k_lst, k_ret, k_call2, k_call3, k_call, k_b1, k_b22, k_b2, k_isi, k_mm3, k_mm2, k_mm, cB, cT, cE, cW, k_comp2, k_comp, k_evs2, k_evs, k_eva2, k_eva, k_rng22, k_rng2, k_rng32, k_rng3, k_enm2, k_enm, k_zip4, k_zip3, k_zip2, k_zip, k_seqw, s_asg, s_par22, s_par2, s_aug3, s_aug2, s_aug, s_put3, s_put2, s_put, s_ex, s_ret, s_iff, s_opt, s_unl, s_hO, s_par3, s_for, ixN, liftF, bindT, bindT.bindTs, calmP, qt, isFrz, frzL, canFrz, canL, freeze, freezeL, avDs, avD, avOk, avRoots, Av.isVar, giveA, setE, getE, getS, setS, binD, slD, cmpD, b1D, b2D, trD, ixD, eqO, okEq, eqD, eqL, flat, okD, okL, dep, depL, start, behind, parOk, asgS, asgT, callN_has, G_has, f2Ok, items, walkD, walkP, unlend, sizeLine_eq, evh, evhs, putF, itmF, mmD, isLst, partD, par3F, noExc, ownOk, wipeE, backE, Pl.root, eu1, hb, hm]
theorem g_loop [Has P "_law_mod" fd__law_mod] : ∀ (ds : List D) (a b : Nat) (o : Option D), a < 2 ^ 3000 → b < 2 ^ 100 →
    ∃ o', forL (gstep P n) ds [some (.int a), some (.int b), o] = .nx [some (.int (eu ds.length (a, b)).1), some (.int (eu ds.length (a, b)).2), o']
  | [], a, b, o, _, _ => ⟨o, rfl⟩
  | d :: r, a, b, o, h1, h2 => by
    have hs := g_step (P := P) (n := n) (o := o) (d := d) h1 h2
    have h3 : (eu1 (a, b)).1 < 2 ^ 3000 ∧ (eu1 (a, b)).2 < 2 ^ 100 := by
      by_cases hb : b = 0
      · simp only [eu1, hb, if_true]; exact ⟨h1, Nat.pow_pos (by decide)⟩
      · simp only [eu1, hb, if_false]
        exact ⟨Nat.lt_of_lt_of_le h2 (pow_le_pow (by decide)), Nat.lt_trans (Nat.mod_lt _ (by omega)) h2⟩
    obtain ⟨o', e⟩ := g_loop r (eu1 (a, b)).1 (eu1 (a, b)).2 (some d) h3.1 h3.2
    refine ⟨o', ?_⟩
    simp only [forL, hs]
    exact e
theorem s_gcd [Has P "_law_mod" fd__law_mod] {a b : Nat} (ha : a < 2 ^ 3000) (hb : b < 2 ^ 100) :
    run P (n + 1) fd__law_gcd [.int a, .int b] = .ok (.int (Nat.gcd a b : Nat)) [.int a, .int b] := by
  obtain ⟨o', e⟩ := g_loop (P := P) (n := n) (rangeI 0 1 200) a b none ha hb
  rw [show (rangeI 0 1 200).length = 2 * 100 from by simp [rangeI], eu_gcd 100 a b hb] at e
  rw [run_def rfl]
  simp [fd__law_gcd, b__law_gcd, bind_ok, bind_exc, fl_ok, fl_exc, use_none, use_some, use_exc, tmp_ok, tru_ok, tru_exc, liftO_some, slot_0, slot_s, ev_v, ev_fz, ev_mv, ev_g, ev_int, ev_str, ev_bl, ev_non, ev_nop, ev_ix, ev_fld, ev_sl, ev_bin, ev_neg, ev_not, ev_cmp, ev_chain, ev_and, ev_or, ev_itE, ev_tup, ev_lst, ev_call, ev_b1, ev_b2, ev_isi, ev_mm, ev_comp, evs_nIl, evs_cons, eva_nil, eva_cons, evw_rng1, evw_rng2, evw_enm, evw_zip, evw_seq, then_nx, then_ret, then_brk, then_ct, then_exc, env_nx, env_ret, evS_nil, evS_cons, blk_def, evS_asg, evS_par2, evS_par3, evS_aug, evS_puT, evS_ex, evS_ret, evS_retN, evS_iff, evS_whl, evS_foR, evS_brk, evS_cont, evS_pass, evS_raise, evS_try, endC_nx, endC_ret, endC_exc, raise_t, hnd_exc, hnd_nx, hnd_ret, sub_has, isi_bool_non, isi_bool_bl, isi_bool_int, isi_bool_str, isi_bool_tup, isi_bool_lst, isi_int_non, isi_int_bl, isi_int_int, isi_int_str, isi_int_tup, isi_int_lst, isi_str_non, isi_str_bl, isi_str_int, isi_str_str, isi_str_tup, isi_str_lst, isi_tuple_non, isi_tuple_bl, isi_tuple_int, isi_tuple_str, isi_tuple_tup, isi_tuple_lst, isi_list_non, isi_list_bl, isi_list_int, isi_list_str, isi_list_tup, isi_list_lst, evw_rng3, k_v, k_fz, k_mv, k_g, stpO, k_ix3, k_ix2, k_ix, k_fld2, k_fld, k_sl3, k_sl2, k_sl, k_bin2, k_bin, k_neg, bO, k_not, k_cmp2, k_cmp, k_ch4, k_ch3, k_ch2, k_ch, k_and2, k_and, k_or2, k_or, k_ite2, k_ite, k_tup, k_lst, k_ret, k_call2, k_call3, k_call, k_b1, k_b22, k_b2, k_isi, k_mm3, k_mm2, k_mm, cB, cT, cE, cW, k_comp2, k_comp, k_evs2, k_evs, k_eva2, k_eva, k_rng22, k_rng2, k_rng32, k_rng3, k_enm2, k_enm, k_zip4, k_zip3, k_zip2, k_zip, k_seqw, s_asg, s_par22, s_par2, s_aug3, s_aug2, s_aug, s_put3, s_put2, s_put, s_ex, s_ret, s_iff, s_opt, s_unl, s_hO, s_par3, s_for, ixN, liftF, bindT, bindT.bindTs, calmP, qt, isFrz, frzL, canFrz, canL, freeze, freezeL, avDs, avD, avOk, avRoots, Av.isVar, giveA, setE, getE, getS, setS, binD, slD, cmpD, b1D, b2D, trD, ixD, eqO, okEq, eqD, eqL, flat, okD, okL, dep, depL, start, behind, parOk, asgS, asgT, callN_has, G_has, f2Ok, items, walkD, walkP, unlend, sizeLine_eq, evh, evhs, putF, itmF, mmD, isLst, partD, par3F, noExc, ownOk, wipeE, backE, Pl.root, rng1_ok (j := 200) (by decide) (by decide)]
  rw [show s_step (callN P (n + 1)) P.G P.isSub nWhile (.v 2) (.cons (.iff (.cmp .ne (.v 1) (.int 0)) (.cons (.par2 0 1 (.fz (.v 1)) (.call "_law_mod" (.cons (.v 0) (.cons (.v 1) .nil)))) .nil) .nil) .nil) = gstep P n from rfl, e]
  simp [bind_ok, bind_exc, fl_ok, fl_exc, use_none, use_some, use_exc, tmp_ok, tru_ok, tru_exc, liftO_some, slot_0, slot_s, ev_v, ev_fz, ev_mv, ev_g, ev_int, ev_str, ev_bl, ev_non, ev_nop, ev_ix, ev_fld, ev_sl, ev_bin, ev_neg, ev_not, ev_cmp, ev_chain, ev_and, ev_or, ev_itE, ev_tup, ev_lst, ev_call, ev_b1, ev_b2, ev_isi, ev_mm, ev_comp, evs_nIl, evs_cons, eva_nil, eva_cons, evw_rng1, evw_rng2, evw_enm, evw_zip, evw_seq, then_nx, then_ret, then_brk, then_ct, then_exc, env_nx, env_ret, evS_nil, evS_cons, blk_def, evS_asg, evS_par2, evS_par3, evS_aug, evS_puT, evS_ex, evS_ret, evS_retN, evS_iff, evS_whl, evS_foR, evS_brk, evS_cont, evS_pass, evS_raise, evS_try, endC_nx, endC_ret, endC_exc, raise_t, hnd_exc, hnd_nx, hnd_ret, sub_has, isi_bool_non, isi_bool_bl, isi_bool_int, isi_bool_str, isi_bool_tup, isi_bool_lst, isi_int_non, isi_int_bl, isi_int_int, isi_int_str, isi_int_tup, isi_int_lst, isi_str_non, isi_str_bl, isi_str_int, isi_str_str, isi_str_tup, isi_str_lst, isi_tuple_non, isi_tuple_bl, isi_tuple_int, isi_tuple_str, isi_tuple_tup, isi_tuple_lst, isi_list_non, isi_list_bl, isi_list_int, isi_list_str, isi_list_tup, isi_list_lst, evw_rng3, k_v, k_fz, k_mv, k_g, stpO, k_ix3, k_ix2, k_ix, k_fld2, k_fld, k_sl3, k_sl2, k_sl, k_bin2, k_bin, k_neg, bO, k_not, k_cmp2, k_cmp, k_ch4, k_ch3, k_ch2, k_ch, k_and2, k_and, k_or2, k_or, k_ite2, k_ite, k_tup, k_lst, k_ret, k_call2, k_call3, k_call, k_b1, k_b22, k_b2, k_isi, k_mm3, k_mm2, k_mm, cB, cT, cE, cW, k_comp2, k_comp, k_evs2, k_evs, k_eva2, k_eva, k_rng22, k_rng2, k_rng32, k_rng3, k_enm2, k_enm, k_zip4, k_zip3, k_zip2, k_zip, k_seqw, s_asg, s_par22, s_par2, s_aug3, s_aug2, s_aug, s_put3, s_put2, s_put, s_ex, s_ret, s_iff, s_opt, s_unl, s_hO, s_par3, s_for, ixN, liftF, bindT, bindT.bindTs, calmP, qt, isFrz, frzL, canFrz, canL, freeze, freezeL, avDs, avD, avOk, avRoots, Av.isVar, giveA, setE, getE, getS, setS, binD, slD, cmpD, b1D, b2D, trD, ixD, eqO, okEq, eqD, eqL, flat, okD, okL, dep, depL, start, behind, parOk, asgS, asgT, callN_has, G_has, f2Ok, items, walkD, walkP, unlend, sizeLine_eq, evh, evhs, putF, itmF, mmD, isLst, partD, par3F, noExc, ownOk, wipeE, backE, Pl.root]
/-! ### the law's fractions -/
section
variable [Has P "_law_mod" fd__law_mod] [Has P "_law_gcd" fd__law_gcd]
theorem ediv_natAbs {i g : Int} (h : 0 < g) (k : Nat) (hi : i.natAbs < 2 ^ k) : (i / g).natAbs < 2 ^ k := by
  have h1 : (i / g).natAbs ≤ i.natAbs := by
    rcases Int.le_total 0 i with h0 | h0
    · have := Int.ediv_nonneg h0 (Int.le_of_lt h)
      have := Int.ediv_le_self g h0
      omega
    · have h2 : i / g ≤ 0 := by
        have := Int.ediv_le_ediv h h0
        simpa using this
      have h3 : i ≤ i / g := by
        rw [Int.le_ediv_iff_mul_le h]
        have := Int.mul_le_mul_of_nonpos_left (a := i) (b := g) (c := 1) h0 (by omega)
        omega
      omega
  omega
theorem nf_le {t b : Int} {k : Nat} (h : b ≠ 0) (ht : t.natAbs < 2 ^ k) (hb : b.natAbs < 2 ^ k) : Q k (nf t b) := by
  have hg := gcd_pos (t := t) h
  have hd : (((Nat.gcd t.natAbs b.natAbs : Nat) : Int)) ∣ b := by
    have := Nat.gcd_dvd_right t.natAbs b.natAbs
    exact Int.ofNat_dvd_left.mpr this
  have hp : ∀ c : Int, 0 < c → ((Nat.gcd t.natAbs b.natAbs : Nat) : Int) ∣ c → 0 < c / ((Nat.gcd t.natAbs b.natAbs : Nat) : Int) := by
    intro c hc hdc
    obtain ⟨e, rfl⟩ := hdc
    rw [Int.mul_ediv_cancel_left _ (by omega)]
    rcases Int.lt_or_le 0 e with h | h
    · exact h
    · have := Int.mul_le_mul_of_nonneg_left h (Int.le_of_lt hg)
      omega
  unfold nf
  by_cases h3 : b < 0
  · rw [if_pos h3]
    exact ⟨ediv_natAbs hg k (by simpa using ht), ediv_natAbs hg k (by simpa using hb), hp _ (by omega) (Int.dvd_neg.mpr hd)⟩
  · rw [if_neg h3]
    exact ⟨ediv_natAbs hg k ht, ediv_natAbs hg k hb, hp _ (by omega) hd⟩
theorem s_lfrac {t b : Int} (h : b ≠ 0) (ht : t.natAbs < 2 ^ 3000) (hb : b.natAbs < 2 ^ 100) : run P (n + 2) fd__law_frac [.int t, .int b] = .ok (fr (nf t b)) [.int t, .int b] := by
  have h2 := divOk_gcd (t := t) h (Nat.lt_of_lt_of_le hb (pow_le_pow (by decide)))
  have ha : ∀ i : Int, (if i < 0 then -i else i) = (i.natAbs : Int) := by intro i; split <;> omega
  have ha2 : ∀ i : Int, (if 0 < i then i else -i) = (i.natAbs : Int) := by intro i; split <;> omega
  have hg := s_gcd (P := P) (n := n) ht hb
  rw [run_def rfl]
  by_cases h3 : b < 0
  · have hb2 : -b = (b.natAbs : Int) := by omega
    have ht2 : (-t).natAbs = t.natAbs := Int.natAbs_neg t
    rw [← hb2] at hg
    simp [fd__law_frac, b__law_frac, bind_ok, bind_exc, fl_ok, fl_exc, use_none, use_some, use_exc, tmp_ok, tru_ok, tru_exc, liftO_some, slot_0, slot_s, ev_v, ev_fz, ev_mv, ev_g, ev_int, ev_str, ev_bl, ev_non, ev_nop, ev_ix, ev_fld, ev_sl, ev_bin, ev_neg, ev_not, ev_cmp, ev_chain, ev_and, ev_or, ev_itE, ev_tup, ev_lst, ev_call, ev_b1, ev_b2, ev_isi, ev_mm, ev_comp, evs_nIl, evs_cons, eva_nil, eva_cons, evw_rng1, evw_rng2, evw_enm, evw_zip, evw_seq, then_nx, then_ret, then_brk, then_ct, then_exc, env_nx, env_ret, evS_nil, evS_cons, blk_def, evS_asg, evS_par2, evS_par3, evS_aug, evS_puT, evS_ex, evS_ret, evS_retN, evS_iff, evS_whl, evS_foR, evS_brk, evS_cont, evS_pass, evS_raise, evS_try, endC_nx, endC_ret, endC_exc, raise_t, hnd_exc, hnd_nx, hnd_ret, sub_has, isi_bool_non, isi_bool_bl, isi_bool_int, isi_bool_str, isi_bool_tup, isi_bool_lst, isi_int_non, isi_int_bl, isi_int_int, isi_int_str, isi_int_tup, isi_int_lst, isi_str_non, isi_str_bl, isi_str_int, isi_str_str, isi_str_tup, isi_str_lst, isi_tuple_non, isi_tuple_bl, isi_tuple_int, isi_tuple_str, isi_tuple_tup, isi_tuple_lst, isi_list_non, isi_list_bl, isi_list_int, isi_list_str, isi_list_tup, isi_list_lst, evw_rng3, k_v, k_fz, k_mv, k_g, stpO, k_ix3, k_ix2, k_ix, k_fld2, k_fld, k_sl3, k_sl2, k_sl, k_bin2, k_bin, k_neg, bO, k_not, k_cmp2, k_cmp, k_ch4, k_ch3, k_ch2, k_ch, k_and2, k_and, k_or2, k_or, k_ite2, k_ite, k_tup, k_lst, k_ret, k_call2, k_call3, k_call, k_b1, k_b22, k_b2, k_isi, k_mm3, k_mm2, k_mm, cB, cT, cE, cW, k_comp2, k_comp, k_evs2, k_evs, k_eva2, k_eva, k_rng22, k_rng2, k_rng32, k_rng3, k_enm2, k_enm, k_zip4, k_zip3, k_zip2, k_zip, k_seqw, s_asg, s_par22, s_par2, s_aug3, s_aug2, s_aug, s_put3, s_put2, s_put, s_ex, s_ret, s_iff, s_opt, s_unl, s_hO, s_par3, s_for, ixN, liftF, bindT, bindT.bindTs, calmP, qt, isFrz, frzL, canFrz, canL, freeze, freezeL, avDs, avD, avOk, avRoots, Av.isVar, giveA, setE, getE, getS, setS, binD, slD, cmpD, b1D, b2D, trD, ixD, eqO, okEq, eqD, eqL, flat, okD, okL, dep, depL, start, behind, parOk, asgS, asgT, callN_has, G_has, f2Ok, items, walkD, walkP, unlend, sizeLine_eq, evh, evhs, putF, itmF, mmD, isLst, partD, par3F, noExc, ownOk, wipeE, backE, Pl.root, ha2, h3, ht2, hg, h2, nf]
  · have hb2 : b = (b.natAbs : Int) := by omega
    rw [← hb2] at hg
    simp [fd__law_frac, b__law_frac, bind_ok, bind_exc, fl_ok, fl_exc, use_none, use_some, use_exc, tmp_ok, tru_ok, tru_exc, liftO_some, slot_0, slot_s, ev_v, ev_fz, ev_mv, ev_g, ev_int, ev_str, ev_bl, ev_non, ev_nop, ev_ix, ev_fld, ev_sl, ev_bin, ev_neg, ev_not, ev_cmp, ev_chain, ev_and, ev_or, ev_itE, ev_tup, ev_lst, ev_call, ev_b1, ev_b2, ev_isi, ev_mm, ev_comp, evs_nIl, evs_cons, eva_nil, eva_cons, evw_rng1, evw_rng2, evw_enm, evw_zip, evw_seq, then_nx, then_ret, then_brk, then_ct, then_exc, env_nx, env_ret, evS_nil, evS_cons, blk_def, evS_asg, evS_par2, evS_par3, evS_aug, evS_puT, evS_ex, evS_ret, evS_retN, evS_iff, evS_whl, evS_foR, evS_brk, evS_cont, evS_pass, evS_raise, evS_try, endC_nx, endC_ret, endC_exc, raise_t, hnd_exc, hnd_nx, hnd_ret, sub_has, isi_bool_non, isi_bool_bl, isi_bool_int, isi_bool_str, isi_bool_tup, isi_bool_lst, isi_int_non, isi_int_bl, isi_int_int, isi_int_str, isi_int_tup, isi_int_lst, isi_str_non, isi_str_bl, isi_str_int, isi_str_str, isi_str_tup, isi_str_lst, isi_tuple_non, isi_tuple_bl, isi_tuple_int, isi_tuple_str, isi_tuple_tup, isi_tuple_lst, isi_list_non, isi_list_bl, isi_list_int, isi_list_str, isi_list_tup, isi_list_lst, evw_rng3, k_v, k_fz, k_mv, k_g, stpO, k_ix3, k_ix2, k_ix, k_fld2, k_fld, k_sl3, k_sl2, k_sl, k_bin2, k_bin, k_neg, bO, k_not, k_cmp2, k_cmp, k_ch4, k_ch3, k_ch2, k_ch, k_and2, k_and, k_or2, k_or, k_ite2, k_ite, k_tup, k_lst, k_ret, k_call2, k_call3, k_call, k_b1, k_b22, k_b2, k_isi, k_mm3, k_mm2, k_mm, cB, cT, cE, cW, k_comp2, k_comp, k_evs2, k_evs, k_eva2, k_eva, k_rng22, k_rng2, k_rng32, k_rng3, k_enm2, k_enm, k_zip4, k_zip3, k_zip2, k_zip, k_seqw, s_asg, s_par22, s_par2, s_aug3, s_aug2, s_aug, s_put3, s_put2, s_put, s_ex, s_ret, s_iff, s_opt, s_unl, s_hO, s_par3, s_for, ixN, liftF, bindT, bindT.bindTs, calmP, qt, isFrz, frzL, canFrz, canL, freeze, freezeL, avDs, avD, avOk, avRoots, Av.isVar, giveA, setE, getE, getS, setS, binD, slD, cmpD, b1D, b2D, trD, ixD, eqO, okEq, eqD, eqL, flat, okD, okL, dep, depL, start, behind, parOk, asgS, asgT, callN_has, G_has, f2Ok, items, walkD, walkP, unlend, sizeLine_eq, evh, evhs, putF, itmF, mmD, isLst, partD, par3F, noExc, ownOk, wipeE, backE, Pl.root, ha, h3, hg, h2, nf]
variable [Has P "_law_frac" fd__law_frac] {a b : Int × Int} {k l : Nat} (hk : k ≤ 50) (hl : l ≤ 50) (ha : Q k a) (hb : Q l b)
include hk hl ha hb
theorem s_ladd : run P (n + 3) fd__law_add [fr a, fr b] = .ok (fr (add a b)) [fr a, fr b] := by
  have h1 := mulOk_k ha.t hb.b (by omega) (by omega)
  have h2 := mulOk_k hb.t ha.b (by omega) (by omega)
  have h3 := mulOk_k ha.b hb.b (by omega) (by omega)
  have h4 : a.2 * b.2 ≠ 0 := Int.ne_of_gt (Int.mul_pos ha.p hb.p)
  have h5 : (a.2 * b.2).natAbs < 2 ^ 100 := natAbs_lt_mono (natAbs_mul_lt ha.b hb.b) (by omega)
  have h6 : (a.1 * b.2).natAbs < 2 ^ 2000 := natAbs_lt_mono (natAbs_mul_lt ha.t hb.b) (by omega)
  have h7 : (b.1 * a.2).natAbs < 2 ^ 2000 := natAbs_lt_mono (natAbs_mul_lt hb.t ha.b) (by omega)
  have h8 : (a.1 * b.2 + b.1 * a.2).natAbs < 2 ^ 3000 := by
    have : 2 ^ 2000 + 2 ^ 2000 ≤ 2 ^ 3000 := by decide +kernel
    omega
  have h6 := s_lfrac (P := P) (n := n) h4 h8 h5
  rw [run_def rfl]
  simp [fd__law_add, b__law_add, bind_ok, bind_exc, fl_ok, fl_exc, use_none, use_some, use_exc, tmp_ok, tru_ok, tru_exc, liftO_some, slot_0, slot_s, ev_v, ev_fz, ev_mv, ev_g, ev_int, ev_str, ev_bl, ev_non, ev_nop, ev_ix, ev_fld, ev_sl, ev_bin, ev_neg, ev_not, ev_cmp, ev_chain, ev_and, ev_or, ev_itE, ev_tup, ev_lst, ev_call, ev_b1, ev_b2, ev_isi, ev_mm, ev_comp, evs_nIl, evs_cons, eva_nil, eva_cons, evw_rng1, evw_rng2, evw_enm, evw_zip, evw_seq, then_nx, then_ret, then_brk, then_ct, then_exc, env_nx, env_ret, evS_nil, evS_cons, blk_def, evS_asg, evS_par2, evS_par3, evS_aug, evS_puT, evS_ex, evS_ret, evS_retN, evS_iff, evS_whl, evS_foR, evS_brk, evS_cont, evS_pass, evS_raise, evS_try, endC_nx, endC_ret, endC_exc, raise_t, hnd_exc, hnd_nx, hnd_ret, sub_has, isi_bool_non, isi_bool_bl, isi_bool_int, isi_bool_str, isi_bool_tup, isi_bool_lst, isi_int_non, isi_int_bl, isi_int_int, isi_int_str, isi_int_tup, isi_int_lst, isi_str_non, isi_str_bl, isi_str_int, isi_str_str, isi_str_tup, isi_str_lst, isi_tuple_non, isi_tuple_bl, isi_tuple_int, isi_tuple_str, isi_tuple_tup, isi_tuple_lst, isi_list_non, isi_list_bl, isi_list_int, isi_list_str, isi_list_tup, isi_list_lst, evw_rng3, k_v, k_fz, k_mv, k_g, stpO, k_ix3, k_ix2, k_ix, k_fld2, k_fld, k_sl3, k_sl2, k_sl, k_bin2, k_bin, k_neg, bO, k_not, k_cmp2, k_cmp, k_ch4, k_ch3, k_ch2, k_ch, k_and2, k_and, k_or2, k_or, k_ite2, k_ite, k_tup, k_lst, k_ret, k_call2, k_call3, k_call, k_b1, k_b22, k_b2, k_isi, k_mm3, k_mm2, k_mm, cB, cT, cE, cW, k_comp2, k_comp, k_evs2, k_evs, k_eva2, k_eva, k_rng22, k_rng2, k_rng32, k_rng3, k_enm2, k_enm, k_zip4, k_zip3, k_zip2, k_zip, k_seqw, s_asg, s_par22, s_par2, s_aug3, s_aug2, s_aug, s_put3, s_put2, s_put, s_ex, s_ret, s_iff, s_opt, s_unl, s_hO, s_par3, s_for, ixN, liftF, bindT, bindT.bindTs, calmP, qt, isFrz, frzL, canFrz, canL, freeze, freezeL, avDs, avD, avOk, avRoots, Av.isVar, giveA, setE, getE, getS, setS, binD, slD, cmpD, b1D, b2D, trD, ixD, eqO, okEq, eqD, eqL, flat, okD, okL, dep, depL, start, behind, parOk, asgS, asgT, callN_has, G_has, f2Ok, items, walkD, walkP, unlend, sizeLine_eq, evh, evhs, putF, itmF, mmD, isLst, partD, par3F, noExc, ownOk, wipeE, backE, Pl.root, h1, h2, h3, h6, add]
theorem s_lsub : run P (n + 3) fd__law_sub [fr a, fr b] = .ok (fr (minus a b)) [fr a, fr b] := by
  have h1 := mulOk_k ha.t hb.b (by omega) (by omega)
  have h2 := mulOk_k hb.t ha.b (by omega) (by omega)
  have h3 := mulOk_k ha.b hb.b (by omega) (by omega)
  have h4 : a.2 * b.2 ≠ 0 := Int.ne_of_gt (Int.mul_pos ha.p hb.p)
  have h5 : (a.2 * b.2).natAbs < 2 ^ 100 := natAbs_lt_mono (natAbs_mul_lt ha.b hb.b) (by omega)
  have h6 : (a.1 * b.2).natAbs < 2 ^ 2000 := natAbs_lt_mono (natAbs_mul_lt ha.t hb.b) (by omega)
  have h7 : (b.1 * a.2).natAbs < 2 ^ 2000 := natAbs_lt_mono (natAbs_mul_lt hb.t ha.b) (by omega)
  have h8 : (a.1 * b.2 - b.1 * a.2).natAbs < 2 ^ 3000 := by
    have : 2 ^ 2000 + 2 ^ 2000 ≤ 2 ^ 3000 := by decide +kernel
    omega
  have h6 := s_lfrac (P := P) (n := n) h4 h8 h5
  rw [run_def rfl]
  simp [fd__law_sub, b__law_sub, bind_ok, bind_exc, fl_ok, fl_exc, use_none, use_some, use_exc, tmp_ok, tru_ok, tru_exc, liftO_some, slot_0, slot_s, ev_v, ev_fz, ev_mv, ev_g, ev_int, ev_str, ev_bl, ev_non, ev_nop, ev_ix, ev_fld, ev_sl, ev_bin, ev_neg, ev_not, ev_cmp, ev_chain, ev_and, ev_or, ev_itE, ev_tup, ev_lst, ev_call, ev_b1, ev_b2, ev_isi, ev_mm, ev_comp, evs_nIl, evs_cons, eva_nil, eva_cons, evw_rng1, evw_rng2, evw_enm, evw_zip, evw_seq, then_nx, then_ret, then_brk, then_ct, then_exc, env_nx, env_ret, evS_nil, evS_cons, blk_def, evS_asg, evS_par2, evS_par3, evS_aug, evS_puT, evS_ex, evS_ret, evS_retN, evS_iff, evS_whl, evS_foR, evS_brk, evS_cont, evS_pass, evS_raise, evS_try, endC_nx, endC_ret, endC_exc, raise_t, hnd_exc, hnd_nx, hnd_ret, sub_has, isi_bool_non, isi_bool_bl, isi_bool_int, isi_bool_str, isi_bool_tup, isi_bool_lst, isi_int_non, isi_int_bl, isi_int_int, isi_int_str, isi_int_tup, isi_int_lst, isi_str_non, isi_str_bl, isi_str_int, isi_str_str, isi_str_tup, isi_str_lst, isi_tuple_non, isi_tuple_bl, isi_tuple_int, isi_tuple_str, isi_tuple_tup, isi_tuple_lst, isi_list_non, isi_list_bl, isi_list_int, isi_list_str, isi_list_tup, isi_list_lst, evw_rng3, k_v, k_fz, k_mv, k_g, stpO, k_ix3, k_ix2, k_ix, k_fld2, k_fld, k_sl3, k_sl2, k_sl, k_bin2, k_bin, k_neg, bO, k_not, k_cmp2, k_cmp, k_ch4, k_ch3, k_ch2, k_ch, k_and2, k_and, k_or2, k_or, k_ite2, k_ite, k_tup, k_lst, k_ret, k_call2, k_call3, k_call, k_b1, k_b22, k_b2, k_isi, k_mm3, k_mm2, k_mm, cB, cT, cE, cW, k_comp2, k_comp, k_evs2, k_evs, k_eva2, k_eva, k_rng22, k_rng2, k_rng32, k_rng3, k_enm2, k_enm, k_zip4, k_zip3, k_zip2, k_zip, k_seqw, s_asg, s_par22, s_par2, s_aug3, s_aug2, s_aug, s_put3, s_put2, s_put, s_ex, s_ret, s_iff, s_opt, s_unl, s_hO, s_par3, s_for, ixN, liftF, bindT, bindT.bindTs, calmP, qt, isFrz, frzL, canFrz, canL, freeze, freezeL, avDs, avD, avOk, avRoots, Av.isVar, giveA, setE, getE, getS, setS, binD, slD, cmpD, b1D, b2D, trD, ixD, eqO, okEq, eqD, eqL, flat, okD, okL, dep, depL, start, behind, parOk, asgS, asgT, callN_has, G_has, f2Ok, items, walkD, walkP, unlend, sizeLine_eq, evh, evhs, putF, itmF, mmD, isLst, partD, par3F, noExc, ownOk, wipeE, backE, Pl.root, h1, h2, h3, h6, minus]
theorem s_lmul : run P (n + 3) fd__law_mul [fr a, fr b] = .ok (fr (times a b)) [fr a, fr b] := by
  have h1 := mulOk_k ha.t hb.t (by omega) (by omega)
  have h3 := mulOk_k ha.b hb.b (by omega) (by omega)
  have h4 : a.2 * b.2 ≠ 0 := Int.ne_of_gt (Int.mul_pos ha.p hb.p)
  have h5 : (a.2 * b.2).natAbs < 2 ^ 100 := natAbs_lt_mono (natAbs_mul_lt ha.b hb.b) (by omega)
  have h8 : (a.1 * b.1).natAbs < 2 ^ 3000 := natAbs_lt_mono (natAbs_mul_lt ha.t hb.t) (by omega)
  have h6 := s_lfrac (P := P) (n := n) h4 h8 h5
  rw [run_def rfl]
  simp [fd__law_mul, b__law_mul, bind_ok, bind_exc, fl_ok, fl_exc, use_none, use_some, use_exc, tmp_ok, tru_ok, tru_exc, liftO_some, slot_0, slot_s, ev_v, ev_fz, ev_mv, ev_g, ev_int, ev_str, ev_bl, ev_non, ev_nop, ev_ix, ev_fld, ev_sl, ev_bin, ev_neg, ev_not, ev_cmp, ev_chain, ev_and, ev_or, ev_itE, ev_tup, ev_lst, ev_call, ev_b1, ev_b2, ev_isi, ev_mm, ev_comp, evs_nIl, evs_cons, eva_nil, eva_cons, evw_rng1, evw_rng2, evw_enm, evw_zip, evw_seq, then_nx, then_ret, then_brk, then_ct, then_exc, env_nx, env_ret, evS_nil, evS_cons, blk_def, evS_asg, evS_par2, evS_par3, evS_aug, evS_puT, evS_ex, evS_ret, evS_retN, evS_iff, evS_whl, evS_foR, evS_brk, evS_cont, evS_pass, evS_raise, evS_try, endC_nx, endC_ret, endC_exc, raise_t, hnd_exc, hnd_nx, hnd_ret, sub_has, isi_bool_non, isi_bool_bl, isi_bool_int, isi_bool_str, isi_bool_tup, isi_bool_lst, isi_int_non, isi_int_bl, isi_int_int, isi_int_str, isi_int_tup, isi_int_lst, isi_str_non, isi_str_bl, isi_str_int, isi_str_str, isi_str_tup, isi_str_lst, isi_tuple_non, isi_tuple_bl, isi_tuple_int, isi_tuple_str, isi_tuple_tup, isi_tuple_lst, isi_list_non, isi_list_bl, isi_list_int, isi_list_str, isi_list_tup, isi_list_lst, evw_rng3, k_v, k_fz, k_mv, k_g, stpO, k_ix3, k_ix2, k_ix, k_fld2, k_fld, k_sl3, k_sl2, k_sl, k_bin2, k_bin, k_neg, bO, k_not, k_cmp2, k_cmp, k_ch4, k_ch3, k_ch2, k_ch, k_and2, k_and, k_or2, k_or, k_ite2, k_ite, k_tup, k_lst, k_ret, k_call2, k_call3, k_call, k_b1, k_b22, k_b2, k_isi, k_mm3, k_mm2, k_mm, cB, cT, cE, cW, k_comp2, k_comp, k_evs2, k_evs, k_eva2, k_eva, k_rng22, k_rng2, k_rng32, k_rng3, k_enm2, k_enm, k_zip4, k_zip3, k_zip2, k_zip, k_seqw, s_asg, s_par22, s_par2, s_aug3, s_aug2, s_aug, s_put3, s_put2, s_put, s_ex, s_ret, s_iff, s_opt, s_unl, s_hO, s_par3, s_for, ixN, liftF, bindT, bindT.bindTs, calmP, qt, isFrz, frzL, canFrz, canL, freeze, freezeL, avDs, avD, avOk, avRoots, Av.isVar, giveA, setE, getE, getS, setS, binD, slD, cmpD, b1D, b2D, trD, ixD, eqO, okEq, eqD, eqL, flat, okD, okL, dep, depL, start, behind, parOk, asgS, asgT, callN_has, G_has, f2Ok, items, walkD, walkP, unlend, sizeLine_eq, evh, evhs, putF, itmF, mmD, isLst, partD, par3F, noExc, ownOk, wipeE, backE, Pl.root, h1, h3, h6, times]
theorem s_ldiv (h0 : b.1 ≠ 0) : run P (n + 3) fd__law_div [fr a, fr b] = .ok (fr (over a b)) [fr a, fr b] := by
  have h1 := mulOk_k ha.t hb.b (by omega) (by omega)
  have h3 := mulOk_k ha.b hb.t (by omega) (by omega)
  have h4 : a.2 * b.1 ≠ 0 := Int.mul_ne_zero (Int.ne_of_gt ha.p) h0
  have h5 : (a.2 * b.1).natAbs < 2 ^ 100 := natAbs_lt_mono (natAbs_mul_lt ha.b hb.t) (by omega)
  have h8 : (a.1 * b.2).natAbs < 2 ^ 3000 := natAbs_lt_mono (natAbs_mul_lt ha.t hb.b) (by omega)
  have h6 := s_lfrac (P := P) (n := n) h4 h8 h5
  rw [run_def rfl]
  simp [fd__law_div, b__law_div, bind_ok, bind_exc, fl_ok, fl_exc, use_none, use_some, use_exc, tmp_ok, tru_ok, tru_exc, liftO_some, slot_0, slot_s, ev_v, ev_fz, ev_mv, ev_g, ev_int, ev_str, ev_bl, ev_non, ev_nop, ev_ix, ev_fld, ev_sl, ev_bin, ev_neg, ev_not, ev_cmp, ev_chain, ev_and, ev_or, ev_itE, ev_tup, ev_lst, ev_call, ev_b1, ev_b2, ev_isi, ev_mm, ev_comp, evs_nIl, evs_cons, eva_nil, eva_cons, evw_rng1, evw_rng2, evw_enm, evw_zip, evw_seq, then_nx, then_ret, then_brk, then_ct, then_exc, env_nx, env_ret, evS_nil, evS_cons, blk_def, evS_asg, evS_par2, evS_par3, evS_aug, evS_puT, evS_ex, evS_ret, evS_retN, evS_iff, evS_whl, evS_foR, evS_brk, evS_cont, evS_pass, evS_raise, evS_try, endC_nx, endC_ret, endC_exc, raise_t, hnd_exc, hnd_nx, hnd_ret, sub_has, isi_bool_non, isi_bool_bl, isi_bool_int, isi_bool_str, isi_bool_tup, isi_bool_lst, isi_int_non, isi_int_bl, isi_int_int, isi_int_str, isi_int_tup, isi_int_lst, isi_str_non, isi_str_bl, isi_str_int, isi_str_str, isi_str_tup, isi_str_lst, isi_tuple_non, isi_tuple_bl, isi_tuple_int, isi_tuple_str, isi_tuple_tup, isi_tuple_lst, isi_list_non, isi_list_bl, isi_list_int, isi_list_str, isi_list_tup, isi_list_lst, evw_rng3, k_v, k_fz, k_mv, k_g, stpO, k_ix3, k_ix2, k_ix, k_fld2, k_fld, k_sl3, k_sl2, k_sl, k_bin2, k_bin, k_neg, bO, k_not, k_cmp2, k_cmp, k_ch4, k_ch3, k_ch2, k_ch, k_and2, k_and, k_or2, k_or, k_ite2, k_ite, k_tup, k_lst, k_ret, k_call2, k_call3, k_call, k_b1, k_b22, k_b2, k_isi, k_mm3, k_mm2, k_mm, cB, cT, cE, cW, k_comp2, k_comp, k_evs2, k_evs, k_eva2, k_eva, k_rng22, k_rng2, k_rng32, k_rng3, k_enm2, k_enm, k_zip4, k_zip3, k_zip2, k_zip, k_seqw, s_asg, s_par22, s_par2, s_aug3, s_aug2, s_aug, s_put3, s_put2, s_put, s_ex, s_ret, s_iff, s_opt, s_unl, s_hO, s_par3, s_for, ixN, liftF, bindT, bindT.bindTs, calmP, qt, isFrz, frzL, canFrz, canL, freeze, freezeL, avDs, avD, avOk, avRoots, Av.isVar, giveA, setE, getE, getS, setS, binD, slD, cmpD, b1D, b2D, trD, ixD, eqO, okEq, eqD, eqL, flat, okD, okL, dep, depL, start, behind, parOk, asgS, asgT, callN_has, G_has, f2Ok, items, walkD, walkP, unlend, sizeLine_eq, evh, evhs, putF, itmF, mmD, isLst, partD, par3F, noExc, ownOk, wipeE, backE, Pl.root, h1, h3, h6, over]
omit [Has P "_law_mod" fd__law_mod] [Has P "_law_gcd" fd__law_gcd] [Has P "_law_frac" fd__law_frac]
theorem s_llt : run P n fd__law_lt [fr a, fr b] = .ok (.bl (lt a b)) [fr a, fr b] := by
  have h1 := mulOk_k ha.t hb.b (by omega) (by omega)
  have h2 := mulOk_k hb.t ha.b (by omega) (by omega)
  rw [run_def rfl]
  simp [fd__law_lt, b__law_lt, bind_ok, bind_exc, fl_ok, fl_exc, use_none, use_some, use_exc, tmp_ok, tru_ok, tru_exc, liftO_some, slot_0, slot_s, ev_v, ev_fz, ev_mv, ev_g, ev_int, ev_str, ev_bl, ev_non, ev_nop, ev_ix, ev_fld, ev_sl, ev_bin, ev_neg, ev_not, ev_cmp, ev_chain, ev_and, ev_or, ev_itE, ev_tup, ev_lst, ev_call, ev_b1, ev_b2, ev_isi, ev_mm, ev_comp, evs_nIl, evs_cons, eva_nil, eva_cons, evw_rng1, evw_rng2, evw_enm, evw_zip, evw_seq, then_nx, then_ret, then_brk, then_ct, then_exc, env_nx, env_ret, evS_nil, evS_cons, blk_def, evS_asg, evS_par2, evS_par3, evS_aug, evS_puT, evS_ex, evS_ret, evS_retN, evS_iff, evS_whl, evS_foR, evS_brk, evS_cont, evS_pass, evS_raise, evS_try, endC_nx, endC_ret, endC_exc, raise_t, hnd_exc, hnd_nx, hnd_ret, sub_has, isi_bool_non, isi_bool_bl, isi_bool_int, isi_bool_str, isi_bool_tup, isi_bool_lst, isi_int_non, isi_int_bl, isi_int_int, isi_int_str, isi_int_tup, isi_int_lst, isi_str_non, isi_str_bl, isi_str_int, isi_str_str, isi_str_tup, isi_str_lst, isi_tuple_non, isi_tuple_bl, isi_tuple_int, isi_tuple_str, isi_tuple_tup, isi_tuple_lst, isi_list_non, isi_list_bl, isi_list_int, isi_list_str, isi_list_tup, isi_list_lst, evw_rng3, k_v, k_fz, k_mv, k_g, stpO, k_ix3, k_ix2, k_ix, k_fld2, k_fld, k_sl3, k_sl2, k_sl, k_bin2, k_bin, k_neg, bO, k_not, k_cmp2, k_cmp, k_ch4, k_ch3, k_ch2, k_ch, k_and2, k_and, k_or2, k_or, k_ite2, k_ite, k_tup, k_lst, k_ret, k_call2, k_call3, k_call, k_b1, k_b22, k_b2, k_isi, k_mm3, k_mm2, k_mm, cB, cT, cE, cW, k_comp2, k_comp, k_evs2, k_evs, k_eva2, k_eva, k_rng22, k_rng2, k_rng32, k_rng3, k_enm2, k_enm, k_zip4, k_zip3, k_zip2, k_zip, k_seqw, s_asg, s_par22, s_par2, s_aug3, s_aug2, s_aug, s_put3, s_put2, s_put, s_ex, s_ret, s_iff, s_opt, s_unl, s_hO, s_par3, s_for, ixN, liftF, bindT, bindT.bindTs, calmP, qt, isFrz, frzL, canFrz, canL, freeze, freezeL, avDs, avD, avOk, avRoots, Av.isVar, giveA, setE, getE, getS, setS, binD, slD, cmpD, b1D, b2D, trD, ixD, eqO, okEq, eqD, eqL, flat, okD, okL, dep, depL, start, behind, parOk, asgS, asgT, callN_has, G_has, f2Ok, items, walkD, walkP, unlend, sizeLine_eq, evh, evhs, putF, itmF, mmD, isLst, partD, par3F, noExc, ownOk, wipeE, backE, Pl.root, h1, h2, lt]
end
end Ev.Fr

/-! FrC: the script's tape. -/
namespace Ev.Fr
open PySem PySem.Spec PyProof.Rows L2
variable {P : Prg} {n : Nat}
theorem s_tape {ns : List Int} : run P n fd__law_tape [.lst .frz (ns.map D.int)] = .ok (tp .own ns 0 0) [.lst .frz (ns.map D.int)] := by
  rw [run_def rfl]
  simp [fd__law_tape, b__law_tape, bind_ok, bind_exc, fl_ok, fl_exc, use_none, use_some, use_exc, tmp_ok, tru_ok, tru_exc, liftO_some, slot_0, slot_s, ev_v, ev_fz, ev_mv, ev_g, ev_int, ev_str, ev_bl, ev_non, ev_nop, ev_ix, ev_fld, ev_sl, ev_bin, ev_neg, ev_not, ev_cmp, ev_chain, ev_and, ev_or, ev_itE, ev_tup, ev_lst, ev_call, ev_b1, ev_b2, ev_isi, ev_mm, ev_comp, evs_nIl, evs_cons, eva_nil, eva_cons, evw_rng1, evw_rng2, evw_enm, evw_zip, evw_seq, then_nx, then_ret, then_brk, then_ct, then_exc, env_nx, env_ret, evS_nil, evS_cons, blk_def, evS_asg, evS_par2, evS_par3, evS_aug, evS_puT, evS_ex, evS_ret, evS_retN, evS_iff, evS_whl, evS_foR, evS_brk, evS_cont, evS_pass, evS_raise, evS_try, endC_nx, endC_ret, endC_exc, raise_t, hnd_exc, hnd_nx, hnd_ret, sub_has, isi_bool_non, isi_bool_bl, isi_bool_int, isi_bool_str, isi_bool_tup, isi_bool_lst, isi_int_non, isi_int_bl, isi_int_int, isi_int_str, isi_int_tup, isi_int_lst, isi_str_non, isi_str_bl, isi_str_int, isi_str_str, isi_str_tup, isi_str_lst, isi_tuple_non, isi_tuple_bl, isi_tuple_int, isi_tuple_str, isi_tuple_tup, isi_tuple_lst, isi_list_non, isi_list_bl, isi_list_int, isi_list_str, isi_list_tup, isi_list_lst, evw_rng3, k_v, k_fz, k_mv, k_g, stpO, k_ix3, k_ix2, k_ix, k_fld2, k_fld, k_sl3, k_sl2, k_sl, k_bin2, k_bin, k_neg, bO, k_not, k_cmp2, k_cmp, k_ch4, k_ch3, k_ch2, k_ch, k_and2, k_and, k_or2, k_or, k_ite2, k_ite, k_tup, k_lst, k_ret, k_call2, k_call3, k_call, k_b1, k_b22, k_b2, k_isi, k_mm3, k_mm2, k_mm, cB, cT, cE, cW, k_comp2, k_comp, k_evs2, k_evs, k_eva2, k_eva, k_rng22, k_rng2, k_rng32, k_rng3, k_enm2, k_enm, k_zip4, k_zip3, k_zip2, k_zip, k_seqw, s_asg, s_par22, s_par2, s_aug3, s_aug2, s_aug, s_put3, s_put2, s_put, s_ex, s_ret, s_iff, s_opt, s_unl, s_hO, s_par3, s_for, ixN, liftF, bindT, bindT.bindTs, calmP, qt, isFrz, frzL, canFrz, canL, freeze, freezeL, avDs, avD, avOk, avRoots, Av.isVar, giveA, setE, getE, getS, setS, binD, slD, cmpD, b1D, b2D, trD, ixD, eqO, okEq, eqD, eqL, flat, okD, okL, dep, depL, start, behind, parOk, asgS, asgT, callN_has, G_has, f2Ok, items, walkD, walkP, unlend, sizeLine_eq, evh, evhs, putF, itmF, mmD, isLst, partD, par3F, noExc, ownOk, wipeE, backE, Pl.root, tp]
theorem tape0 (ns : List Int) : Tape (tp .own ns 0 0) := ⟨.own, ns, 0, 0, by decide, Int.le_refl _, Int.le_refl _, rfl⟩
theorem ixN_lt {m : Nat} {k : Int} (h0 : 0 ≤ k) (h1 : k < m) : ixN m k = some k.toNat := by
  unfold ixN
  rw [if_pos h0, if_pos h1]
/-- the cell that is made -/
def cellOf (xs : List Int) (k : Int) : Int :=
  let c := if k < xs.length then xs.getD k.toNat 0 else 0
  let c := if c < 0 then -2 * c - 1 else c
  if c < 1000000000 then ((c * 48271 + k * 69621 + 12345) % 2147483647 * 16807 + k * 39373 + 6789) % 2147483629 else c
theorem cellOf_nn (xs : List Int) (k : Int) : 0 ≤ cellOf xs k := by
  unfold cellOf
  simp only
  generalize (if k < xs.length then xs.getD k.toNat 0 else 0) = c
  by_cases h : (if c < 0 then -2 * c - 1 else c) < 1000000000
  · rw [if_pos h]
    exact Int.emod_nonneg _ (by decide)
  · rw [if_neg h]
    omega
theorem s_draw {t : D} {m : Int} (ht : Tape t) (h0 : 0 < m) (h1 : m < 2 ^ 62) : ∃ t' d, Tape t' ∧ 0 ≤ d ∧ d < m ∧ run P n fd__law_draw [t, .int m] = .ok (.int d) [t', .int m] := by
  obtain ⟨o, xs, k, c, ho, hk, hc, rfl⟩ := ht
  have hm : divOk m := ⟨h0, Nat.lt_trans (log2_lt (j := m) (n := 63) (by decide) (by omega)) (by decide)⟩
  have u1 : ∀ c : Int, mulOk (-2) c := fun c => mulOk_l (by decide)
  have u2 : ∀ c : Int, mulOk c 48271 := fun c => mulOk_r (by decide)
  have u3 : ∀ c : Int, mulOk c 69621 := fun c => mulOk_r (by decide)
  have u4 : ∀ c : Int, mulOk c 16807 := fun c => mulOk_r (by decide)
  have u5 : ∀ c : Int, mulOk c 39373 := fun c => mulOk_r (by decide)
  have ho2 : o = .frz ∨ o = .own := by cases o <;> simp at ho ⊢
  by_cases hcm : c < m
  · refine ⟨tp .frz xs (k + 1) (cellOf xs k / m), cellOf xs k % m, ⟨.frz, xs, k + 1, _, by decide, by omega, Int.ediv_nonneg (cellOf_nn xs k) (by omega), rfl⟩, Int.emod_nonneg _ (by omega), Int.emod_lt_of_pos _ h0, ?_⟩
    rw [run_def rfl]
    have main : ∀ cell : Int, (if k < xs.length then some cell = xs[k.toNat]? else cell = 0) → run P n fd__law_draw [tp o xs k c, .int m] =
        .ok (.int ((let c := if cell < 0 then -2 * cell - 1 else cell
        if c < 1000000000 then ((c * 48271 + k * 69621 + 12345) % 2147483647 * 16807 + k * 39373 + 6789) % 2147483629 else c) % m)) [tp .frz xs (k + 1) ((let c := if cell < 0 then -2 * cell - 1 else cell
        if c < 1000000000 then ((c * 48271 + k * 69621 + 12345) % 2147483647 * 16807 + k * 39373 + 6789) % 2147483629 else c) / m), .int m] := by
      intro cell hcell
      rw [run_def rfl]
      by_cases hkx : k < xs.length
      · rw [if_pos hkx] at hcell
        have hlt : k.toNat < xs.length := by omega
        have hx : xs[k.toNat] = cell := by rw [List.getElem?_eq_getElem hlt] at hcell; exact (Option.some.inj hcell).symm
        rcases ho2 with rfl | rfl <;> by_cases hneg : cell < 0
        · by_cases hbig : -2 * cell - 1 < 1000000000
          · simp [fd__law_draw, b__law_draw, bind_ok, bind_exc, fl_ok, fl_exc, use_none, use_some, use_exc, tmp_ok, tru_ok, tru_exc, liftO_some, slot_0, slot_s, ev_v, ev_fz, ev_mv, ev_g, ev_int, ev_str, ev_bl, ev_non, ev_nop, ev_ix, ev_fld, ev_sl, ev_bin, ev_neg, ev_not, ev_cmp, ev_chain, ev_and, ev_or, ev_itE, ev_tup, ev_lst, ev_call, ev_b1, ev_b2, ev_isi, ev_mm, ev_comp, evs_nIl, evs_cons, eva_nil, eva_cons, evw_rng1, evw_rng2, evw_enm, evw_zip, evw_seq, then_nx, then_ret, then_brk, then_ct, then_exc, env_nx, env_ret, evS_nil, evS_cons, blk_def, evS_asg, evS_par2, evS_par3, evS_aug, evS_puT, evS_ex, evS_ret, evS_retN, evS_iff, evS_whl, evS_foR, evS_brk, evS_cont, evS_pass, evS_raise, evS_try, endC_nx, endC_ret, endC_exc, raise_t, hnd_exc, hnd_nx, hnd_ret, sub_has, isi_bool_non, isi_bool_bl, isi_bool_int, isi_bool_str, isi_bool_tup, isi_bool_lst, isi_int_non, isi_int_bl, isi_int_int, isi_int_str, isi_int_tup, isi_int_lst, isi_str_non, isi_str_bl, isi_str_int, isi_str_str, isi_str_tup, isi_str_lst, isi_tuple_non, isi_tuple_bl, isi_tuple_int, isi_tuple_str, isi_tuple_tup, isi_tuple_lst, isi_list_non, isi_list_bl, isi_list_int, isi_list_str, isi_list_tup, isi_list_lst, evw_rng3, k_v, k_fz, k_mv, k_g, stpO, k_ix3, k_ix2, k_ix, k_fld2, k_fld, k_sl3, k_sl2, k_sl, k_bin2, k_bin, k_neg, bO, k_not, k_cmp2, k_cmp, k_ch4, k_ch3, k_ch2, k_ch, k_and2, k_and, k_or2, k_or, k_ite2, k_ite, k_tup, k_lst, k_ret, k_call2, k_call3, k_call, k_b1, k_b22, k_b2, k_isi, k_mm3, k_mm2, k_mm, cB, cT, cE, cW, k_comp2, k_comp, k_evs2, k_evs, k_eva2, k_eva, k_rng22, k_rng2, k_rng32, k_rng3, k_enm2, k_enm, k_zip4, k_zip3, k_zip2, k_zip, k_seqw, s_asg, s_par22, s_par2, s_aug3, s_aug2, s_aug, s_put3, s_put2, s_put, s_ex, s_ret, s_iff, s_opt, s_unl, s_hO, s_par3, s_for, ixN, liftF, bindT, bindT.bindTs, calmP, qt, isFrz, frzL, canFrz, canL, freeze, freezeL, avDs, avD, avOk, avRoots, Av.isVar, giveA, setE, getE, getS, setS, binD, slD, cmpD, b1D, b2D, trD, ixD, eqO, okEq, eqD, eqL, flat, okD, okL, dep, depL, start, behind, parOk, asgS, asgT, callN_has, G_has, f2Ok, items, walkD, walkP, unlend, sizeLine_eq, evh, evhs, putF, itmF, mmD, isLst, partD, par3F, noExc, ownOk, wipeE, backE, Pl.root, tp, hcm, h0, hm, hkx, hk, hx, hneg, hbig, u1, u2, u3, u4, u5]
          · simp [fd__law_draw, b__law_draw, bind_ok, bind_exc, fl_ok, fl_exc, use_none, use_some, use_exc, tmp_ok, tru_ok, tru_exc, liftO_some, slot_0, slot_s, ev_v, ev_fz, ev_mv, ev_g, ev_int, ev_str, ev_bl, ev_non, ev_nop, ev_ix, ev_fld, ev_sl, ev_bin, ev_neg, ev_not, ev_cmp, ev_chain, ev_and, ev_or, ev_itE, ev_tup, ev_lst, ev_call, ev_b1, ev_b2, ev_isi, ev_mm, ev_comp, evs_nIl, evs_cons, eva_nil, eva_cons, evw_rng1, evw_rng2, evw_enm, evw_zip, evw_seq, then_nx, then_ret, then_brk, then_ct, then_exc, env_nx, env_ret, evS_nil, evS_cons, blk_def, evS_asg, evS_par2, evS_par3, evS_aug, evS_puT, evS_ex, evS_ret, evS_retN, evS_iff, evS_whl, evS_foR, evS_brk, evS_cont, evS_pass, evS_raise, evS_try, endC_nx, endC_ret, endC_exc, raise_t, hnd_exc, hnd_nx, hnd_ret, sub_has, isi_bool_non, isi_bool_bl, isi_bool_int, isi_bool_str, isi_bool_tup, isi_bool_lst, isi_int_non, isi_int_bl, isi_int_int, isi_int_str, isi_int_tup, isi_int_lst, isi_str_non, isi_str_bl, isi_str_int, isi_str_str, isi_str_tup, isi_str_lst, isi_tuple_non, isi_tuple_bl, isi_tuple_int, isi_tuple_str, isi_tuple_tup, isi_tuple_lst, isi_list_non, isi_list_bl, isi_list_int, isi_list_str, isi_list_tup, isi_list_lst, evw_rng3, k_v, k_fz, k_mv, k_g, stpO, k_ix3, k_ix2, k_ix, k_fld2, k_fld, k_sl3, k_sl2, k_sl, k_bin2, k_bin, k_neg, bO, k_not, k_cmp2, k_cmp, k_ch4, k_ch3, k_ch2, k_ch, k_and2, k_and, k_or2, k_or, k_ite2, k_ite, k_tup, k_lst, k_ret, k_call2, k_call3, k_call, k_b1, k_b22, k_b2, k_isi, k_mm3, k_mm2, k_mm, cB, cT, cE, cW, k_comp2, k_comp, k_evs2, k_evs, k_eva2, k_eva, k_rng22, k_rng2, k_rng32, k_rng3, k_enm2, k_enm, k_zip4, k_zip3, k_zip2, k_zip, k_seqw, s_asg, s_par22, s_par2, s_aug3, s_aug2, s_aug, s_put3, s_put2, s_put, s_ex, s_ret, s_iff, s_opt, s_unl, s_hO, s_par3, s_for, ixN, liftF, bindT, bindT.bindTs, calmP, qt, isFrz, frzL, canFrz, canL, freeze, freezeL, avDs, avD, avOk, avRoots, Av.isVar, giveA, setE, getE, getS, setS, binD, slD, cmpD, b1D, b2D, trD, ixD, eqO, okEq, eqD, eqL, flat, okD, okL, dep, depL, start, behind, parOk, asgS, asgT, callN_has, G_has, f2Ok, items, walkD, walkP, unlend, sizeLine_eq, evh, evhs, putF, itmF, mmD, isLst, partD, par3F, noExc, ownOk, wipeE, backE, Pl.root, tp, hcm, h0, hm, hkx, hk, hx, hneg, hbig, u1, u2, u3, u4, u5]
        · by_cases hbig : cell < 1000000000
          · simp [fd__law_draw, b__law_draw, bind_ok, bind_exc, fl_ok, fl_exc, use_none, use_some, use_exc, tmp_ok, tru_ok, tru_exc, liftO_some, slot_0, slot_s, ev_v, ev_fz, ev_mv, ev_g, ev_int, ev_str, ev_bl, ev_non, ev_nop, ev_ix, ev_fld, ev_sl, ev_bin, ev_neg, ev_not, ev_cmp, ev_chain, ev_and, ev_or, ev_itE, ev_tup, ev_lst, ev_call, ev_b1, ev_b2, ev_isi, ev_mm, ev_comp, evs_nIl, evs_cons, eva_nil, eva_cons, evw_rng1, evw_rng2, evw_enm, evw_zip, evw_seq, then_nx, then_ret, then_brk, then_ct, then_exc, env_nx, env_ret, evS_nil, evS_cons, blk_def, evS_asg, evS_par2, evS_par3, evS_aug, evS_puT, evS_ex, evS_ret, evS_retN, evS_iff, evS_whl, evS_foR, evS_brk, evS_cont, evS_pass, evS_raise, evS_try, endC_nx, endC_ret, endC_exc, raise_t, hnd_exc, hnd_nx, hnd_ret, sub_has, isi_bool_non, isi_bool_bl, isi_bool_int, isi_bool_str, isi_bool_tup, isi_bool_lst, isi_int_non, isi_int_bl, isi_int_int, isi_int_str, isi_int_tup, isi_int_lst, isi_str_non, isi_str_bl, isi_str_int, isi_str_str, isi_str_tup, isi_str_lst, isi_tuple_non, isi_tuple_bl, isi_tuple_int, isi_tuple_str, isi_tuple_tup, isi_tuple_lst, isi_list_non, isi_list_bl, isi_list_int, isi_list_str, isi_list_tup, isi_list_lst, evw_rng3, k_v, k_fz, k_mv, k_g, stpO, k_ix3, k_ix2, k_ix, k_fld2, k_fld, k_sl3, k_sl2, k_sl, k_bin2, k_bin, k_neg, bO, k_not, k_cmp2, k_cmp, k_ch4, k_ch3, k_ch2, k_ch, k_and2, k_and, k_or2, k_or, k_ite2, k_ite, k_tup, k_lst, k_ret, k_call2, k_call3, k_call, k_b1, k_b22, k_b2, k_isi, k_mm3, k_mm2, k_mm, cB, cT, cE, cW, k_comp2, k_comp, k_evs2, k_evs, k_eva2, k_eva, k_rng22, k_rng2, k_rng32, k_rng3, k_enm2, k_enm, k_zip4, k_zip3, k_zip2, k_zip, k_seqw, s_asg, s_par22, s_par2, s_aug3, s_aug2, s_aug, s_put3, s_put2, s_put, s_ex, s_ret, s_iff, s_opt, s_unl, s_hO, s_par3, s_for, ixN, liftF, bindT, bindT.bindTs, calmP, qt, isFrz, frzL, canFrz, canL, freeze, freezeL, avDs, avD, avOk, avRoots, Av.isVar, giveA, setE, getE, getS, setS, binD, slD, cmpD, b1D, b2D, trD, ixD, eqO, okEq, eqD, eqL, flat, okD, okL, dep, depL, start, behind, parOk, asgS, asgT, callN_has, G_has, f2Ok, items, walkD, walkP, unlend, sizeLine_eq, evh, evhs, putF, itmF, mmD, isLst, partD, par3F, noExc, ownOk, wipeE, backE, Pl.root, tp, hcm, h0, hm, hkx, hk, hx, hneg, hbig, u1, u2, u3, u4, u5]
          · simp [fd__law_draw, b__law_draw, bind_ok, bind_exc, fl_ok, fl_exc, use_none, use_some, use_exc, tmp_ok, tru_ok, tru_exc, liftO_some, slot_0, slot_s, ev_v, ev_fz, ev_mv, ev_g, ev_int, ev_str, ev_bl, ev_non, ev_nop, ev_ix, ev_fld, ev_sl, ev_bin, ev_neg, ev_not, ev_cmp, ev_chain, ev_and, ev_or, ev_itE, ev_tup, ev_lst, ev_call, ev_b1, ev_b2, ev_isi, ev_mm, ev_comp, evs_nIl, evs_cons, eva_nil, eva_cons, evw_rng1, evw_rng2, evw_enm, evw_zip, evw_seq, then_nx, then_ret, then_brk, then_ct, then_exc, env_nx, env_ret, evS_nil, evS_cons, blk_def, evS_asg, evS_par2, evS_par3, evS_aug, evS_puT, evS_ex, evS_ret, evS_retN, evS_iff, evS_whl, evS_foR, evS_brk, evS_cont, evS_pass, evS_raise, evS_try, endC_nx, endC_ret, endC_exc, raise_t, hnd_exc, hnd_nx, hnd_ret, sub_has, isi_bool_non, isi_bool_bl, isi_bool_int, isi_bool_str, isi_bool_tup, isi_bool_lst, isi_int_non, isi_int_bl, isi_int_int, isi_int_str, isi_int_tup, isi_int_lst, isi_str_non, isi_str_bl, isi_str_int, isi_str_str, isi_str_tup, isi_str_lst, isi_tuple_non, isi_tuple_bl, isi_tuple_int, isi_tuple_str, isi_tuple_tup, isi_tuple_lst, isi_list_non, isi_list_bl, isi_list_int, isi_list_str, isi_list_tup, isi_list_lst, evw_rng3, k_v, k_fz, k_mv, k_g, stpO, k_ix3, k_ix2, k_ix, k_fld2, k_fld, k_sl3, k_sl2, k_sl, k_bin2, k_bin, k_neg, bO, k_not, k_cmp2, k_cmp, k_ch4, k_ch3, k_ch2, k_ch, k_and2, k_and, k_or2, k_or, k_ite2, k_ite, k_tup, k_lst, k_ret, k_call2, k_call3, k_call, k_b1, k_b22, k_b2, k_isi, k_mm3, k_mm2, k_mm, cB, cT, cE, cW, k_comp2, k_comp, k_evs2, k_evs, k_eva2, k_eva, k_rng22, k_rng2, k_rng32, k_rng3, k_enm2, k_enm, k_zip4, k_zip3, k_zip2, k_zip, k_seqw, s_asg, s_par22, s_par2, s_aug3, s_aug2, s_aug, s_put3, s_put2, s_put, s_ex, s_ret, s_iff, s_opt, s_unl, s_hO, s_par3, s_for, ixN, liftF, bindT, bindT.bindTs, calmP, qt, isFrz, frzL, canFrz, canL, freeze, freezeL, avDs, avD, avOk, avRoots, Av.isVar, giveA, setE, getE, getS, setS, binD, slD, cmpD, b1D, b2D, trD, ixD, eqO, okEq, eqD, eqL, flat, okD, okL, dep, depL, start, behind, parOk, asgS, asgT, callN_has, G_has, f2Ok, items, walkD, walkP, unlend, sizeLine_eq, evh, evhs, putF, itmF, mmD, isLst, partD, par3F, noExc, ownOk, wipeE, backE, Pl.root, tp, hcm, h0, hm, hkx, hk, hx, hneg, hbig, u1, u2, u3, u4, u5]
        · by_cases hbig : -2 * cell - 1 < 1000000000
          · simp [fd__law_draw, b__law_draw, bind_ok, bind_exc, fl_ok, fl_exc, use_none, use_some, use_exc, tmp_ok, tru_ok, tru_exc, liftO_some, slot_0, slot_s, ev_v, ev_fz, ev_mv, ev_g, ev_int, ev_str, ev_bl, ev_non, ev_nop, ev_ix, ev_fld, ev_sl, ev_bin, ev_neg, ev_not, ev_cmp, ev_chain, ev_and, ev_or, ev_itE, ev_tup, ev_lst, ev_call, ev_b1, ev_b2, ev_isi, ev_mm, ev_comp, evs_nIl, evs_cons, eva_nil, eva_cons, evw_rng1, evw_rng2, evw_enm, evw_zip, evw_seq, then_nx, then_ret, then_brk, then_ct, then_exc, env_nx, env_ret, evS_nil, evS_cons, blk_def, evS_asg, evS_par2, evS_par3, evS_aug, evS_puT, evS_ex, evS_ret, evS_retN, evS_iff, evS_whl, evS_foR, evS_brk, evS_cont, evS_pass, evS_raise, evS_try, endC_nx, endC_ret, endC_exc, raise_t, hnd_exc, hnd_nx, hnd_ret, sub_has, isi_bool_non, isi_bool_bl, isi_bool_int, isi_bool_str, isi_bool_tup, isi_bool_lst, isi_int_non, isi_int_bl, isi_int_int, isi_int_str, isi_int_tup, isi_int_lst, isi_str_non, isi_str_bl, isi_str_int, isi_str_str, isi_str_tup, isi_str_lst, isi_tuple_non, isi_tuple_bl, isi_tuple_int, isi_tuple_str, isi_tuple_tup, isi_tuple_lst, isi_list_non, isi_list_bl, isi_list_int, isi_list_str, isi_list_tup, isi_list_lst, evw_rng3, k_v, k_fz, k_mv, k_g, stpO, k_ix3, k_ix2, k_ix, k_fld2, k_fld, k_sl3, k_sl2, k_sl, k_bin2, k_bin, k_neg, bO, k_not, k_cmp2, k_cmp, k_ch4, k_ch3, k_ch2, k_ch, k_and2, k_and, k_or2, k_or, k_ite2, k_ite, k_tup, k_lst, k_ret, k_call2, k_call3, k_call, k_b1, k_b22, k_b2, k_isi, k_mm3, k_mm2, k_mm, cB, cT, cE, cW, k_comp2, k_comp, k_evs2, k_evs, k_eva2, k_eva, k_rng22, k_rng2, k_rng32, k_rng3, k_enm2, k_enm, k_zip4, k_zip3, k_zip2, k_zip, k_seqw, s_asg, s_par22, s_par2, s_aug3, s_aug2, s_aug, s_put3, s_put2, s_put, s_ex, s_ret, s_iff, s_opt, s_unl, s_hO, s_par3, s_for, ixN, liftF, bindT, bindT.bindTs, calmP, qt, isFrz, frzL, canFrz, canL, freeze, freezeL, avDs, avD, avOk, avRoots, Av.isVar, giveA, setE, getE, getS, setS, binD, slD, cmpD, b1D, b2D, trD, ixD, eqO, okEq, eqD, eqL, flat, okD, okL, dep, depL, start, behind, parOk, asgS, asgT, callN_has, G_has, f2Ok, items, walkD, walkP, unlend, sizeLine_eq, evh, evhs, putF, itmF, mmD, isLst, partD, par3F, noExc, ownOk, wipeE, backE, Pl.root, tp, hcm, h0, hm, hkx, hk, hx, hneg, hbig, u1, u2, u3, u4, u5]
          · simp [fd__law_draw, b__law_draw, bind_ok, bind_exc, fl_ok, fl_exc, use_none, use_some, use_exc, tmp_ok, tru_ok, tru_exc, liftO_some, slot_0, slot_s, ev_v, ev_fz, ev_mv, ev_g, ev_int, ev_str, ev_bl, ev_non, ev_nop, ev_ix, ev_fld, ev_sl, ev_bin, ev_neg, ev_not, ev_cmp, ev_chain, ev_and, ev_or, ev_itE, ev_tup, ev_lst, ev_call, ev_b1, ev_b2, ev_isi, ev_mm, ev_comp, evs_nIl, evs_cons, eva_nil, eva_cons, evw_rng1, evw_rng2, evw_enm, evw_zip, evw_seq, then_nx, then_ret, then_brk, then_ct, then_exc, env_nx, env_ret, evS_nil, evS_cons, blk_def, evS_asg, evS_par2, evS_par3, evS_aug, evS_puT, evS_ex, evS_ret, evS_retN, evS_iff, evS_whl, evS_foR, evS_brk, evS_cont, evS_pass, evS_raise, evS_try, endC_nx, endC_ret, endC_exc, raise_t, hnd_exc, hnd_nx, hnd_ret, sub_has, isi_bool_non, isi_bool_bl, isi_bool_int, isi_bool_str, isi_bool_tup, isi_bool_lst, isi_int_non, isi_int_bl, isi_int_int, isi_int_str, isi_int_tup, isi_int_lst, isi_str_non, isi_str_bl, isi_str_int, isi_str_str, isi_str_tup, isi_str_lst, isi_tuple_non, isi_tuple_bl, isi_tuple_int, isi_tuple_str, isi_tuple_tup, isi_tuple_lst, isi_list_non, isi_list_bl, isi_list_int, isi_list_str, isi_list_tup, isi_list_lst, evw_rng3, k_v, k_fz, k_mv, k_g, stpO, k_ix3, k_ix2, k_ix, k_fld2, k_fld, k_sl3, k_sl2, k_sl, k_bin2, k_bin, k_neg, bO, k_not, k_cmp2, k_cmp, k_ch4, k_ch3, k_ch2, k_ch, k_and2, k_and, k_or2, k_or, k_ite2, k_ite, k_tup, k_lst, k_ret, k_call2, k_call3, k_call, k_b1, k_b22, k_b2, k_isi, k_mm3, k_mm2, k_mm, cB, cT, cE, cW, k_comp2, k_comp, k_evs2, k_evs, k_eva2, k_eva, k_rng22, k_rng2, k_rng32, k_rng3, k_enm2, k_enm, k_zip4, k_zip3, k_zip2, k_zip, k_seqw, s_asg, s_par22, s_par2, s_aug3, s_aug2, s_aug, s_put3, s_put2, s_put, s_ex, s_ret, s_iff, s_opt, s_unl, s_hO, s_par3, s_for, ixN, liftF, bindT, bindT.bindTs, calmP, qt, isFrz, frzL, canFrz, canL, freeze, freezeL, avDs, avD, avOk, avRoots, Av.isVar, giveA, setE, getE, getS, setS, binD, slD, cmpD, b1D, b2D, trD, ixD, eqO, okEq, eqD, eqL, flat, okD, okL, dep, depL, start, behind, parOk, asgS, asgT, callN_has, G_has, f2Ok, items, walkD, walkP, unlend, sizeLine_eq, evh, evhs, putF, itmF, mmD, isLst, partD, par3F, noExc, ownOk, wipeE, backE, Pl.root, tp, hcm, h0, hm, hkx, hk, hx, hneg, hbig, u1, u2, u3, u4, u5]
        · by_cases hbig : cell < 1000000000
          · simp [fd__law_draw, b__law_draw, bind_ok, bind_exc, fl_ok, fl_exc, use_none, use_some, use_exc, tmp_ok, tru_ok, tru_exc, liftO_some, slot_0, slot_s, ev_v, ev_fz, ev_mv, ev_g, ev_int, ev_str, ev_bl, ev_non, ev_nop, ev_ix, ev_fld, ev_sl, ev_bin, ev_neg, ev_not, ev_cmp, ev_chain, ev_and, ev_or, ev_itE, ev_tup, ev_lst, ev_call, ev_b1, ev_b2, ev_isi, ev_mm, ev_comp, evs_nIl, evs_cons, eva_nil, eva_cons, evw_rng1, evw_rng2, evw_enm, evw_zip, evw_seq, then_nx, then_ret, then_brk, then_ct, then_exc, env_nx, env_ret, evS_nil, evS_cons, blk_def, evS_asg, evS_par2, evS_par3, evS_aug, evS_puT, evS_ex, evS_ret, evS_retN, evS_iff, evS_whl, evS_foR, evS_brk, evS_cont, evS_pass, evS_raise, evS_try, endC_nx, endC_ret, endC_exc, raise_t, hnd_exc, hnd_nx, hnd_ret, sub_has, isi_bool_non, isi_bool_bl, isi_bool_int, isi_bool_str, isi_bool_tup, isi_bool_lst, isi_int_non, isi_int_bl, isi_int_int, isi_int_str, isi_int_tup, isi_int_lst, isi_str_non, isi_str_bl, isi_str_int, isi_str_str, isi_str_tup, isi_str_lst, isi_tuple_non, isi_tuple_bl, isi_tuple_int, isi_tuple_str, isi_tuple_tup, isi_tuple_lst, isi_list_non, isi_list_bl, isi_list_int, isi_list_str, isi_list_tup, isi_list_lst, evw_rng3, k_v, k_fz, k_mv, k_g, stpO, k_ix3, k_ix2, k_ix, k_fld2, k_fld, k_sl3, k_sl2, k_sl, k_bin2, k_bin, k_neg, bO, k_not, k_cmp2, k_cmp, k_ch4, k_ch3, k_ch2, k_ch, k_and2, k_and, k_or2, k_or, k_ite2, k_ite, k_tup, k_lst, k_ret, k_call2, k_call3, k_call, k_b1, k_b22, k_b2, k_isi, k_mm3, k_mm2, k_mm, cB, cT, cE, cW, k_comp2, k_comp, k_evs2, k_evs, k_eva2, k_eva, k_rng22, k_rng2, k_rng32, k_rng3, k_enm2, k_enm, k_zip4, k_zip3, k_zip2, k_zip, k_seqw, s_asg, s_par22, s_par2, s_aug3, s_aug2, s_aug, s_put3, s_put2, s_put, s_ex, s_ret, s_iff, s_opt, s_unl, s_hO, s_par3, s_for, ixN, liftF, bindT, bindT.bindTs, calmP, qt, isFrz, frzL, canFrz, canL, freeze, freezeL, avDs, avD, avOk, avRoots, Av.isVar, giveA, setE, getE, getS, setS, binD, slD, cmpD, b1D, b2D, trD, ixD, eqO, okEq, eqD, eqL, flat, okD, okL, dep, depL, start, behind, parOk, asgS, asgT, callN_has, G_has, f2Ok, items, walkD, walkP, unlend, sizeLine_eq, evh, evhs, putF, itmF, mmD, isLst, partD, par3F, noExc, ownOk, wipeE, backE, Pl.root, tp, hcm, h0, hm, hkx, hk, hx, hneg, hbig, u1, u2, u3, u4, u5]
          · simp [fd__law_draw, b__law_draw, bind_ok, bind_exc, fl_ok, fl_exc, use_none, use_some, use_exc, tmp_ok, tru_ok, tru_exc, liftO_some, slot_0, slot_s, ev_v, ev_fz, ev_mv, ev_g, ev_int, ev_str, ev_bl, ev_non, ev_nop, ev_ix, ev_fld, ev_sl, ev_bin, ev_neg, ev_not, ev_cmp, ev_chain, ev_and, ev_or, ev_itE, ev_tup, ev_lst, ev_call, ev_b1, ev_b2, ev_isi, ev_mm, ev_comp, evs_nIl, evs_cons, eva_nil, eva_cons, evw_rng1, evw_rng2, evw_enm, evw_zip, evw_seq, then_nx, then_ret, then_brk, then_ct, then_exc, env_nx, env_ret, evS_nil, evS_cons, blk_def, evS_asg, evS_par2, evS_par3, evS_aug, evS_puT, evS_ex, evS_ret, evS_retN, evS_iff, evS_whl, evS_foR, evS_brk, evS_cont, evS_pass, evS_raise, evS_try, endC_nx, endC_ret, endC_exc, raise_t, hnd_exc, hnd_nx, hnd_ret, sub_has, isi_bool_non, isi_bool_bl, isi_bool_int, isi_bool_str, isi_bool_tup, isi_bool_lst, isi_int_non, isi_int_bl, isi_int_int, isi_int_str, isi_int_tup, isi_int_lst, isi_str_non, isi_str_bl, isi_str_int, isi_str_str, isi_str_tup, isi_str_lst, isi_tuple_non, isi_tuple_bl, isi_tuple_int, isi_tuple_str, isi_tuple_tup, isi_tuple_lst, isi_list_non, isi_list_bl, isi_list_int, isi_list_str, isi_list_tup, isi_list_lst, evw_rng3, k_v, k_fz, k_mv, k_g, stpO, k_ix3, k_ix2, k_ix, k_fld2, k_fld, k_sl3, k_sl2, k_sl, k_bin2, k_bin, k_neg, bO, k_not, k_cmp2, k_cmp, k_ch4, k_ch3, k_ch2, k_ch, k_and2, k_and, k_or2, k_or, k_ite2, k_ite, k_tup, k_lst, k_ret, k_call2, k_call3, k_call, k_b1, k_b22, k_b2, k_isi, k_mm3, k_mm2, k_mm, cB, cT, cE, cW, k_comp2, k_comp, k_evs2, k_evs, k_eva2, k_eva, k_rng22, k_rng2, k_rng32, k_rng3, k_enm2, k_enm, k_zip4, k_zip3, k_zip2, k_zip, k_seqw, s_asg, s_par22, s_par2, s_aug3, s_aug2, s_aug, s_put3, s_put2, s_put, s_ex, s_ret, s_iff, s_opt, s_unl, s_hO, s_par3, s_for, ixN, liftF, bindT, bindT.bindTs, calmP, qt, isFrz, frzL, canFrz, canL, freeze, freezeL, avDs, avD, avOk, avRoots, Av.isVar, giveA, setE, getE, getS, setS, binD, slD, cmpD, b1D, b2D, trD, ixD, eqO, okEq, eqD, eqL, flat, okD, okL, dep, depL, start, behind, parOk, asgS, asgT, callN_has, G_has, f2Ok, items, walkD, walkP, unlend, sizeLine_eq, evh, evhs, putF, itmF, mmD, isLst, partD, par3F, noExc, ownOk, wipeE, backE, Pl.root, tp, hcm, h0, hm, hkx, hk, hx, hneg, hbig, u1, u2, u3, u4, u5]
      · rw [if_neg hkx] at hcell
        subst hcell
        rcases ho2 with rfl | rfl
        · simp [fd__law_draw, b__law_draw, bind_ok, bind_exc, fl_ok, fl_exc, use_none, use_some, use_exc, tmp_ok, tru_ok, tru_exc, liftO_some, slot_0, slot_s, ev_v, ev_fz, ev_mv, ev_g, ev_int, ev_str, ev_bl, ev_non, ev_nop, ev_ix, ev_fld, ev_sl, ev_bin, ev_neg, ev_not, ev_cmp, ev_chain, ev_and, ev_or, ev_itE, ev_tup, ev_lst, ev_call, ev_b1, ev_b2, ev_isi, ev_mm, ev_comp, evs_nIl, evs_cons, eva_nil, eva_cons, evw_rng1, evw_rng2, evw_enm, evw_zip, evw_seq, then_nx, then_ret, then_brk, then_ct, then_exc, env_nx, env_ret, evS_nil, evS_cons, blk_def, evS_asg, evS_par2, evS_par3, evS_aug, evS_puT, evS_ex, evS_ret, evS_retN, evS_iff, evS_whl, evS_foR, evS_brk, evS_cont, evS_pass, evS_raise, evS_try, endC_nx, endC_ret, endC_exc, raise_t, hnd_exc, hnd_nx, hnd_ret, sub_has, isi_bool_non, isi_bool_bl, isi_bool_int, isi_bool_str, isi_bool_tup, isi_bool_lst, isi_int_non, isi_int_bl, isi_int_int, isi_int_str, isi_int_tup, isi_int_lst, isi_str_non, isi_str_bl, isi_str_int, isi_str_str, isi_str_tup, isi_str_lst, isi_tuple_non, isi_tuple_bl, isi_tuple_int, isi_tuple_str, isi_tuple_tup, isi_tuple_lst, isi_list_non, isi_list_bl, isi_list_int, isi_list_str, isi_list_tup, isi_list_lst, evw_rng3, k_v, k_fz, k_mv, k_g, stpO, k_ix3, k_ix2, k_ix, k_fld2, k_fld, k_sl3, k_sl2, k_sl, k_bin2, k_bin, k_neg, bO, k_not, k_cmp2, k_cmp, k_ch4, k_ch3, k_ch2, k_ch, k_and2, k_and, k_or2, k_or, k_ite2, k_ite, k_tup, k_lst, k_ret, k_call2, k_call3, k_call, k_b1, k_b22, k_b2, k_isi, k_mm3, k_mm2, k_mm, cB, cT, cE, cW, k_comp2, k_comp, k_evs2, k_evs, k_eva2, k_eva, k_rng22, k_rng2, k_rng32, k_rng3, k_enm2, k_enm, k_zip4, k_zip3, k_zip2, k_zip, k_seqw, s_asg, s_par22, s_par2, s_aug3, s_aug2, s_aug, s_put3, s_put2, s_put, s_ex, s_ret, s_iff, s_opt, s_unl, s_hO, s_par3, s_for, ixN, liftF, bindT, bindT.bindTs, calmP, qt, isFrz, frzL, canFrz, canL, freeze, freezeL, avDs, avD, avOk, avRoots, Av.isVar, giveA, setE, getE, getS, setS, binD, slD, cmpD, b1D, b2D, trD, ixD, eqO, okEq, eqD, eqL, flat, okD, okL, dep, depL, start, behind, parOk, asgS, asgT, callN_has, G_has, f2Ok, items, walkD, walkP, unlend, sizeLine_eq, evh, evhs, putF, itmF, mmD, isLst, partD, par3F, noExc, ownOk, wipeE, backE, Pl.root, tp, hcm, h0, hm, hkx, hk, u1, u2, u3, u4, u5]
        · simp [fd__law_draw, b__law_draw, bind_ok, bind_exc, fl_ok, fl_exc, use_none, use_some, use_exc, tmp_ok, tru_ok, tru_exc, liftO_some, slot_0, slot_s, ev_v, ev_fz, ev_mv, ev_g, ev_int, ev_str, ev_bl, ev_non, ev_nop, ev_ix, ev_fld, ev_sl, ev_bin, ev_neg, ev_not, ev_cmp, ev_chain, ev_and, ev_or, ev_itE, ev_tup, ev_lst, ev_call, ev_b1, ev_b2, ev_isi, ev_mm, ev_comp, evs_nIl, evs_cons, eva_nil, eva_cons, evw_rng1, evw_rng2, evw_enm, evw_zip, evw_seq, then_nx, then_ret, then_brk, then_ct, then_exc, env_nx, env_ret, evS_nil, evS_cons, blk_def, evS_asg, evS_par2, evS_par3, evS_aug, evS_puT, evS_ex, evS_ret, evS_retN, evS_iff, evS_whl, evS_foR, evS_brk, evS_cont, evS_pass, evS_raise, evS_try, endC_nx, endC_ret, endC_exc, raise_t, hnd_exc, hnd_nx, hnd_ret, sub_has, isi_bool_non, isi_bool_bl, isi_bool_int, isi_bool_str, isi_bool_tup, isi_bool_lst, isi_int_non, isi_int_bl, isi_int_int, isi_int_str, isi_int_tup, isi_int_lst, isi_str_non, isi_str_bl, isi_str_int, isi_str_str, isi_str_tup, isi_str_lst, isi_tuple_non, isi_tuple_bl, isi_tuple_int, isi_tuple_str, isi_tuple_tup, isi_tuple_lst, isi_list_non, isi_list_bl, isi_list_int, isi_list_str, isi_list_tup, isi_list_lst, evw_rng3, k_v, k_fz, k_mv, k_g, stpO, k_ix3, k_ix2, k_ix, k_fld2, k_fld, k_sl3, k_sl2, k_sl, k_bin2, k_bin, k_neg, bO, k_not, k_cmp2, k_cmp, k_ch4, k_ch3, k_ch2, k_ch, k_and2, k_and, k_or2, k_or, k_ite2, k_ite, k_tup, k_lst, k_ret, k_call2, k_call3, k_call, k_b1, k_b22, k_b2, k_isi, k_mm3, k_mm2, k_mm, cB, cT, cE, cW, k_comp2, k_comp, k_evs2, k_evs, k_eva2, k_eva, k_rng22, k_rng2, k_rng32, k_rng3, k_enm2, k_enm, k_zip4, k_zip3, k_zip2, k_zip, k_seqw, s_asg, s_par22, s_par2, s_aug3, s_aug2, s_aug, s_put3, s_put2, s_put, s_ex, s_ret, s_iff, s_opt, s_unl, s_hO, s_par3, s_for, ixN, liftF, bindT, bindT.bindTs, calmP, qt, isFrz, frzL, canFrz, canL, freeze, freezeL, avDs, avD, avOk, avRoots, Av.isVar, giveA, setE, getE, getS, setS, binD, slD, cmpD, b1D, b2D, trD, ixD, eqO, okEq, eqD, eqL, flat, okD, okL, dep, depL, start, behind, parOk, asgS, asgT, callN_has, G_has, f2Ok, items, walkD, walkP, unlend, sizeLine_eq, evh, evhs, putF, itmF, mmD, isLst, partD, par3F, noExc, ownOk, wipeE, backE, Pl.root, tp, hcm, h0, hm, hkx, hk, u1, u2, u3, u4, u5]
    have h := main (if k < xs.length then xs.getD k.toNat 0 else 0) (by
      split
      · have : k.toNat < xs.length := by omega
        simp [List.getD, List.getElem?_eq_getElem this]
      · rfl)
    exact h
  · refine ⟨tp o xs k (c / m), c % m, ⟨o, xs, k, _, ho, hk, Int.ediv_nonneg hc (by omega), rfl⟩, Int.emod_nonneg _ (by omega), Int.emod_lt_of_pos _ h0, ?_⟩
    rw [run_def rfl]
    simp [fd__law_draw, b__law_draw, bind_ok, bind_exc, fl_ok, fl_exc, use_none, use_some, use_exc, tmp_ok, tru_ok, tru_exc, liftO_some, slot_0, slot_s, ev_v, ev_fz, ev_mv, ev_g, ev_int, ev_str, ev_bl, ev_non, ev_nop, ev_ix, ev_fld, ev_sl, ev_bin, ev_neg, ev_not, ev_cmp, ev_chain, ev_and, ev_or, ev_itE, ev_tup, ev_lst, ev_call, ev_b1, ev_b2, ev_isi, ev_mm, ev_comp, evs_nIl, evs_cons, eva_nil, eva_cons, evw_rng1, evw_rng2, evw_enm, evw_zip, evw_seq, then_nx, then_ret, then_brk, then_ct, then_exc, env_nx, env_ret, evS_nil, evS_cons, blk_def, evS_asg, evS_par2, evS_par3, evS_aug, evS_puT, evS_ex, evS_ret, evS_retN, evS_iff, evS_whl, evS_foR, evS_brk, evS_cont, evS_pass, evS_raise, evS_try, endC_nx, endC_ret, endC_exc, raise_t, hnd_exc, hnd_nx, hnd_ret, sub_has, isi_bool_non, isi_bool_bl, isi_bool_int, isi_bool_str, isi_bool_tup, isi_bool_lst, isi_int_non, isi_int_bl, isi_int_int, isi_int_str, isi_int_tup, isi_int_lst, isi_str_non, isi_str_bl, isi_str_int, isi_str_str, isi_str_tup, isi_str_lst, isi_tuple_non, isi_tuple_bl, isi_tuple_int, isi_tuple_str, isi_tuple_tup, isi_tuple_lst, isi_list_non, isi_list_bl, isi_list_int, isi_list_str, isi_list_tup, isi_list_lst, evw_rng3, k_v, k_fz, k_mv, k_g, stpO, k_ix3, k_ix2, k_ix, k_fld2, k_fld, k_sl3, k_sl2, k_sl, k_bin2, k_bin, k_neg, bO, k_not, k_cmp2, k_cmp, k_ch4, k_ch3, k_ch2, k_ch, k_and2, k_and, k_or2, k_or, k_ite2, k_ite, k_tup, k_lst, k_ret, k_call2, k_call3, k_call, k_b1, k_b22, k_b2, k_isi, k_mm3, k_mm2, k_mm, cB, cT, cE, cW, k_comp2, k_comp, k_evs2, k_evs, k_eva2, k_eva, k_rng22, k_rng2, k_rng32, k_rng3, k_enm2, k_enm, k_zip4, k_zip3, k_zip2, k_zip, k_seqw, s_asg, s_par22, s_par2, s_aug3, s_aug2, s_aug, s_put3, s_put2, s_put, s_ex, s_ret, s_iff, s_opt, s_unl, s_hO, s_par3, s_for, ixN, liftF, bindT, bindT.bindTs, calmP, qt, isFrz, frzL, canFrz, canL, freeze, freezeL, avDs, avD, avOk, avRoots, Av.isVar, giveA, setE, getE, getS, setS, binD, slD, cmpD, b1D, b2D, trD, ixD, eqO, okEq, eqD, eqL, flat, okD, okL, dep, depL, start, behind, parOk, asgS, asgT, callN_has, G_has, f2Ok, items, walkD, walkP, unlend, sizeLine_eq, evh, evhs, putF, itmF, mmD, isLst, partD, par3F, noExc, ownOk, wipeE, backE, Pl.root, tp, hcm, h0, hm]
/-! ### fractions that are drawn -/
/-- in lowest terms, the bottom above 0 -/
def Nf (a : Int × Int) : Prop := 0 < a.2 ∧ Nat.gcd a.1.natAbs a.2.natAbs = 1
theorem Nf.nf {t b : Int} (h : b ≠ 0) : Nf (nf t b) := by
  have hg := gcd_pos (t := t) h
  have d1 : ((Nat.gcd t.natAbs b.natAbs : Nat) : Int) ∣ t := Int.ofNat_dvd_left.mpr (Nat.gcd_dvd_left ..)
  have d2 : ((Nat.gcd t.natAbs b.natAbs : Nat) : Int) ∣ b := Int.ofNat_dvd_left.mpr (Nat.gcd_dvd_right ..)
  have q := nf_le (t := t) (k := max (t.natAbs.log2 + 1) (b.natAbs.log2 + 1)) h
    (Nat.lt_of_lt_of_le Nat.lt_log2_self (pow_le_pow (by omega))) (Nat.lt_of_lt_of_le Nat.lt_log2_self (pow_le_pow (by omega)))
  refine ⟨q.p, ?_⟩
  have main : ∀ i : Int, ((Nat.gcd t.natAbs b.natAbs : Nat) : Int) ∣ i → (i / ((Nat.gcd t.natAbs b.natAbs : Nat) : Int)).natAbs = i.natAbs / Nat.gcd t.natAbs b.natAbs := by
    intro i hi
    obtain ⟨e, rfl⟩ := hi
    rw [Int.mul_ediv_cancel_left _ (by omega), Int.natAbs_mul, Int.natAbs_natCast, Nat.mul_div_cancel_left _ (by omega)]
  have hone : Nat.gcd (t.natAbs / Nat.gcd t.natAbs b.natAbs) (b.natAbs / Nat.gcd t.natAbs b.natAbs) = 1 := by
    have hg' : 0 < Nat.gcd t.natAbs b.natAbs := by omega
    rw [Nat.gcd_div (Nat.gcd_dvd_left ..) (Nat.gcd_dvd_right ..), Nat.div_self hg']
  unfold Fr.nf
  split
  · rw [main _ (Int.dvd_neg.mpr d1), main _ (Int.dvd_neg.mpr d2), Int.natAbs_neg, Int.natAbs_neg]
    exact hone
  · rw [main _ d1, main _ d2]
    exact hone
/-- the same numbers in lowest terms are the same -/
theorem Nf.eq {a b : Int × Int} (ha : Nf a) (hb : Nf b) (h : a.1 * b.2 = b.1 * a.2) : a = b := by
  have e : a.1.natAbs * b.2.natAbs = b.1.natAbs * a.2.natAbs := by rw [← Int.natAbs_mul, h, Int.natAbs_mul]
  have ca : Nat.Coprime a.2.natAbs a.1.natAbs := by rw [Nat.Coprime, Nat.gcd_comm]; exact ha.2
  have cb : Nat.Coprime b.2.natAbs b.1.natAbs := by rw [Nat.Coprime, Nat.gcd_comm]; exact hb.2
  have d1 : a.2.natAbs ∣ b.2.natAbs := ca.dvd_of_dvd_mul_left ⟨b.1.natAbs, by rw [e, Nat.mul_comm]⟩
  have d2 : b.2.natAbs ∣ a.2.natAbs := cb.dvd_of_dvd_mul_left ⟨a.1.natAbs, by rw [← e, Nat.mul_comm]⟩
  have e2 : a.2.natAbs = b.2.natAbs := Nat.dvd_antisymm d1 d2
  have e3 : a.2 = b.2 := by have := ha.1; have := hb.1; omega
  have e4 : a.1 = b.1 := by
    rw [e3] at h
    exact Int.eq_of_mul_eq_mul_right (Int.ne_of_gt hb.1) h
  exact Prod.ext e4 e3
theorem Nf.nf_self {a : Int × Int} (ha : Nf a) {k : Int} (hk : 0 < k) : Fr.nf (k * a.1) (k * a.2) = a := by
  have hp : 0 < k * a.2 := Int.mul_pos hk ha.1
  have hg : Nat.gcd (k * a.1).natAbs (k * a.2).natAbs = k.natAbs := by
    rw [Int.natAbs_mul, Int.natAbs_mul, Nat.gcd_mul_left, ha.2, Nat.mul_one]
  have hk2 : ((k.natAbs : Nat) : Int) = k := by omega
  unfold Fr.nf
  rw [if_neg (by omega), hg, hk2, Int.mul_ediv_cancel_left _ (by omega), Int.mul_ediv_cancel_left _ (by omega)]
structure Dr (most : Int) (a : Int × Int) : Prop where
  n : Nf a
  t : a.1.natAbs ≤ 4 * most
  b : a.2 ≤ 4
theorem Dr.q {most : Int} {a : Int × Int} (h : Dr most a) (hm : most ≤ 1000) : Q 12 a := by
  have h1 := h.t
  have h2 := h.b
  have h3 := h.n.1
  exact ⟨by omega, by omega, h3⟩
theorem abs_div_le {i g : Int} (h : 0 < g) : (i / g).natAbs ≤ i.natAbs := by
  rcases Int.le_total 0 i with h0 | h0
  · have := Int.ediv_nonneg h0 (Int.le_of_lt h)
    have := Int.ediv_le_self g h0
    omega
  · have h2 : i / g ≤ 0 := by
      have := Int.ediv_le_ediv h h0
      simpa using this
    have h3 : i ≤ i / g := by
      rw [Int.le_ediv_iff_mul_le h]
      have := Int.mul_le_mul_of_nonpos_left (a := i) (b := g) (c := 1) h0 (by omega)
      omega
    omega
theorem nf_small {t b : Int} (h : b ≠ 0) : (nf t b).1.natAbs ≤ t.natAbs ∧ (nf t b).2.natAbs ≤ b.natAbs := by
  have hg := gcd_pos (t := t) h
  unfold nf
  split
  · have h1 := abs_div_le (i := -t) hg
    have h2 := abs_div_le (i := -b) hg
    exact ⟨by omega, by omega⟩
  · exact ⟨abs_div_le hg, abs_div_le hg⟩
section
variable [Has P "_law_mod" fd__law_mod] [Has P "_law_gcd" fd__law_gcd] [Has P "_law_frac" fd__law_frac] [Has P "_law_draw" fd__law_draw]
theorem s_lfraction {t : D} {m : Int} (ht : Tape t) (h0 : 0 ≤ m) (h1 : m ≤ 1000) :
    ∃ t' a, Tape t' ∧ Dr m a ∧ 0 ≤ a.1 ∧ run P (n + 3) fd__law_fraction [t, .int m] = .ok (fr a) [t', .int m] := by
  obtain ⟨t1, d1, ht1, p1, q1, e1⟩ := s_draw (P := P) (n := n + 2) (m := 2) ht (by decide) (by decide)
  have u1 : mulOk 4 m := mulOk_l (by decide)
  by_cases hd : d1 = 0
  · subst hd
    obtain ⟨t2, d2, ht2, p2, q2, e2⟩ := s_draw (P := P) (n := n + 2) (m := 4 * m + 1) ht1 (by omega) (by omega)
    obtain ⟨t3, d3, ht3, p3, q3, e3⟩ := s_draw (P := P) (n := n + 2) (m := 4) ht2 (by decide) (by decide)
    have e4 := s_lfrac (P := P) (n := n) (t := d2) (b := 1 + d3) (by omega) (Nat.lt_of_lt_of_le (m := 2 ^ 12) (by omega) (pow_le_pow (by decide))) (Nat.lt_of_lt_of_le (m := 2 ^ 12) (by omega) (pow_le_pow (by decide)))
    have sm := nf_small (t := d2) (b := 1 + d3) (by omega)
    refine ⟨t3, nf d2 (1 + d3), ht3, ⟨Nf.nf (by omega), by omega, by omega⟩, ?_, ?_⟩
    · unfold nf
      rw [if_neg (by omega)]
      exact Int.ediv_nonneg p2 (Int.le_of_lt (gcd_pos (by omega)))
    rw [run_def rfl]
    simp [fd__law_fraction, b__law_fraction, bind_ok, bind_exc, fl_ok, fl_exc, use_none, use_some, use_exc, tmp_ok, tru_ok, tru_exc, liftO_some, slot_0, slot_s, ev_v, ev_fz, ev_mv, ev_g, ev_int, ev_str, ev_bl, ev_non, ev_nop, ev_ix, ev_fld, ev_sl, ev_bin, ev_neg, ev_not, ev_cmp, ev_chain, ev_and, ev_or, ev_itE, ev_tup, ev_lst, ev_call, ev_b1, ev_b2, ev_isi, ev_mm, ev_comp, evs_nIl, evs_cons, eva_nil, eva_cons, evw_rng1, evw_rng2, evw_enm, evw_zip, evw_seq, then_nx, then_ret, then_brk, then_ct, then_exc, env_nx, env_ret, evS_nil, evS_cons, blk_def, evS_asg, evS_par2, evS_par3, evS_aug, evS_puT, evS_ex, evS_ret, evS_retN, evS_iff, evS_whl, evS_foR, evS_brk, evS_cont, evS_pass, evS_raise, evS_try, endC_nx, endC_ret, endC_exc, raise_t, hnd_exc, hnd_nx, hnd_ret, sub_has, isi_bool_non, isi_bool_bl, isi_bool_int, isi_bool_str, isi_bool_tup, isi_bool_lst, isi_int_non, isi_int_bl, isi_int_int, isi_int_str, isi_int_tup, isi_int_lst, isi_str_non, isi_str_bl, isi_str_int, isi_str_str, isi_str_tup, isi_str_lst, isi_tuple_non, isi_tuple_bl, isi_tuple_int, isi_tuple_str, isi_tuple_tup, isi_tuple_lst, isi_list_non, isi_list_bl, isi_list_int, isi_list_str, isi_list_tup, isi_list_lst, evw_rng3, k_v, k_fz, k_mv, k_g, stpO, k_ix3, k_ix2, k_ix, k_fld2, k_fld, k_sl3, k_sl2, k_sl, k_bin2, k_bin, k_neg, bO, k_not, k_cmp2, k_cmp, k_ch4, k_ch3, k_ch2, k_ch, k_and2, k_and, k_or2, k_or, k_ite2, k_ite, k_tup, k_lst, k_ret, k_call2, k_call3, k_call, k_b1, k_b22, k_b2, k_isi, k_mm3, k_mm2, k_mm, cB, cT, cE, cW, k_comp2, k_comp, k_evs2, k_evs, k_eva2, k_eva, k_rng22, k_rng2, k_rng32, k_rng3, k_enm2, k_enm, k_zip4, k_zip3, k_zip2, k_zip, k_seqw, s_asg, s_par22, s_par2, s_aug3, s_aug2, s_aug, s_put3, s_put2, s_put, s_ex, s_ret, s_iff, s_opt, s_unl, s_hO, s_par3, s_for, ixN, liftF, bindT, bindT.bindTs, calmP, qt, isFrz, frzL, canFrz, canL, freeze, freezeL, avDs, avD, avOk, avRoots, Av.isVar, giveA, setE, getE, getS, setS, binD, slD, cmpD, b1D, b2D, trD, ixD, eqO, okEq, eqD, eqL, flat, okD, okL, dep, depL, start, behind, parOk, asgS, asgT, callN_has, G_has, f2Ok, items, walkD, walkP, unlend, sizeLine_eq, evh, evhs, putF, itmF, mmD, isLst, partD, par3F, noExc, ownOk, wipeE, backE, Pl.root, ht.nf, ht1.nf, ht2.nf, ht3.nf, e1, e2, e3, e4, u1]
  · obtain ⟨t2, d2, ht2, p2, q2, e2⟩ := s_draw (P := P) (n := n + 2) (m := m + 1) ht1 (by omega) (by omega)
    refine ⟨t2, (d2, 1), ht2, ⟨⟨by simp, by simp⟩, by simp; omega, by simp⟩, p2, ?_⟩
    rw [run_def rfl]
    simp [fd__law_fraction, b__law_fraction, bind_ok, bind_exc, fl_ok, fl_exc, use_none, use_some, use_exc, tmp_ok, tru_ok, tru_exc, liftO_some, slot_0, slot_s, ev_v, ev_fz, ev_mv, ev_g, ev_int, ev_str, ev_bl, ev_non, ev_nop, ev_ix, ev_fld, ev_sl, ev_bin, ev_neg, ev_not, ev_cmp, ev_chain, ev_and, ev_or, ev_itE, ev_tup, ev_lst, ev_call, ev_b1, ev_b2, ev_isi, ev_mm, ev_comp, evs_nIl, evs_cons, eva_nil, eva_cons, evw_rng1, evw_rng2, evw_enm, evw_zip, evw_seq, then_nx, then_ret, then_brk, then_ct, then_exc, env_nx, env_ret, evS_nil, evS_cons, blk_def, evS_asg, evS_par2, evS_par3, evS_aug, evS_puT, evS_ex, evS_ret, evS_retN, evS_iff, evS_whl, evS_foR, evS_brk, evS_cont, evS_pass, evS_raise, evS_try, endC_nx, endC_ret, endC_exc, raise_t, hnd_exc, hnd_nx, hnd_ret, sub_has, isi_bool_non, isi_bool_bl, isi_bool_int, isi_bool_str, isi_bool_tup, isi_bool_lst, isi_int_non, isi_int_bl, isi_int_int, isi_int_str, isi_int_tup, isi_int_lst, isi_str_non, isi_str_bl, isi_str_int, isi_str_str, isi_str_tup, isi_str_lst, isi_tuple_non, isi_tuple_bl, isi_tuple_int, isi_tuple_str, isi_tuple_tup, isi_tuple_lst, isi_list_non, isi_list_bl, isi_list_int, isi_list_str, isi_list_tup, isi_list_lst, evw_rng3, k_v, k_fz, k_mv, k_g, stpO, k_ix3, k_ix2, k_ix, k_fld2, k_fld, k_sl3, k_sl2, k_sl, k_bin2, k_bin, k_neg, bO, k_not, k_cmp2, k_cmp, k_ch4, k_ch3, k_ch2, k_ch, k_and2, k_and, k_or2, k_or, k_ite2, k_ite, k_tup, k_lst, k_ret, k_call2, k_call3, k_call, k_b1, k_b22, k_b2, k_isi, k_mm3, k_mm2, k_mm, cB, cT, cE, cW, k_comp2, k_comp, k_evs2, k_evs, k_eva2, k_eva, k_rng22, k_rng2, k_rng32, k_rng3, k_enm2, k_enm, k_zip4, k_zip3, k_zip2, k_zip, k_seqw, s_asg, s_par22, s_par2, s_aug3, s_aug2, s_aug, s_put3, s_put2, s_put, s_ex, s_ret, s_iff, s_opt, s_unl, s_hO, s_par3, s_for, ixN, liftF, bindT, bindT.bindTs, calmP, qt, isFrz, frzL, canFrz, canL, freeze, freezeL, avDs, avD, avOk, avRoots, Av.isVar, giveA, setE, getE, getS, setS, binD, slD, cmpD, b1D, b2D, trD, ixD, eqO, okEq, eqD, eqL, flat, okD, okL, dep, depL, start, behind, parOk, asgS, asgT, callN_has, G_has, f2Ok, items, walkD, walkP, unlend, sizeLine_eq, evh, evhs, putF, itmF, mmD, isLst, partD, par3F, noExc, ownOk, wipeE, backE, Pl.root, ht.nf, ht1.nf, ht2.nf, e1, e2, u1, hd]
variable [Has P "_law_fraction" fd__law_fraction]
theorem s_lsigned {t : D} {m : Int} (ht : Tape t) (h0 : 0 ≤ m) (h1 : m ≤ 1000) :
    ∃ t' a, Tape t' ∧ Dr m a ∧ run P (n + 4) fd__law_signed [t, .int m] = .ok (fr a) [t', .int m] := by
  obtain ⟨t1, a, ht1, da, pa, e1⟩ := s_lfraction (P := P) (n := n) ht h0 h1
  obtain ⟨t2, d2, ht2, p2, q2, e2⟩ := s_draw (P := P) (n := n + 3) (m := 2) ht1 (by decide) (by decide)
  by_cases hd : d2 = 0
  · subst hd
    refine ⟨t2, a, ht2, da, ?_⟩
    rw [run_def rfl]
    simp [fd__law_signed, b__law_signed, bind_ok, bind_exc, fl_ok, fl_exc, use_none, use_some, use_exc, tmp_ok, tru_ok, tru_exc, liftO_some, slot_0, slot_s, ev_v, ev_fz, ev_mv, ev_g, ev_int, ev_str, ev_bl, ev_non, ev_nop, ev_ix, ev_fld, ev_sl, ev_bin, ev_neg, ev_not, ev_cmp, ev_chain, ev_and, ev_or, ev_itE, ev_tup, ev_lst, ev_call, ev_b1, ev_b2, ev_isi, ev_mm, ev_comp, evs_nIl, evs_cons, eva_nil, eva_cons, evw_rng1, evw_rng2, evw_enm, evw_zip, evw_seq, then_nx, then_ret, then_brk, then_ct, then_exc, env_nx, env_ret, evS_nil, evS_cons, blk_def, evS_asg, evS_par2, evS_par3, evS_aug, evS_puT, evS_ex, evS_ret, evS_retN, evS_iff, evS_whl, evS_foR, evS_brk, evS_cont, evS_pass, evS_raise, evS_try, endC_nx, endC_ret, endC_exc, raise_t, hnd_exc, hnd_nx, hnd_ret, sub_has, isi_bool_non, isi_bool_bl, isi_bool_int, isi_bool_str, isi_bool_tup, isi_bool_lst, isi_int_non, isi_int_bl, isi_int_int, isi_int_str, isi_int_tup, isi_int_lst, isi_str_non, isi_str_bl, isi_str_int, isi_str_str, isi_str_tup, isi_str_lst, isi_tuple_non, isi_tuple_bl, isi_tuple_int, isi_tuple_str, isi_tuple_tup, isi_tuple_lst, isi_list_non, isi_list_bl, isi_list_int, isi_list_str, isi_list_tup, isi_list_lst, evw_rng3, k_v, k_fz, k_mv, k_g, stpO, k_ix3, k_ix2, k_ix, k_fld2, k_fld, k_sl3, k_sl2, k_sl, k_bin2, k_bin, k_neg, bO, k_not, k_cmp2, k_cmp, k_ch4, k_ch3, k_ch2, k_ch, k_and2, k_and, k_or2, k_or, k_ite2, k_ite, k_tup, k_lst, k_ret, k_call2, k_call3, k_call, k_b1, k_b22, k_b2, k_isi, k_mm3, k_mm2, k_mm, cB, cT, cE, cW, k_comp2, k_comp, k_evs2, k_evs, k_eva2, k_eva, k_rng22, k_rng2, k_rng32, k_rng3, k_enm2, k_enm, k_zip4, k_zip3, k_zip2, k_zip, k_seqw, s_asg, s_par22, s_par2, s_aug3, s_aug2, s_aug, s_put3, s_put2, s_put, s_ex, s_ret, s_iff, s_opt, s_unl, s_hO, s_par3, s_for, ixN, liftF, bindT, bindT.bindTs, calmP, qt, isFrz, frzL, canFrz, canL, freeze, freezeL, avDs, avD, avOk, avRoots, Av.isVar, giveA, setE, getE, getS, setS, binD, slD, cmpD, b1D, b2D, trD, ixD, eqO, okEq, eqD, eqL, flat, okD, okL, dep, depL, start, behind, parOk, asgS, asgT, callN_has, G_has, f2Ok, items, walkD, walkP, unlend, sizeLine_eq, evh, evhs, putF, itmF, mmD, isLst, partD, par3F, noExc, ownOk, wipeE, backE, Pl.root, ht.nf, ht1.nf, ht2.nf, e1, e2]
  · refine ⟨t2, (-a.1, a.2), ht2, ⟨⟨da.n.1, by simpa using da.n.2⟩, by simpa using da.t, da.b⟩, ?_⟩
    rw [run_def rfl]
    simp [fd__law_signed, b__law_signed, bind_ok, bind_exc, fl_ok, fl_exc, use_none, use_some, use_exc, tmp_ok, tru_ok, tru_exc, liftO_some, slot_0, slot_s, ev_v, ev_fz, ev_mv, ev_g, ev_int, ev_str, ev_bl, ev_non, ev_nop, ev_ix, ev_fld, ev_sl, ev_bin, ev_neg, ev_not, ev_cmp, ev_chain, ev_and, ev_or, ev_itE, ev_tup, ev_lst, ev_call, ev_b1, ev_b2, ev_isi, ev_mm, ev_comp, evs_nIl, evs_cons, eva_nil, eva_cons, evw_rng1, evw_rng2, evw_enm, evw_zip, evw_seq, then_nx, then_ret, then_brk, then_ct, then_exc, env_nx, env_ret, evS_nil, evS_cons, blk_def, evS_asg, evS_par2, evS_par3, evS_aug, evS_puT, evS_ex, evS_ret, evS_retN, evS_iff, evS_whl, evS_foR, evS_brk, evS_cont, evS_pass, evS_raise, evS_try, endC_nx, endC_ret, endC_exc, raise_t, hnd_exc, hnd_nx, hnd_ret, sub_has, isi_bool_non, isi_bool_bl, isi_bool_int, isi_bool_str, isi_bool_tup, isi_bool_lst, isi_int_non, isi_int_bl, isi_int_int, isi_int_str, isi_int_tup, isi_int_lst, isi_str_non, isi_str_bl, isi_str_int, isi_str_str, isi_str_tup, isi_str_lst, isi_tuple_non, isi_tuple_bl, isi_tuple_int, isi_tuple_str, isi_tuple_tup, isi_tuple_lst, isi_list_non, isi_list_bl, isi_list_int, isi_list_str, isi_list_tup, isi_list_lst, evw_rng3, k_v, k_fz, k_mv, k_g, stpO, k_ix3, k_ix2, k_ix, k_fld2, k_fld, k_sl3, k_sl2, k_sl, k_bin2, k_bin, k_neg, bO, k_not, k_cmp2, k_cmp, k_ch4, k_ch3, k_ch2, k_ch, k_and2, k_and, k_or2, k_or, k_ite2, k_ite, k_tup, k_lst, k_ret, k_call2, k_call3, k_call, k_b1, k_b22, k_b2, k_isi, k_mm3, k_mm2, k_mm, cB, cT, cE, cW, k_comp2, k_comp, k_evs2, k_evs, k_eva2, k_eva, k_rng22, k_rng2, k_rng32, k_rng3, k_enm2, k_enm, k_zip4, k_zip3, k_zip2, k_zip, k_seqw, s_asg, s_par22, s_par2, s_aug3, s_aug2, s_aug, s_put3, s_put2, s_put, s_ex, s_ret, s_iff, s_opt, s_unl, s_hO, s_par3, s_for, ixN, liftF, bindT, bindT.bindTs, calmP, qt, isFrz, frzL, canFrz, canL, freeze, freezeL, avDs, avD, avOk, avRoots, Av.isVar, giveA, setE, getE, getS, setS, binD, slD, cmpD, b1D, b2D, trD, ixD, eqO, okEq, eqD, eqL, flat, okD, okL, dep, depL, start, behind, parOk, asgS, asgT, callN_has, G_has, f2Ok, items, walkD, walkP, unlend, sizeLine_eq, evh, evhs, putF, itmF, mmD, isLst, partD, par3F, noExc, ownOk, wipeE, backE, Pl.root, ht.nf, ht1.nf, ht2.nf, e1, e2, hd]
end
end Ev.Fr

/-! FrE: rows of fractions. -/
namespace Ev.Fr
open PySem PySem.Spec PyProof.Rows L2
variable {P : Prg} {n : Nat}
def kind : D → Nat | .non => 0 | .bl _ => 1 | .int _ => 2 | .str _ => 3 | .tup _ => 4 | .lst _ _ => 5 | .dct _ _ => 6 | .ins _ _ _ => 7
theorem s_is {t d : D} (hk : kind t = kind d) (h6 : kind d < 6) (h : okEq t d = true) : run P n fd__law_is [t, d] = .ok (.bl (eqD t d)) [t, d] := by
  rw [run_def rfl]
  cases d <;> simp only [kind] at h6 <;> first | (exfalso; omega) | skip
  all_goals cases t <;> simp only [kind] at hk <;> first | (exfalso; omega) | skip
  · simp [fd__law_is, b__law_is, bind_ok, bind_exc, fl_ok, fl_exc, use_none, use_some, use_exc, tmp_ok, tru_ok, tru_exc, liftO_some, slot_0, slot_s, ev_v, ev_fz, ev_mv, ev_g, ev_int, ev_str, ev_bl, ev_non, ev_nop, ev_ix, ev_fld, ev_sl, ev_bin, ev_neg, ev_not, ev_cmp, ev_chain, ev_and, ev_or, ev_itE, ev_tup, ev_lst, ev_call, ev_b1, ev_b2, ev_isi, ev_mm, ev_comp, evs_nIl, evs_cons, eva_nil, eva_cons, evw_rng1, evw_rng2, evw_enm, evw_zip, evw_seq, then_nx, then_ret, then_brk, then_ct, then_exc, env_nx, env_ret, evS_nil, evS_cons, blk_def, evS_asg, evS_par2, evS_par3, evS_aug, evS_puT, evS_ex, evS_ret, evS_retN, evS_iff, evS_whl, evS_foR, evS_brk, evS_cont, evS_pass, evS_raise, evS_try, endC_nx, endC_ret, endC_exc, raise_t, hnd_exc, hnd_nx, hnd_ret, sub_has, isi_bool_non, isi_bool_bl, isi_bool_int, isi_bool_str, isi_bool_tup, isi_bool_lst, isi_int_non, isi_int_bl, isi_int_int, isi_int_str, isi_int_tup, isi_int_lst, isi_str_non, isi_str_bl, isi_str_int, isi_str_str, isi_str_tup, isi_str_lst, isi_tuple_non, isi_tuple_bl, isi_tuple_int, isi_tuple_str, isi_tuple_tup, isi_tuple_lst, isi_list_non, isi_list_bl, isi_list_int, isi_list_str, isi_list_tup, isi_list_lst, evw_rng3, k_v, k_fz, k_mv, k_g, stpO, k_ix3, k_ix2, k_ix, k_fld2, k_fld, k_sl3, k_sl2, k_sl, k_bin2, k_bin, k_neg, bO, k_not, k_cmp2, k_cmp, k_ch4, k_ch3, k_ch2, k_ch, k_and2, k_and, k_or2, k_or, k_ite2, k_ite, k_tup, k_lst, k_ret, k_call2, k_call3, k_call, k_b1, k_b22, k_b2, k_isi, k_mm3, k_mm2, k_mm, cB, cT, cE, cW, k_comp2, k_comp, k_evs2, k_evs, k_eva2, k_eva, k_rng22, k_rng2, k_rng32, k_rng3, k_enm2, k_enm, k_zip4, k_zip3, k_zip2, k_zip, k_seqw, s_asg, s_par22, s_par2, s_aug3, s_aug2, s_aug, s_put3, s_put2, s_put, s_ex, s_ret, s_iff, s_opt, s_unl, s_hO, s_par3, s_for, ixN, liftF, bindT, bindT.bindTs, calmP, qt, isFrz, frzL, canFrz, canL, freeze, freezeL, avDs, avD, avOk, avRoots, Av.isVar, giveA, setE, getE, getS, setS, binD, slD, cmpD, b1D, b2D, trD, ixD, eqO, okEq, eqD, eqL, flat, okD, okL, dep, depL, start, behind, parOk, asgS, asgT, callN_has, G_has, f2Ok, items, walkD, walkP, unlend, sizeLine_eq, evh, evhs, putF, itmF, mmD, isLst, partD, par3F, noExc, ownOk, wipeE, backE, Pl.root]
  · simp [fd__law_is, b__law_is, bind_ok, bind_exc, fl_ok, fl_exc, use_none, use_some, use_exc, tmp_ok, tru_ok, tru_exc, liftO_some, slot_0, slot_s, ev_v, ev_fz, ev_mv, ev_g, ev_int, ev_str, ev_bl, ev_non, ev_nop, ev_ix, ev_fld, ev_sl, ev_bin, ev_neg, ev_not, ev_cmp, ev_chain, ev_and, ev_or, ev_itE, ev_tup, ev_lst, ev_call, ev_b1, ev_b2, ev_isi, ev_mm, ev_comp, evs_nIl, evs_cons, eva_nil, eva_cons, evw_rng1, evw_rng2, evw_enm, evw_zip, evw_seq, then_nx, then_ret, then_brk, then_ct, then_exc, env_nx, env_ret, evS_nil, evS_cons, blk_def, evS_asg, evS_par2, evS_par3, evS_aug, evS_puT, evS_ex, evS_ret, evS_retN, evS_iff, evS_whl, evS_foR, evS_brk, evS_cont, evS_pass, evS_raise, evS_try, endC_nx, endC_ret, endC_exc, raise_t, hnd_exc, hnd_nx, hnd_ret, sub_has, isi_bool_non, isi_bool_bl, isi_bool_int, isi_bool_str, isi_bool_tup, isi_bool_lst, isi_int_non, isi_int_bl, isi_int_int, isi_int_str, isi_int_tup, isi_int_lst, isi_str_non, isi_str_bl, isi_str_int, isi_str_str, isi_str_tup, isi_str_lst, isi_tuple_non, isi_tuple_bl, isi_tuple_int, isi_tuple_str, isi_tuple_tup, isi_tuple_lst, isi_list_non, isi_list_bl, isi_list_int, isi_list_str, isi_list_tup, isi_list_lst, evw_rng3, k_v, k_fz, k_mv, k_g, stpO, k_ix3, k_ix2, k_ix, k_fld2, k_fld, k_sl3, k_sl2, k_sl, k_bin2, k_bin, k_neg, bO, k_not, k_cmp2, k_cmp, k_ch4, k_ch3, k_ch2, k_ch, k_and2, k_and, k_or2, k_or, k_ite2, k_ite, k_tup, k_lst, k_ret, k_call2, k_call3, k_call, k_b1, k_b22, k_b2, k_isi, k_mm3, k_mm2, k_mm, cB, cT, cE, cW, k_comp2, k_comp, k_evs2, k_evs, k_eva2, k_eva, k_rng22, k_rng2, k_rng32, k_rng3, k_enm2, k_enm, k_zip4, k_zip3, k_zip2, k_zip, k_seqw, s_asg, s_par22, s_par2, s_aug3, s_aug2, s_aug, s_put3, s_put2, s_put, s_ex, s_ret, s_iff, s_opt, s_unl, s_hO, s_par3, s_for, ixN, liftF, bindT, bindT.bindTs, calmP, qt, isFrz, frzL, canFrz, canL, freeze, freezeL, avDs, avD, avOk, avRoots, Av.isVar, giveA, setE, getE, getS, setS, binD, slD, cmpD, b1D, b2D, trD, ixD, eqO, okEq, eqD, eqL, flat, okD, okL, dep, depL, start, behind, parOk, asgS, asgT, callN_has, G_has, f2Ok, items, walkD, walkP, unlend, sizeLine_eq, evh, evhs, putF, itmF, mmD, isLst, partD, par3F, noExc, ownOk, wipeE, backE, Pl.root]
  · simp [fd__law_is, b__law_is, bind_ok, bind_exc, fl_ok, fl_exc, use_none, use_some, use_exc, tmp_ok, tru_ok, tru_exc, liftO_some, slot_0, slot_s, ev_v, ev_fz, ev_mv, ev_g, ev_int, ev_str, ev_bl, ev_non, ev_nop, ev_ix, ev_fld, ev_sl, ev_bin, ev_neg, ev_not, ev_cmp, ev_chain, ev_and, ev_or, ev_itE, ev_tup, ev_lst, ev_call, ev_b1, ev_b2, ev_isi, ev_mm, ev_comp, evs_nIl, evs_cons, eva_nil, eva_cons, evw_rng1, evw_rng2, evw_enm, evw_zip, evw_seq, then_nx, then_ret, then_brk, then_ct, then_exc, env_nx, env_ret, evS_nil, evS_cons, blk_def, evS_asg, evS_par2, evS_par3, evS_aug, evS_puT, evS_ex, evS_ret, evS_retN, evS_iff, evS_whl, evS_foR, evS_brk, evS_cont, evS_pass, evS_raise, evS_try, endC_nx, endC_ret, endC_exc, raise_t, hnd_exc, hnd_nx, hnd_ret, sub_has, isi_bool_non, isi_bool_bl, isi_bool_int, isi_bool_str, isi_bool_tup, isi_bool_lst, isi_int_non, isi_int_bl, isi_int_int, isi_int_str, isi_int_tup, isi_int_lst, isi_str_non, isi_str_bl, isi_str_int, isi_str_str, isi_str_tup, isi_str_lst, isi_tuple_non, isi_tuple_bl, isi_tuple_int, isi_tuple_str, isi_tuple_tup, isi_tuple_lst, isi_list_non, isi_list_bl, isi_list_int, isi_list_str, isi_list_tup, isi_list_lst, evw_rng3, k_v, k_fz, k_mv, k_g, stpO, k_ix3, k_ix2, k_ix, k_fld2, k_fld, k_sl3, k_sl2, k_sl, k_bin2, k_bin, k_neg, bO, k_not, k_cmp2, k_cmp, k_ch4, k_ch3, k_ch2, k_ch, k_and2, k_and, k_or2, k_or, k_ite2, k_ite, k_tup, k_lst, k_ret, k_call2, k_call3, k_call, k_b1, k_b22, k_b2, k_isi, k_mm3, k_mm2, k_mm, cB, cT, cE, cW, k_comp2, k_comp, k_evs2, k_evs, k_eva2, k_eva, k_rng22, k_rng2, k_rng32, k_rng3, k_enm2, k_enm, k_zip4, k_zip3, k_zip2, k_zip, k_seqw, s_asg, s_par22, s_par2, s_aug3, s_aug2, s_aug, s_put3, s_put2, s_put, s_ex, s_ret, s_iff, s_opt, s_unl, s_hO, s_par3, s_for, ixN, liftF, bindT, bindT.bindTs, calmP, qt, isFrz, frzL, canFrz, canL, freeze, freezeL, avDs, avD, avOk, avRoots, Av.isVar, giveA, setE, getE, getS, setS, binD, slD, cmpD, b1D, b2D, trD, ixD, eqO, okEq, eqD, eqL, flat, okD, okL, dep, depL, start, behind, parOk, asgS, asgT, callN_has, G_has, f2Ok, items, walkD, walkP, unlend, sizeLine_eq, evh, evhs, putF, itmF, mmD, isLst, partD, par3F, noExc, ownOk, wipeE, backE, Pl.root]
  · simp [fd__law_is, b__law_is, bind_ok, bind_exc, fl_ok, fl_exc, use_none, use_some, use_exc, tmp_ok, tru_ok, tru_exc, liftO_some, slot_0, slot_s, ev_v, ev_fz, ev_mv, ev_g, ev_int, ev_str, ev_bl, ev_non, ev_nop, ev_ix, ev_fld, ev_sl, ev_bin, ev_neg, ev_not, ev_cmp, ev_chain, ev_and, ev_or, ev_itE, ev_tup, ev_lst, ev_call, ev_b1, ev_b2, ev_isi, ev_mm, ev_comp, evs_nIl, evs_cons, eva_nil, eva_cons, evw_rng1, evw_rng2, evw_enm, evw_zip, evw_seq, then_nx, then_ret, then_brk, then_ct, then_exc, env_nx, env_ret, evS_nil, evS_cons, blk_def, evS_asg, evS_par2, evS_par3, evS_aug, evS_puT, evS_ex, evS_ret, evS_retN, evS_iff, evS_whl, evS_foR, evS_brk, evS_cont, evS_pass, evS_raise, evS_try, endC_nx, endC_ret, endC_exc, raise_t, hnd_exc, hnd_nx, hnd_ret, sub_has, isi_bool_non, isi_bool_bl, isi_bool_int, isi_bool_str, isi_bool_tup, isi_bool_lst, isi_int_non, isi_int_bl, isi_int_int, isi_int_str, isi_int_tup, isi_int_lst, isi_str_non, isi_str_bl, isi_str_int, isi_str_str, isi_str_tup, isi_str_lst, isi_tuple_non, isi_tuple_bl, isi_tuple_int, isi_tuple_str, isi_tuple_tup, isi_tuple_lst, isi_list_non, isi_list_bl, isi_list_int, isi_list_str, isi_list_tup, isi_list_lst, evw_rng3, k_v, k_fz, k_mv, k_g, stpO, k_ix3, k_ix2, k_ix, k_fld2, k_fld, k_sl3, k_sl2, k_sl, k_bin2, k_bin, k_neg, bO, k_not, k_cmp2, k_cmp, k_ch4, k_ch3, k_ch2, k_ch, k_and2, k_and, k_or2, k_or, k_ite2, k_ite, k_tup, k_lst, k_ret, k_call2, k_call3, k_call, k_b1, k_b22, k_b2, k_isi, k_mm3, k_mm2, k_mm, cB, cT, cE, cW, k_comp2, k_comp, k_evs2, k_evs, k_eva2, k_eva, k_rng22, k_rng2, k_rng32, k_rng3, k_enm2, k_enm, k_zip4, k_zip3, k_zip2, k_zip, k_seqw, s_asg, s_par22, s_par2, s_aug3, s_aug2, s_aug, s_put3, s_put2, s_put, s_ex, s_ret, s_iff, s_opt, s_unl, s_hO, s_par3, s_for, ixN, liftF, bindT, bindT.bindTs, calmP, qt, isFrz, frzL, canFrz, canL, freeze, freezeL, avDs, avD, avOk, avRoots, Av.isVar, giveA, setE, getE, getS, setS, binD, slD, cmpD, b1D, b2D, trD, ixD, eqO, okEq, eqD, eqL, flat, okD, okL, dep, depL, start, behind, parOk, asgS, asgT, callN_has, G_has, f2Ok, items, walkD, walkP, unlend, sizeLine_eq, evh, evhs, putF, itmF, mmD, isLst, partD, par3F, noExc, ownOk, wipeE, backE, Pl.root]
  · unfold okEq at h
    simp only [flat, Bool.false_and, Bool.false_or] at h
    simp [fd__law_is, b__law_is, bind_ok, bind_exc, fl_ok, fl_exc, use_none, use_some, use_exc, tmp_ok, tru_ok, tru_exc, liftO_some, slot_0, slot_s, ev_v, ev_fz, ev_mv, ev_g, ev_int, ev_str, ev_bl, ev_non, ev_nop, ev_ix, ev_fld, ev_sl, ev_bin, ev_neg, ev_not, ev_cmp, ev_chain, ev_and, ev_or, ev_itE, ev_tup, ev_lst, ev_call, ev_b1, ev_b2, ev_isi, ev_mm, ev_comp, evs_nIl, evs_cons, eva_nil, eva_cons, evw_rng1, evw_rng2, evw_enm, evw_zip, evw_seq, then_nx, then_ret, then_brk, then_ct, then_exc, env_nx, env_ret, evS_nil, evS_cons, blk_def, evS_asg, evS_par2, evS_par3, evS_aug, evS_puT, evS_ex, evS_ret, evS_retN, evS_iff, evS_whl, evS_foR, evS_brk, evS_cont, evS_pass, evS_raise, evS_try, endC_nx, endC_ret, endC_exc, raise_t, hnd_exc, hnd_nx, hnd_ret, sub_has, isi_bool_non, isi_bool_bl, isi_bool_int, isi_bool_str, isi_bool_tup, isi_bool_lst, isi_int_non, isi_int_bl, isi_int_int, isi_int_str, isi_int_tup, isi_int_lst, isi_str_non, isi_str_bl, isi_str_int, isi_str_str, isi_str_tup, isi_str_lst, isi_tuple_non, isi_tuple_bl, isi_tuple_int, isi_tuple_str, isi_tuple_tup, isi_tuple_lst, isi_list_non, isi_list_bl, isi_list_int, isi_list_str, isi_list_tup, isi_list_lst, evw_rng3, k_v, k_fz, k_mv, k_g, stpO, k_ix3, k_ix2, k_ix, k_fld2, k_fld, k_sl3, k_sl2, k_sl, k_bin2, k_bin, k_neg, bO, k_not, k_cmp2, k_cmp, k_ch4, k_ch3, k_ch2, k_ch, k_and2, k_and, k_or2, k_or, k_ite2, k_ite, k_tup, k_lst, k_ret, k_call2, k_call3, k_call, k_b1, k_b22, k_b2, k_isi, k_mm3, k_mm2, k_mm, cB, cT, cE, cW, k_comp2, k_comp, k_evs2, k_evs, k_eva2, k_eva, k_rng22, k_rng2, k_rng32, k_rng3, k_enm2, k_enm, k_zip4, k_zip3, k_zip2, k_zip, k_seqw, s_asg, s_par22, s_par2, s_aug3, s_aug2, s_aug, s_put3, s_put2, s_put, s_ex, s_ret, s_iff, s_opt, s_unl, s_hO, s_par3, s_for, ixN, liftF, bindT, bindT.bindTs, calmP, qt, isFrz, frzL, canFrz, canL, freeze, freezeL, avDs, avD, avOk, avRoots, Av.isVar, giveA, setE, getE, getS, setS, binD, slD, cmpD, b1D, b2D, trD, ixD, eqO, okEq, eqD, eqL, flat, okD, okL, dep, depL, start, behind, parOk, asgS, asgT, callN_has, G_has, f2Ok, items, walkD, walkP, unlend, sizeLine_eq, evh, evhs, putF, itmF, mmD, isLst, partD, par3F, noExc, ownOk, wipeE, backE, Pl.root, h] at h ⊢
    simp [bind_ok, bind_exc, fl_ok, fl_exc, use_none, use_some, use_exc, tmp_ok, tru_ok, tru_exc, liftO_some, slot_0, slot_s, ev_v, ev_fz, ev_mv, ev_g, ev_int, ev_str, ev_bl, ev_non, ev_nop, ev_ix, ev_fld, ev_sl, ev_bin, ev_neg, ev_not, ev_cmp, ev_chain, ev_and, ev_or, ev_itE, ev_tup, ev_lst, ev_call, ev_b1, ev_b2, ev_isi, ev_mm, ev_comp, evs_nIl, evs_cons, eva_nil, eva_cons, evw_rng1, evw_rng2, evw_enm, evw_zip, evw_seq, then_nx, then_ret, then_brk, then_ct, then_exc, env_nx, env_ret, evS_nil, evS_cons, blk_def, evS_asg, evS_par2, evS_par3, evS_aug, evS_puT, evS_ex, evS_ret, evS_retN, evS_iff, evS_whl, evS_foR, evS_brk, evS_cont, evS_pass, evS_raise, evS_try, endC_nx, endC_ret, endC_exc, raise_t, hnd_exc, hnd_nx, hnd_ret, sub_has, isi_bool_non, isi_bool_bl, isi_bool_int, isi_bool_str, isi_bool_tup, isi_bool_lst, isi_int_non, isi_int_bl, isi_int_int, isi_int_str, isi_int_tup, isi_int_lst, isi_str_non, isi_str_bl, isi_str_int, isi_str_str, isi_str_tup, isi_str_lst, isi_tuple_non, isi_tuple_bl, isi_tuple_int, isi_tuple_str, isi_tuple_tup, isi_tuple_lst, isi_list_non, isi_list_bl, isi_list_int, isi_list_str, isi_list_tup, isi_list_lst, evw_rng3, k_v, k_fz, k_mv, k_g, stpO, k_ix3, k_ix2, k_ix, k_fld2, k_fld, k_sl3, k_sl2, k_sl, k_bin2, k_bin, k_neg, bO, k_not, k_cmp2, k_cmp, k_ch4, k_ch3, k_ch2, k_ch, k_and2, k_and, k_or2, k_or, k_ite2, k_ite, k_tup, k_lst, k_ret, k_call2, k_call3, k_call, k_b1, k_b22, k_b2, k_isi, k_mm3, k_mm2, k_mm, cB, cT, cE, cW, k_comp2, k_comp, k_evs2, k_evs, k_eva2, k_eva, k_rng22, k_rng2, k_rng32, k_rng3, k_enm2, k_enm, k_zip4, k_zip3, k_zip2, k_zip, k_seqw, s_asg, s_par22, s_par2, s_aug3, s_aug2, s_aug, s_put3, s_put2, s_put, s_ex, s_ret, s_iff, s_opt, s_unl, s_hO, s_par3, s_for, ixN, liftF, bindT, bindT.bindTs, calmP, qt, isFrz, frzL, canFrz, canL, freeze, freezeL, avDs, avD, avOk, avRoots, Av.isVar, giveA, setE, getE, getS, setS, binD, slD, cmpD, b1D, b2D, trD, ixD, eqO, okEq, eqD, eqL, flat, okD, okL, dep, depL, start, behind, parOk, asgS, asgT, callN_has, G_has, f2Ok, items, walkD, walkP, unlend, sizeLine_eq, evh, evhs, putF, itmF, mmD, isLst, partD, par3F, noExc, ownOk, wipeE, backE, Pl.root, h]
  · unfold okEq at h
    simp only [flat, Bool.false_and, Bool.false_or] at h
    simp [fd__law_is, b__law_is, bind_ok, bind_exc, fl_ok, fl_exc, use_none, use_some, use_exc, tmp_ok, tru_ok, tru_exc, liftO_some, slot_0, slot_s, ev_v, ev_fz, ev_mv, ev_g, ev_int, ev_str, ev_bl, ev_non, ev_nop, ev_ix, ev_fld, ev_sl, ev_bin, ev_neg, ev_not, ev_cmp, ev_chain, ev_and, ev_or, ev_itE, ev_tup, ev_lst, ev_call, ev_b1, ev_b2, ev_isi, ev_mm, ev_comp, evs_nIl, evs_cons, eva_nil, eva_cons, evw_rng1, evw_rng2, evw_enm, evw_zip, evw_seq, then_nx, then_ret, then_brk, then_ct, then_exc, env_nx, env_ret, evS_nil, evS_cons, blk_def, evS_asg, evS_par2, evS_par3, evS_aug, evS_puT, evS_ex, evS_ret, evS_retN, evS_iff, evS_whl, evS_foR, evS_brk, evS_cont, evS_pass, evS_raise, evS_try, endC_nx, endC_ret, endC_exc, raise_t, hnd_exc, hnd_nx, hnd_ret, sub_has, isi_bool_non, isi_bool_bl, isi_bool_int, isi_bool_str, isi_bool_tup, isi_bool_lst, isi_int_non, isi_int_bl, isi_int_int, isi_int_str, isi_int_tup, isi_int_lst, isi_str_non, isi_str_bl, isi_str_int, isi_str_str, isi_str_tup, isi_str_lst, isi_tuple_non, isi_tuple_bl, isi_tuple_int, isi_tuple_str, isi_tuple_tup, isi_tuple_lst, isi_list_non, isi_list_bl, isi_list_int, isi_list_str, isi_list_tup, isi_list_lst, evw_rng3, k_v, k_fz, k_mv, k_g, stpO, k_ix3, k_ix2, k_ix, k_fld2, k_fld, k_sl3, k_sl2, k_sl, k_bin2, k_bin, k_neg, bO, k_not, k_cmp2, k_cmp, k_ch4, k_ch3, k_ch2, k_ch, k_and2, k_and, k_or2, k_or, k_ite2, k_ite, k_tup, k_lst, k_ret, k_call2, k_call3, k_call, k_b1, k_b22, k_b2, k_isi, k_mm3, k_mm2, k_mm, cB, cT, cE, cW, k_comp2, k_comp, k_evs2, k_evs, k_eva2, k_eva, k_rng22, k_rng2, k_rng32, k_rng3, k_enm2, k_enm, k_zip4, k_zip3, k_zip2, k_zip, k_seqw, s_asg, s_par22, s_par2, s_aug3, s_aug2, s_aug, s_put3, s_put2, s_put, s_ex, s_ret, s_iff, s_opt, s_unl, s_hO, s_par3, s_for, ixN, liftF, bindT, bindT.bindTs, calmP, qt, isFrz, frzL, canFrz, canL, freeze, freezeL, avDs, avD, avOk, avRoots, Av.isVar, giveA, setE, getE, getS, setS, binD, slD, cmpD, b1D, b2D, trD, ixD, eqO, okEq, eqD, eqL, flat, okD, okL, dep, depL, start, behind, parOk, asgS, asgT, callN_has, G_has, f2Ok, items, walkD, walkP, unlend, sizeLine_eq, evh, evhs, putF, itmF, mmD, isLst, partD, par3F, noExc, ownOk, wipeE, backE, Pl.root, h] at h ⊢
    simp [bind_ok, bind_exc, fl_ok, fl_exc, use_none, use_some, use_exc, tmp_ok, tru_ok, tru_exc, liftO_some, slot_0, slot_s, ev_v, ev_fz, ev_mv, ev_g, ev_int, ev_str, ev_bl, ev_non, ev_nop, ev_ix, ev_fld, ev_sl, ev_bin, ev_neg, ev_not, ev_cmp, ev_chain, ev_and, ev_or, ev_itE, ev_tup, ev_lst, ev_call, ev_b1, ev_b2, ev_isi, ev_mm, ev_comp, evs_nIl, evs_cons, eva_nil, eva_cons, evw_rng1, evw_rng2, evw_enm, evw_zip, evw_seq, then_nx, then_ret, then_brk, then_ct, then_exc, env_nx, env_ret, evS_nil, evS_cons, blk_def, evS_asg, evS_par2, evS_par3, evS_aug, evS_puT, evS_ex, evS_ret, evS_retN, evS_iff, evS_whl, evS_foR, evS_brk, evS_cont, evS_pass, evS_raise, evS_try, endC_nx, endC_ret, endC_exc, raise_t, hnd_exc, hnd_nx, hnd_ret, sub_has, isi_bool_non, isi_bool_bl, isi_bool_int, isi_bool_str, isi_bool_tup, isi_bool_lst, isi_int_non, isi_int_bl, isi_int_int, isi_int_str, isi_int_tup, isi_int_lst, isi_str_non, isi_str_bl, isi_str_int, isi_str_str, isi_str_tup, isi_str_lst, isi_tuple_non, isi_tuple_bl, isi_tuple_int, isi_tuple_str, isi_tuple_tup, isi_tuple_lst, isi_list_non, isi_list_bl, isi_list_int, isi_list_str, isi_list_tup, isi_list_lst, evw_rng3, k_v, k_fz, k_mv, k_g, stpO, k_ix3, k_ix2, k_ix, k_fld2, k_fld, k_sl3, k_sl2, k_sl, k_bin2, k_bin, k_neg, bO, k_not, k_cmp2, k_cmp, k_ch4, k_ch3, k_ch2, k_ch, k_and2, k_and, k_or2, k_or, k_ite2, k_ite, k_tup, k_lst, k_ret, k_call2, k_call3, k_call, k_b1, k_b22, k_b2, k_isi, k_mm3, k_mm2, k_mm, cB, cT, cE, cW, k_comp2, k_comp, k_evs2, k_evs, k_eva2, k_eva, k_rng22, k_rng2, k_rng32, k_rng3, k_enm2, k_enm, k_zip4, k_zip3, k_zip2, k_zip, k_seqw, s_asg, s_par22, s_par2, s_aug3, s_aug2, s_aug, s_put3, s_put2, s_put, s_ex, s_ret, s_iff, s_opt, s_unl, s_hO, s_par3, s_for, ixN, liftF, bindT, bindT.bindTs, calmP, qt, isFrz, frzL, canFrz, canL, freeze, freezeL, avDs, avD, avOk, avRoots, Av.isVar, giveA, setE, getE, getS, setS, binD, slD, cmpD, b1D, b2D, trD, ixD, eqO, okEq, eqD, eqL, flat, okD, okL, dep, depL, start, behind, parOk, asgS, asgT, callN_has, G_has, f2Ok, items, walkD, walkP, unlend, sizeLine_eq, evh, evhs, putF, itmF, mmD, isLst, partD, par3F, noExc, ownOk, wipeE, backE, Pl.root, h]
theorem s_same {a b : Bool} : run P n fd__law_same [.bl a, .bl b] = .ok (.bl (a == b)) [.bl a, .bl b] := by
  rw [run_def rfl]
  simp [fd__law_same, b__law_same, bind_ok, bind_exc, fl_ok, fl_exc, use_none, use_some, use_exc, tmp_ok, tru_ok, tru_exc, liftO_some, slot_0, slot_s, ev_v, ev_fz, ev_mv, ev_g, ev_int, ev_str, ev_bl, ev_non, ev_nop, ev_ix, ev_fld, ev_sl, ev_bin, ev_neg, ev_not, ev_cmp, ev_chain, ev_and, ev_or, ev_itE, ev_tup, ev_lst, ev_call, ev_b1, ev_b2, ev_isi, ev_mm, ev_comp, evs_nIl, evs_cons, eva_nil, eva_cons, evw_rng1, evw_rng2, evw_enm, evw_zip, evw_seq, then_nx, then_ret, then_brk, then_ct, then_exc, env_nx, env_ret, evS_nil, evS_cons, blk_def, evS_asg, evS_par2, evS_par3, evS_aug, evS_puT, evS_ex, evS_ret, evS_retN, evS_iff, evS_whl, evS_foR, evS_brk, evS_cont, evS_pass, evS_raise, evS_try, endC_nx, endC_ret, endC_exc, raise_t, hnd_exc, hnd_nx, hnd_ret, sub_has, isi_bool_non, isi_bool_bl, isi_bool_int, isi_bool_str, isi_bool_tup, isi_bool_lst, isi_int_non, isi_int_bl, isi_int_int, isi_int_str, isi_int_tup, isi_int_lst, isi_str_non, isi_str_bl, isi_str_int, isi_str_str, isi_str_tup, isi_str_lst, isi_tuple_non, isi_tuple_bl, isi_tuple_int, isi_tuple_str, isi_tuple_tup, isi_tuple_lst, isi_list_non, isi_list_bl, isi_list_int, isi_list_str, isi_list_tup, isi_list_lst, evw_rng3, k_v, k_fz, k_mv, k_g, stpO, k_ix3, k_ix2, k_ix, k_fld2, k_fld, k_sl3, k_sl2, k_sl, k_bin2, k_bin, k_neg, bO, k_not, k_cmp2, k_cmp, k_ch4, k_ch3, k_ch2, k_ch, k_and2, k_and, k_or2, k_or, k_ite2, k_ite, k_tup, k_lst, k_ret, k_call2, k_call3, k_call, k_b1, k_b22, k_b2, k_isi, k_mm3, k_mm2, k_mm, cB, cT, cE, cW, k_comp2, k_comp, k_evs2, k_evs, k_eva2, k_eva, k_rng22, k_rng2, k_rng32, k_rng3, k_enm2, k_enm, k_zip4, k_zip3, k_zip2, k_zip, k_seqw, s_asg, s_par22, s_par2, s_aug3, s_aug2, s_aug, s_put3, s_put2, s_put, s_ex, s_ret, s_iff, s_opt, s_unl, s_hO, s_par3, s_for, ixN, liftF, bindT, bindT.bindTs, calmP, qt, isFrz, frzL, canFrz, canL, freeze, freezeL, avDs, avD, avOk, avRoots, Av.isVar, giveA, setE, getE, getS, setS, binD, slD, cmpD, b1D, b2D, trD, ixD, eqO, okEq, eqD, eqL, flat, okD, okL, dep, depL, start, behind, parOk, asgS, asgT, callN_has, G_has, f2Ok, items, walkD, walkP, unlend, sizeLine_eq, evh, evhs, putF, itmF, mmD, isLst, partD, par3F, noExc, ownOk, wipeE, backE, Pl.root]
theorem s_none {a : Int × Int} {k : Nat} (hk : k ≤ 3000) (ha : Q k a) [HasG P "math.gcd" .non] [HasG P (excKey "BadNumber") (.bl true)] [HasSub P "BadNumber" "BadNumber" true] [Has P "fraction" fd_fraction] [Has P "over" fd_over] {w : Int} (hw : w = 0 ∨ w = 1) :
    run P (n + 2) fd__law_none [a |> fr, fr (0, 1), .int w] = .ok (.bl true) [fr a, fr (0, 1), .int w] := by
  have h1 := s_fraction0 (P := P) (n := n + 1) a.1
  have h2 := s_over0 (P := P) (n := n) (a := a) (b := (0, 1)) hk (l := 1) (by decide) ha ⟨by decide, by decide, by decide⟩ rfl
  rw [run_def rfl]
  rcases hw with rfl | rfl
  · simp [fd__law_none, b__law_none, bind_ok, bind_exc, fl_ok, fl_exc, use_none, use_some, use_exc, tmp_ok, tru_ok, tru_exc, liftO_some, slot_0, slot_s, ev_v, ev_fz, ev_mv, ev_g, ev_int, ev_str, ev_bl, ev_non, ev_nop, ev_ix, ev_fld, ev_sl, ev_bin, ev_neg, ev_not, ev_cmp, ev_chain, ev_and, ev_or, ev_itE, ev_tup, ev_lst, ev_call, ev_b1, ev_b2, ev_isi, ev_mm, ev_comp, evs_nIl, evs_cons, eva_nil, eva_cons, evw_rng1, evw_rng2, evw_enm, evw_zip, evw_seq, then_nx, then_ret, then_brk, then_ct, then_exc, env_nx, env_ret, evS_nil, evS_cons, blk_def, evS_asg, evS_par2, evS_par3, evS_aug, evS_puT, evS_ex, evS_ret, evS_retN, evS_iff, evS_whl, evS_foR, evS_brk, evS_cont, evS_pass, evS_raise, evS_try, endC_nx, endC_ret, endC_exc, raise_t, hnd_exc, hnd_nx, hnd_ret, sub_has, isi_bool_non, isi_bool_bl, isi_bool_int, isi_bool_str, isi_bool_tup, isi_bool_lst, isi_int_non, isi_int_bl, isi_int_int, isi_int_str, isi_int_tup, isi_int_lst, isi_str_non, isi_str_bl, isi_str_int, isi_str_str, isi_str_tup, isi_str_lst, isi_tuple_non, isi_tuple_bl, isi_tuple_int, isi_tuple_str, isi_tuple_tup, isi_tuple_lst, isi_list_non, isi_list_bl, isi_list_int, isi_list_str, isi_list_tup, isi_list_lst, evw_rng3, k_v, k_fz, k_mv, k_g, stpO, k_ix3, k_ix2, k_ix, k_fld2, k_fld, k_sl3, k_sl2, k_sl, k_bin2, k_bin, k_neg, bO, k_not, k_cmp2, k_cmp, k_ch4, k_ch3, k_ch2, k_ch, k_and2, k_and, k_or2, k_or, k_ite2, k_ite, k_tup, k_lst, k_ret, k_call2, k_call3, k_call, k_b1, k_b22, k_b2, k_isi, k_mm3, k_mm2, k_mm, cB, cT, cE, cW, k_comp2, k_comp, k_evs2, k_evs, k_eva2, k_eva, k_rng22, k_rng2, k_rng32, k_rng3, k_enm2, k_enm, k_zip4, k_zip3, k_zip2, k_zip, k_seqw, s_asg, s_par22, s_par2, s_aug3, s_aug2, s_aug, s_put3, s_put2, s_put, s_ex, s_ret, s_iff, s_opt, s_unl, s_hO, s_par3, s_for, ixN, liftF, bindT, bindT.bindTs, calmP, qt, isFrz, frzL, canFrz, canL, freeze, freezeL, avDs, avD, avOk, avRoots, Av.isVar, giveA, setE, getE, getS, setS, binD, slD, cmpD, b1D, b2D, trD, ixD, eqO, okEq, eqD, eqL, flat, okD, okL, dep, depL, start, behind, parOk, asgS, asgT, callN_has, G_has, f2Ok, items, walkD, walkP, unlend, sizeLine_eq, evh, evhs, putF, itmF, mmD, isLst, partD, par3F, noExc, ownOk, wipeE, backE, Pl.root, h1]
  · simp [fd__law_none, b__law_none, bind_ok, bind_exc, fl_ok, fl_exc, use_none, use_some, use_exc, tmp_ok, tru_ok, tru_exc, liftO_some, slot_0, slot_s, ev_v, ev_fz, ev_mv, ev_g, ev_int, ev_str, ev_bl, ev_non, ev_nop, ev_ix, ev_fld, ev_sl, ev_bin, ev_neg, ev_not, ev_cmp, ev_chain, ev_and, ev_or, ev_itE, ev_tup, ev_lst, ev_call, ev_b1, ev_b2, ev_isi, ev_mm, ev_comp, evs_nIl, evs_cons, eva_nil, eva_cons, evw_rng1, evw_rng2, evw_enm, evw_zip, evw_seq, then_nx, then_ret, then_brk, then_ct, then_exc, env_nx, env_ret, evS_nil, evS_cons, blk_def, evS_asg, evS_par2, evS_par3, evS_aug, evS_puT, evS_ex, evS_ret, evS_retN, evS_iff, evS_whl, evS_foR, evS_brk, evS_cont, evS_pass, evS_raise, evS_try, endC_nx, endC_ret, endC_exc, raise_t, hnd_exc, hnd_nx, hnd_ret, sub_has, isi_bool_non, isi_bool_bl, isi_bool_int, isi_bool_str, isi_bool_tup, isi_bool_lst, isi_int_non, isi_int_bl, isi_int_int, isi_int_str, isi_int_tup, isi_int_lst, isi_str_non, isi_str_bl, isi_str_int, isi_str_str, isi_str_tup, isi_str_lst, isi_tuple_non, isi_tuple_bl, isi_tuple_int, isi_tuple_str, isi_tuple_tup, isi_tuple_lst, isi_list_non, isi_list_bl, isi_list_int, isi_list_str, isi_list_tup, isi_list_lst, evw_rng3, k_v, k_fz, k_mv, k_g, stpO, k_ix3, k_ix2, k_ix, k_fld2, k_fld, k_sl3, k_sl2, k_sl, k_bin2, k_bin, k_neg, bO, k_not, k_cmp2, k_cmp, k_ch4, k_ch3, k_ch2, k_ch, k_and2, k_and, k_or2, k_or, k_ite2, k_ite, k_tup, k_lst, k_ret, k_call2, k_call3, k_call, k_b1, k_b22, k_b2, k_isi, k_mm3, k_mm2, k_mm, cB, cT, cE, cW, k_comp2, k_comp, k_evs2, k_evs, k_eva2, k_eva, k_rng22, k_rng2, k_rng32, k_rng3, k_enm2, k_enm, k_zip4, k_zip3, k_zip2, k_zip, k_seqw, s_asg, s_par22, s_par2, s_aug3, s_aug2, s_aug, s_put3, s_put2, s_put, s_ex, s_ret, s_iff, s_opt, s_unl, s_hO, s_par3, s_for, ixN, liftF, bindT, bindT.bindTs, calmP, qt, isFrz, frzL, canFrz, canL, freeze, freezeL, avDs, avD, avOk, avRoots, Av.isVar, giveA, setE, getE, getS, setS, binD, slD, cmpD, b1D, b2D, trD, ixD, eqO, okEq, eqD, eqL, flat, okD, okL, dep, depL, start, behind, parOk, asgS, asgT, callN_has, G_has, f2Ok, items, walkD, walkP, unlend, sizeLine_eq, evh, evhs, putF, itmF, mmD, isLst, partD, par3F, noExc, ownOk, wipeE, backE, Pl.root, h2]
/-! ### sums -/
theorem add_q {k l : Nat} {a b : Int × Int} (ha : Q k a) (hb : Q l b) : Q (k + l + 1) (add a b) := by
  have h4 : a.2 * b.2 ≠ 0 := Int.ne_of_gt (Int.mul_pos ha.p hb.p)
  have h5 : (a.2 * b.2).natAbs < 2 ^ (k + l) := natAbs_mul_lt ha.b hb.b
  have h6 : (a.1 * b.2).natAbs < 2 ^ (k + l) := natAbs_mul_lt ha.t hb.b
  have h7 : (b.1 * a.2).natAbs < 2 ^ (k + l) := by rw [Nat.add_comm k l]; exact natAbs_mul_lt hb.t ha.b
  have h8 : (a.1 * b.2 + b.1 * a.2).natAbs < 2 ^ (k + l + 1) := by rw [Nat.pow_succ]; omega
  exact nf_le h4 h8 (Nat.lt_of_lt_of_le h5 (pow_le_pow (by omega)))
def Ow.ok (o : Ow) : Prop := o = .own ∨ o = .frz
/-- a loop over fractions whose step keeps the first slot, turns the second one, sets the third one -/
theorem fold_loop {α : Type} {step : D → Env → Fl} {f : Int × Int → α → Int × Int} {dec : α → D} {x0 : Option D} (I : Int × Int → Nat → Prop) (J : α → Prop) (w : Nat)
    (h : ∀ acc x o k, k ≤ 50 → J x → I acc k → step (dec x) [x0, some (fr acc), o] = .nx [x0, some (fr (f acc x)), some (dec x)] ∧ I (f acc x) (w + k)) :
    ∀ (L : List α) (acc : Int × Int) (o : Option D) (k : Nat), (∀ x ∈ L, J x) → I acc k → k + w * L.length ≤ 50 →
      ∃ o', forL step (L.map dec) [x0, some (fr acc), o] = .nx [x0, some (fr (L.foldl f acc)), o']
  | [], acc, o, k, _, _, _ => ⟨o, rfl⟩
  | x :: r, acc, o, k, hj, hi, hk => by
    rw [List.length_cons, Nat.mul_succ] at hk
    obtain ⟨e, hi2⟩ := h acc x o k (by omega) (hj x (List.mem_cons_self ..)) hi
    obtain ⟨o', e2⟩ := fold_loop I J w h r (f acc x) (some (dec x)) (w + k) (fun y hy => hj y (List.mem_cons_of_mem _ hy)) hi2 (by omega)
    refine ⟨o', ?_⟩
    simp only [List.map_cons, forL, e]
    exact e2
def sumF (L : List (Int × Int)) : Int × Int := L.foldl add (0, 1)
theorem q01 : Q 1 (0, 1) := ⟨by decide, by decide, by decide⟩
section
variable {L : List (Int × Int)} {o : Ow} (ho : Ow.ok o) (hL : ∀ x ∈ L, Q 4 x) (hn : L.length ≤ 9)
include ho hL hn
theorem s_total [HasG P "math.gcd" .non] [HasG P "ZERO" (fr (0, 1))] [Has P "fraction" fd_fraction] [Has P "add" fd_add] :
    run P (n + 2) fd_total_of [.lst o (L.map fr)] = .ok (fr (sumF L)) [.lst o (L.map fr)] := by
  have loop : ∀ x0, ∃ o', forL (s_step (callN P (n + 2)) P.G P.isSub nWhile (.v 2) (.cons (.asg (.v 1) (.call "add" (.cons (.v 1) (.cons (.v 2) .nil)))) .nil)) (L.map fr) [x0, some (fr (0, 1)), none] = .nx [x0, some (fr (L.foldl add (0, 1))), o'] := fun x0 => by
    refine fold_loop (f := add) (fun acc k => Q k acc) (fun x => Q 4 x) 5 ?_ L (0, 1) none 1 hL q01 (by omega)
    intro acc x o' k hk hj hi
    have e := s_add (P := P) (n := n) (by omega) (by decide) hi hj
    refine ⟨?_, (add_q hi hj).mono (by omega)⟩
    simp [s_step, s_opt, bind_ok, bind_exc, fl_ok, fl_exc, use_none, use_some, use_exc, tmp_ok, tru_ok, tru_exc, liftO_some, slot_0, slot_s, ev_v, ev_fz, ev_mv, ev_g, ev_int, ev_str, ev_bl, ev_non, ev_nop, ev_ix, ev_fld, ev_sl, ev_bin, ev_neg, ev_not, ev_cmp, ev_chain, ev_and, ev_or, ev_itE, ev_tup, ev_lst, ev_call, ev_b1, ev_b2, ev_isi, ev_mm, ev_comp, evs_nIl, evs_cons, eva_nil, eva_cons, evw_rng1, evw_rng2, evw_enm, evw_zip, evw_seq, then_nx, then_ret, then_brk, then_ct, then_exc, env_nx, env_ret, evS_nil, evS_cons, blk_def, evS_asg, evS_par2, evS_par3, evS_aug, evS_puT, evS_ex, evS_ret, evS_retN, evS_iff, evS_whl, evS_foR, evS_brk, evS_cont, evS_pass, evS_raise, evS_try, endC_nx, endC_ret, endC_exc, raise_t, hnd_exc, hnd_nx, hnd_ret, sub_has, isi_bool_non, isi_bool_bl, isi_bool_int, isi_bool_str, isi_bool_tup, isi_bool_lst, isi_int_non, isi_int_bl, isi_int_int, isi_int_str, isi_int_tup, isi_int_lst, isi_str_non, isi_str_bl, isi_str_int, isi_str_str, isi_str_tup, isi_str_lst, isi_tuple_non, isi_tuple_bl, isi_tuple_int, isi_tuple_str, isi_tuple_tup, isi_tuple_lst, isi_list_non, isi_list_bl, isi_list_int, isi_list_str, isi_list_tup, isi_list_lst, evw_rng3, k_v, k_fz, k_mv, k_g, stpO, k_ix3, k_ix2, k_ix, k_fld2, k_fld, k_sl3, k_sl2, k_sl, k_bin2, k_bin, k_neg, bO, k_not, k_cmp2, k_cmp, k_ch4, k_ch3, k_ch2, k_ch, k_and2, k_and, k_or2, k_or, k_ite2, k_ite, k_tup, k_lst, k_ret, k_call2, k_call3, k_call, k_b1, k_b22, k_b2, k_isi, k_mm3, k_mm2, k_mm, cB, cT, cE, cW, k_comp2, k_comp, k_evs2, k_evs, k_eva2, k_eva, k_rng22, k_rng2, k_rng32, k_rng3, k_enm2, k_enm, k_zip4, k_zip3, k_zip2, k_zip, k_seqw, s_asg, s_par22, s_par2, s_aug3, s_aug2, s_aug, s_put3, s_put2, s_put, s_ex, s_ret, s_iff, s_opt, s_unl, s_hO, s_par3, s_for, ixN, liftF, bindT, bindT.bindTs, calmP, qt, isFrz, frzL, canFrz, canL, freeze, freezeL, avDs, avD, avOk, avRoots, Av.isVar, giveA, setE, getE, getS, setS, binD, slD, cmpD, b1D, b2D, trD, ixD, eqO, okEq, eqD, eqL, flat, okD, okL, dep, depL, start, behind, parOk, asgS, asgT, callN_has, G_has, f2Ok, items, walkD, walkP, unlend, sizeLine_eq, evh, evhs, putF, itmF, mmD, isLst, partD, par3F, noExc, ownOk, wipeE, backE, Pl.root, e]
  rw [run_def rfl]
  rcases ho with rfl | rfl
  · obtain ⟨o', e⟩ := loop none
    simp [fd_total_of, b_total_of, bind_ok, bind_exc, fl_ok, fl_exc, use_none, use_some, use_exc, tmp_ok, tru_ok, tru_exc, liftO_some, slot_0, slot_s, ev_v, ev_fz, ev_mv, ev_g, ev_int, ev_str, ev_bl, ev_non, ev_nop, ev_ix, ev_fld, ev_sl, ev_bin, ev_neg, ev_not, ev_cmp, ev_chain, ev_and, ev_or, ev_itE, ev_tup, ev_lst, ev_call, ev_b1, ev_b2, ev_isi, ev_mm, ev_comp, evs_nIl, evs_cons, eva_nil, eva_cons, evw_rng1, evw_rng2, evw_enm, evw_zip, evw_seq, then_nx, then_ret, then_brk, then_ct, then_exc, env_nx, env_ret, evS_nil, evS_cons, blk_def, evS_asg, evS_par2, evS_par3, evS_aug, evS_puT, evS_ex, evS_ret, evS_retN, evS_iff, evS_whl, evS_foR, evS_brk, evS_cont, evS_pass, evS_raise, evS_try, endC_nx, endC_ret, endC_exc, raise_t, hnd_exc, hnd_nx, hnd_ret, sub_has, isi_bool_non, isi_bool_bl, isi_bool_int, isi_bool_str, isi_bool_tup, isi_bool_lst, isi_int_non, isi_int_bl, isi_int_int, isi_int_str, isi_int_tup, isi_int_lst, isi_str_non, isi_str_bl, isi_str_int, isi_str_str, isi_str_tup, isi_str_lst, isi_tuple_non, isi_tuple_bl, isi_tuple_int, isi_tuple_str, isi_tuple_tup, isi_tuple_lst, isi_list_non, isi_list_bl, isi_list_int, isi_list_str, isi_list_tup, isi_list_lst, evw_rng3, k_v, k_fz, k_mv, k_g, stpO, k_ix3, k_ix2, k_ix, k_fld2, k_fld, k_sl3, k_sl2, k_sl, k_bin2, k_bin, k_neg, bO, k_not, k_cmp2, k_cmp, k_ch4, k_ch3, k_ch2, k_ch, k_and2, k_and, k_or2, k_or, k_ite2, k_ite, k_tup, k_lst, k_ret, k_call2, k_call3, k_call, k_b1, k_b22, k_b2, k_isi, k_mm3, k_mm2, k_mm, cB, cT, cE, cW, k_comp2, k_comp, k_evs2, k_evs, k_eva2, k_eva, k_rng22, k_rng2, k_rng32, k_rng3, k_enm2, k_enm, k_zip4, k_zip3, k_zip2, k_zip, k_seqw, s_asg, s_par22, s_par2, s_aug3, s_aug2, s_aug, s_put3, s_put2, s_put, s_ex, s_ret, s_iff, s_opt, s_unl, s_hO, s_par3, s_for, ixN, liftF, bindT, bindT.bindTs, calmP, qt, isFrz, frzL, canFrz, canL, freeze, freezeL, avDs, avD, avOk, avRoots, Av.isVar, giveA, setE, getE, getS, setS, binD, slD, cmpD, b1D, b2D, trD, ixD, eqO, okEq, eqD, eqL, flat, okD, okL, dep, depL, start, behind, parOk, asgS, asgT, callN_has, G_has, f2Ok, items, walkD, walkP, unlend, sizeLine_eq, evh, evhs, putF, itmF, mmD, isLst, partD, par3F, noExc, ownOk, wipeE, backE, Pl.root, e, sumF]
  · obtain ⟨o', e⟩ := loop (some (.lst .frz (L.map fr)))
    simp [fd_total_of, b_total_of, bind_ok, bind_exc, fl_ok, fl_exc, use_none, use_some, use_exc, tmp_ok, tru_ok, tru_exc, liftO_some, slot_0, slot_s, ev_v, ev_fz, ev_mv, ev_g, ev_int, ev_str, ev_bl, ev_non, ev_nop, ev_ix, ev_fld, ev_sl, ev_bin, ev_neg, ev_not, ev_cmp, ev_chain, ev_and, ev_or, ev_itE, ev_tup, ev_lst, ev_call, ev_b1, ev_b2, ev_isi, ev_mm, ev_comp, evs_nIl, evs_cons, eva_nil, eva_cons, evw_rng1, evw_rng2, evw_enm, evw_zip, evw_seq, then_nx, then_ret, then_brk, then_ct, then_exc, env_nx, env_ret, evS_nil, evS_cons, blk_def, evS_asg, evS_par2, evS_par3, evS_aug, evS_puT, evS_ex, evS_ret, evS_retN, evS_iff, evS_whl, evS_foR, evS_brk, evS_cont, evS_pass, evS_raise, evS_try, endC_nx, endC_ret, endC_exc, raise_t, hnd_exc, hnd_nx, hnd_ret, sub_has, isi_bool_non, isi_bool_bl, isi_bool_int, isi_bool_str, isi_bool_tup, isi_bool_lst, isi_int_non, isi_int_bl, isi_int_int, isi_int_str, isi_int_tup, isi_int_lst, isi_str_non, isi_str_bl, isi_str_int, isi_str_str, isi_str_tup, isi_str_lst, isi_tuple_non, isi_tuple_bl, isi_tuple_int, isi_tuple_str, isi_tuple_tup, isi_tuple_lst, isi_list_non, isi_list_bl, isi_list_int, isi_list_str, isi_list_tup, isi_list_lst, evw_rng3, k_v, k_fz, k_mv, k_g, stpO, k_ix3, k_ix2, k_ix, k_fld2, k_fld, k_sl3, k_sl2, k_sl, k_bin2, k_bin, k_neg, bO, k_not, k_cmp2, k_cmp, k_ch4, k_ch3, k_ch2, k_ch, k_and2, k_and, k_or2, k_or, k_ite2, k_ite, k_tup, k_lst, k_ret, k_call2, k_call3, k_call, k_b1, k_b22, k_b2, k_isi, k_mm3, k_mm2, k_mm, cB, cT, cE, cW, k_comp2, k_comp, k_evs2, k_evs, k_eva2, k_eva, k_rng22, k_rng2, k_rng32, k_rng3, k_enm2, k_enm, k_zip4, k_zip3, k_zip2, k_zip, k_seqw, s_asg, s_par22, s_par2, s_aug3, s_aug2, s_aug, s_put3, s_put2, s_put, s_ex, s_ret, s_iff, s_opt, s_unl, s_hO, s_par3, s_for, ixN, liftF, bindT, bindT.bindTs, calmP, qt, isFrz, frzL, canFrz, canL, freeze, freezeL, avDs, avD, avOk, avRoots, Av.isVar, giveA, setE, getE, getS, setS, binD, slD, cmpD, b1D, b2D, trD, ixD, eqO, okEq, eqD, eqL, flat, okD, okL, dep, depL, start, behind, parOk, asgS, asgT, callN_has, G_has, f2Ok, items, walkD, walkP, unlend, sizeLine_eq, evh, evhs, putF, itmF, mmD, isLst, partD, par3F, noExc, ownOk, wipeE, backE, Pl.root, e, sumF]
theorem s_lsum [Has P "_law_mod" fd__law_mod] [Has P "_law_gcd" fd__law_gcd] [Has P "_law_frac" fd__law_frac] [Has P "_law_add" fd__law_add] :
    run P (n + 4) fd__law_sum [.lst o (L.map fr)] = .ok (fr (sumF L)) [.lst o (L.map fr)] := by
  have loop : ∀ x0, ∃ o', forL (s_step (callN P (n + 4)) P.G P.isSub nWhile (.v 2) (.cons (.asg (.v 1) (.call "_law_add" (.cons (.v 1) (.cons (.v 2) .nil)))) .nil)) (L.map fr) [x0, some (fr (0, 1)), none] = .nx [x0, some (fr (L.foldl add (0, 1))), o'] := fun x0 => by
    refine fold_loop (f := add) (fun acc k => Q k acc) (fun x => Q 4 x) 5 ?_ L (0, 1) none 1 hL q01 (by omega)
    intro acc x o' k hk hj hi
    have e := s_ladd (P := P) (n := n) (by omega) (by decide) hi hj
    refine ⟨?_, (add_q hi hj).mono (by omega)⟩
    simp [s_step, s_opt, bind_ok, bind_exc, fl_ok, fl_exc, use_none, use_some, use_exc, tmp_ok, tru_ok, tru_exc, liftO_some, slot_0, slot_s, ev_v, ev_fz, ev_mv, ev_g, ev_int, ev_str, ev_bl, ev_non, ev_nop, ev_ix, ev_fld, ev_sl, ev_bin, ev_neg, ev_not, ev_cmp, ev_chain, ev_and, ev_or, ev_itE, ev_tup, ev_lst, ev_call, ev_b1, ev_b2, ev_isi, ev_mm, ev_comp, evs_nIl, evs_cons, eva_nil, eva_cons, evw_rng1, evw_rng2, evw_enm, evw_zip, evw_seq, then_nx, then_ret, then_brk, then_ct, then_exc, env_nx, env_ret, evS_nil, evS_cons, blk_def, evS_asg, evS_par2, evS_par3, evS_aug, evS_puT, evS_ex, evS_ret, evS_retN, evS_iff, evS_whl, evS_foR, evS_brk, evS_cont, evS_pass, evS_raise, evS_try, endC_nx, endC_ret, endC_exc, raise_t, hnd_exc, hnd_nx, hnd_ret, sub_has, isi_bool_non, isi_bool_bl, isi_bool_int, isi_bool_str, isi_bool_tup, isi_bool_lst, isi_int_non, isi_int_bl, isi_int_int, isi_int_str, isi_int_tup, isi_int_lst, isi_str_non, isi_str_bl, isi_str_int, isi_str_str, isi_str_tup, isi_str_lst, isi_tuple_non, isi_tuple_bl, isi_tuple_int, isi_tuple_str, isi_tuple_tup, isi_tuple_lst, isi_list_non, isi_list_bl, isi_list_int, isi_list_str, isi_list_tup, isi_list_lst, evw_rng3, k_v, k_fz, k_mv, k_g, stpO, k_ix3, k_ix2, k_ix, k_fld2, k_fld, k_sl3, k_sl2, k_sl, k_bin2, k_bin, k_neg, bO, k_not, k_cmp2, k_cmp, k_ch4, k_ch3, k_ch2, k_ch, k_and2, k_and, k_or2, k_or, k_ite2, k_ite, k_tup, k_lst, k_ret, k_call2, k_call3, k_call, k_b1, k_b22, k_b2, k_isi, k_mm3, k_mm2, k_mm, cB, cT, cE, cW, k_comp2, k_comp, k_evs2, k_evs, k_eva2, k_eva, k_rng22, k_rng2, k_rng32, k_rng3, k_enm2, k_enm, k_zip4, k_zip3, k_zip2, k_zip, k_seqw, s_asg, s_par22, s_par2, s_aug3, s_aug2, s_aug, s_put3, s_put2, s_put, s_ex, s_ret, s_iff, s_opt, s_unl, s_hO, s_par3, s_for, ixN, liftF, bindT, bindT.bindTs, calmP, qt, isFrz, frzL, canFrz, canL, freeze, freezeL, avDs, avD, avOk, avRoots, Av.isVar, giveA, setE, getE, getS, setS, binD, slD, cmpD, b1D, b2D, trD, ixD, eqO, okEq, eqD, eqL, flat, okD, okL, dep, depL, start, behind, parOk, asgS, asgT, callN_has, G_has, f2Ok, items, walkD, walkP, unlend, sizeLine_eq, evh, evhs, putF, itmF, mmD, isLst, partD, par3F, noExc, ownOk, wipeE, backE, Pl.root, e]
  rw [run_def rfl]
  rcases ho with rfl | rfl
  · obtain ⟨o', e⟩ := loop none
    simp [fd__law_sum, b__law_sum, bind_ok, bind_exc, fl_ok, fl_exc, use_none, use_some, use_exc, tmp_ok, tru_ok, tru_exc, liftO_some, slot_0, slot_s, ev_v, ev_fz, ev_mv, ev_g, ev_int, ev_str, ev_bl, ev_non, ev_nop, ev_ix, ev_fld, ev_sl, ev_bin, ev_neg, ev_not, ev_cmp, ev_chain, ev_and, ev_or, ev_itE, ev_tup, ev_lst, ev_call, ev_b1, ev_b2, ev_isi, ev_mm, ev_comp, evs_nIl, evs_cons, eva_nil, eva_cons, evw_rng1, evw_rng2, evw_enm, evw_zip, evw_seq, then_nx, then_ret, then_brk, then_ct, then_exc, env_nx, env_ret, evS_nil, evS_cons, blk_def, evS_asg, evS_par2, evS_par3, evS_aug, evS_puT, evS_ex, evS_ret, evS_retN, evS_iff, evS_whl, evS_foR, evS_brk, evS_cont, evS_pass, evS_raise, evS_try, endC_nx, endC_ret, endC_exc, raise_t, hnd_exc, hnd_nx, hnd_ret, sub_has, isi_bool_non, isi_bool_bl, isi_bool_int, isi_bool_str, isi_bool_tup, isi_bool_lst, isi_int_non, isi_int_bl, isi_int_int, isi_int_str, isi_int_tup, isi_int_lst, isi_str_non, isi_str_bl, isi_str_int, isi_str_str, isi_str_tup, isi_str_lst, isi_tuple_non, isi_tuple_bl, isi_tuple_int, isi_tuple_str, isi_tuple_tup, isi_tuple_lst, isi_list_non, isi_list_bl, isi_list_int, isi_list_str, isi_list_tup, isi_list_lst, evw_rng3, k_v, k_fz, k_mv, k_g, stpO, k_ix3, k_ix2, k_ix, k_fld2, k_fld, k_sl3, k_sl2, k_sl, k_bin2, k_bin, k_neg, bO, k_not, k_cmp2, k_cmp, k_ch4, k_ch3, k_ch2, k_ch, k_and2, k_and, k_or2, k_or, k_ite2, k_ite, k_tup, k_lst, k_ret, k_call2, k_call3, k_call, k_b1, k_b22, k_b2, k_isi, k_mm3, k_mm2, k_mm, cB, cT, cE, cW, k_comp2, k_comp, k_evs2, k_evs, k_eva2, k_eva, k_rng22, k_rng2, k_rng32, k_rng3, k_enm2, k_enm, k_zip4, k_zip3, k_zip2, k_zip, k_seqw, s_asg, s_par22, s_par2, s_aug3, s_aug2, s_aug, s_put3, s_put2, s_put, s_ex, s_ret, s_iff, s_opt, s_unl, s_hO, s_par3, s_for, ixN, liftF, bindT, bindT.bindTs, calmP, qt, isFrz, frzL, canFrz, canL, freeze, freezeL, avDs, avD, avOk, avRoots, Av.isVar, giveA, setE, getE, getS, setS, binD, slD, cmpD, b1D, b2D, trD, ixD, eqO, okEq, eqD, eqL, flat, okD, okL, dep, depL, start, behind, parOk, asgS, asgT, callN_has, G_has, f2Ok, items, walkD, walkP, unlend, sizeLine_eq, evh, evhs, putF, itmF, mmD, isLst, partD, par3F, noExc, ownOk, wipeE, backE, Pl.root, e, sumF]
  · obtain ⟨o', e⟩ := loop (some (.lst .frz (L.map fr)))
    simp [fd__law_sum, b__law_sum, bind_ok, bind_exc, fl_ok, fl_exc, use_none, use_some, use_exc, tmp_ok, tru_ok, tru_exc, liftO_some, slot_0, slot_s, ev_v, ev_fz, ev_mv, ev_g, ev_int, ev_str, ev_bl, ev_non, ev_nop, ev_ix, ev_fld, ev_sl, ev_bin, ev_neg, ev_not, ev_cmp, ev_chain, ev_and, ev_or, ev_itE, ev_tup, ev_lst, ev_call, ev_b1, ev_b2, ev_isi, ev_mm, ev_comp, evs_nIl, evs_cons, eva_nil, eva_cons, evw_rng1, evw_rng2, evw_enm, evw_zip, evw_seq, then_nx, then_ret, then_brk, then_ct, then_exc, env_nx, env_ret, evS_nil, evS_cons, blk_def, evS_asg, evS_par2, evS_par3, evS_aug, evS_puT, evS_ex, evS_ret, evS_retN, evS_iff, evS_whl, evS_foR, evS_brk, evS_cont, evS_pass, evS_raise, evS_try, endC_nx, endC_ret, endC_exc, raise_t, hnd_exc, hnd_nx, hnd_ret, sub_has, isi_bool_non, isi_bool_bl, isi_bool_int, isi_bool_str, isi_bool_tup, isi_bool_lst, isi_int_non, isi_int_bl, isi_int_int, isi_int_str, isi_int_tup, isi_int_lst, isi_str_non, isi_str_bl, isi_str_int, isi_str_str, isi_str_tup, isi_str_lst, isi_tuple_non, isi_tuple_bl, isi_tuple_int, isi_tuple_str, isi_tuple_tup, isi_tuple_lst, isi_list_non, isi_list_bl, isi_list_int, isi_list_str, isi_list_tup, isi_list_lst, evw_rng3, k_v, k_fz, k_mv, k_g, stpO, k_ix3, k_ix2, k_ix, k_fld2, k_fld, k_sl3, k_sl2, k_sl, k_bin2, k_bin, k_neg, bO, k_not, k_cmp2, k_cmp, k_ch4, k_ch3, k_ch2, k_ch, k_and2, k_and, k_or2, k_or, k_ite2, k_ite, k_tup, k_lst, k_ret, k_call2, k_call3, k_call, k_b1, k_b22, k_b2, k_isi, k_mm3, k_mm2, k_mm, cB, cT, cE, cW, k_comp2, k_comp, k_evs2, k_evs, k_eva2, k_eva, k_rng22, k_rng2, k_rng32, k_rng3, k_enm2, k_enm, k_zip4, k_zip3, k_zip2, k_zip, k_seqw, s_asg, s_par22, s_par2, s_aug3, s_aug2, s_aug, s_put3, s_put2, s_put, s_ex, s_ret, s_iff, s_opt, s_unl, s_hO, s_par3, s_for, ixN, liftF, bindT, bindT.bindTs, calmP, qt, isFrz, frzL, canFrz, canL, freeze, freezeL, avDs, avD, avOk, avRoots, Av.isVar, giveA, setE, getE, getS, setS, binD, slD, cmpD, b1D, b2D, trD, ixD, eqO, okEq, eqD, eqL, flat, okD, okL, dep, depL, start, behind, parOk, asgS, asgT, callN_has, G_has, f2Ok, items, walkD, walkP, unlend, sizeLine_eq, evh, evhs, putF, itmF, mmD, isLst, partD, par3F, noExc, ownOk, wipeE, backE, Pl.root, e, sumF]
end
/-! ### greatest, least -/
def grF (L : List (Int × Int)) (b : Int × Int) : Int × Int := L.foldl (fun b x => if lt b x then x else b) b
def leF (L : List (Int × Int)) (b : Int × Int) : Int × Int := L.foldl (fun b x => if lt x b then x else b) b
section
variable {L : List (Int × Int)} {o : Ow} (ho : Ow.ok o) (hL : ∀ x ∈ L, Q 45 x) (hn : L.length ≤ 9)
include ho hL hn
theorem s_greatest [Has P "less" fd_less] {a : Int × Int} (ha : L[0]? = some a) :
    run P (n + 1) fd_greatest [.lst o (L.map fr)] = .ok (fr (grF L a)) [.lst o (L.map fr)] := by
  have loop : ∀ x0, ∃ o', forL (s_step (callN P (n + 1)) P.G P.isSub nWhile (.v 2) (.cons (.iff (.call "less" (.cons (.v 1) (.cons (.v 2) .nil))) (.cons (.asg (.v 1) (.fz (.v 2))) .nil) .nil) .nil)) (L.map fr) [x0, some (fr a), none] = .nx [x0, some (fr (grF L a)), o'] := fun x0 => by
    refine fold_loop (f := fun b x => if lt b x then x else b) (fun acc k => Q 45 acc) (fun x => Q 45 x) 0 ?_ L a none 0 hL (hL _ (List.mem_of_getElem? ha)) (by omega)
    intro acc x o' k hk hj hi
    have e := s_less (P := P) (n := n) (by decide) (by decide) hi hj
    by_cases h : lt acc x = true
    · refine ⟨?_, by simp only [h, if_true]; exact hj⟩
      simp [s_step, s_opt, bind_ok, bind_exc, fl_ok, fl_exc, use_none, use_some, use_exc, tmp_ok, tru_ok, tru_exc, liftO_some, slot_0, slot_s, ev_v, ev_fz, ev_mv, ev_g, ev_int, ev_str, ev_bl, ev_non, ev_nop, ev_ix, ev_fld, ev_sl, ev_bin, ev_neg, ev_not, ev_cmp, ev_chain, ev_and, ev_or, ev_itE, ev_tup, ev_lst, ev_call, ev_b1, ev_b2, ev_isi, ev_mm, ev_comp, evs_nIl, evs_cons, eva_nil, eva_cons, evw_rng1, evw_rng2, evw_enm, evw_zip, evw_seq, then_nx, then_ret, then_brk, then_ct, then_exc, env_nx, env_ret, evS_nil, evS_cons, blk_def, evS_asg, evS_par2, evS_par3, evS_aug, evS_puT, evS_ex, evS_ret, evS_retN, evS_iff, evS_whl, evS_foR, evS_brk, evS_cont, evS_pass, evS_raise, evS_try, endC_nx, endC_ret, endC_exc, raise_t, hnd_exc, hnd_nx, hnd_ret, sub_has, isi_bool_non, isi_bool_bl, isi_bool_int, isi_bool_str, isi_bool_tup, isi_bool_lst, isi_int_non, isi_int_bl, isi_int_int, isi_int_str, isi_int_tup, isi_int_lst, isi_str_non, isi_str_bl, isi_str_int, isi_str_str, isi_str_tup, isi_str_lst, isi_tuple_non, isi_tuple_bl, isi_tuple_int, isi_tuple_str, isi_tuple_tup, isi_tuple_lst, isi_list_non, isi_list_bl, isi_list_int, isi_list_str, isi_list_tup, isi_list_lst, evw_rng3, k_v, k_fz, k_mv, k_g, stpO, k_ix3, k_ix2, k_ix, k_fld2, k_fld, k_sl3, k_sl2, k_sl, k_bin2, k_bin, k_neg, bO, k_not, k_cmp2, k_cmp, k_ch4, k_ch3, k_ch2, k_ch, k_and2, k_and, k_or2, k_or, k_ite2, k_ite, k_tup, k_lst, k_ret, k_call2, k_call3, k_call, k_b1, k_b22, k_b2, k_isi, k_mm3, k_mm2, k_mm, cB, cT, cE, cW, k_comp2, k_comp, k_evs2, k_evs, k_eva2, k_eva, k_rng22, k_rng2, k_rng32, k_rng3, k_enm2, k_enm, k_zip4, k_zip3, k_zip2, k_zip, k_seqw, s_asg, s_par22, s_par2, s_aug3, s_aug2, s_aug, s_put3, s_put2, s_put, s_ex, s_ret, s_iff, s_opt, s_unl, s_hO, s_par3, s_for, ixN, liftF, bindT, bindT.bindTs, calmP, qt, isFrz, frzL, canFrz, canL, freeze, freezeL, avDs, avD, avOk, avRoots, Av.isVar, giveA, setE, getE, getS, setS, binD, slD, cmpD, b1D, b2D, trD, ixD, eqO, okEq, eqD, eqL, flat, okD, okL, dep, depL, start, behind, parOk, asgS, asgT, callN_has, G_has, f2Ok, items, walkD, walkP, unlend, sizeLine_eq, evh, evhs, putF, itmF, mmD, isLst, partD, par3F, noExc, ownOk, wipeE, backE, Pl.root, e, h]
    · simp only [Bool.not_eq_true] at h
      refine ⟨?_, by simp only [h]; exact hi⟩
      simp [s_step, s_opt, bind_ok, bind_exc, fl_ok, fl_exc, use_none, use_some, use_exc, tmp_ok, tru_ok, tru_exc, liftO_some, slot_0, slot_s, ev_v, ev_fz, ev_mv, ev_g, ev_int, ev_str, ev_bl, ev_non, ev_nop, ev_ix, ev_fld, ev_sl, ev_bin, ev_neg, ev_not, ev_cmp, ev_chain, ev_and, ev_or, ev_itE, ev_tup, ev_lst, ev_call, ev_b1, ev_b2, ev_isi, ev_mm, ev_comp, evs_nIl, evs_cons, eva_nil, eva_cons, evw_rng1, evw_rng2, evw_enm, evw_zip, evw_seq, then_nx, then_ret, then_brk, then_ct, then_exc, env_nx, env_ret, evS_nil, evS_cons, blk_def, evS_asg, evS_par2, evS_par3, evS_aug, evS_puT, evS_ex, evS_ret, evS_retN, evS_iff, evS_whl, evS_foR, evS_brk, evS_cont, evS_pass, evS_raise, evS_try, endC_nx, endC_ret, endC_exc, raise_t, hnd_exc, hnd_nx, hnd_ret, sub_has, isi_bool_non, isi_bool_bl, isi_bool_int, isi_bool_str, isi_bool_tup, isi_bool_lst, isi_int_non, isi_int_bl, isi_int_int, isi_int_str, isi_int_tup, isi_int_lst, isi_str_non, isi_str_bl, isi_str_int, isi_str_str, isi_str_tup, isi_str_lst, isi_tuple_non, isi_tuple_bl, isi_tuple_int, isi_tuple_str, isi_tuple_tup, isi_tuple_lst, isi_list_non, isi_list_bl, isi_list_int, isi_list_str, isi_list_tup, isi_list_lst, evw_rng3, k_v, k_fz, k_mv, k_g, stpO, k_ix3, k_ix2, k_ix, k_fld2, k_fld, k_sl3, k_sl2, k_sl, k_bin2, k_bin, k_neg, bO, k_not, k_cmp2, k_cmp, k_ch4, k_ch3, k_ch2, k_ch, k_and2, k_and, k_or2, k_or, k_ite2, k_ite, k_tup, k_lst, k_ret, k_call2, k_call3, k_call, k_b1, k_b22, k_b2, k_isi, k_mm3, k_mm2, k_mm, cB, cT, cE, cW, k_comp2, k_comp, k_evs2, k_evs, k_eva2, k_eva, k_rng22, k_rng2, k_rng32, k_rng3, k_enm2, k_enm, k_zip4, k_zip3, k_zip2, k_zip, k_seqw, s_asg, s_par22, s_par2, s_aug3, s_aug2, s_aug, s_put3, s_put2, s_put, s_ex, s_ret, s_iff, s_opt, s_unl, s_hO, s_par3, s_for, ixN, liftF, bindT, bindT.bindTs, calmP, qt, isFrz, frzL, canFrz, canL, freeze, freezeL, avDs, avD, avOk, avRoots, Av.isVar, giveA, setE, getE, getS, setS, binD, slD, cmpD, b1D, b2D, trD, ixD, eqO, okEq, eqD, eqL, flat, okD, okL, dep, depL, start, behind, parOk, asgS, asgT, callN_has, G_has, f2Ok, items, walkD, walkP, unlend, sizeLine_eq, evh, evhs, putF, itmF, mmD, isLst, partD, par3F, noExc, ownOk, wipeE, backE, Pl.root, e, h]
  have hlen : 0 < L.length := by
    rcases Nat.eq_zero_or_pos L.length with h | h
    · rw [List.eq_nil_of_length_eq_zero h] at ha; cases ha
    · exact h
  have ha2 : L[0] = a := by rw [List.getElem?_eq_getElem hlen] at ha; exact Option.some.inj ha
  have ha3 : (L.map fr)[0]? = some (fr a) := by rw [List.getElem?_map, ha]; rfl
  rw [run_def rfl]
  rcases ho with rfl | rfl
  · obtain ⟨o', e⟩ := loop none
    simp [fd_greatest, b_greatest, bind_ok, bind_exc, fl_ok, fl_exc, use_none, use_some, use_exc, tmp_ok, tru_ok, tru_exc, liftO_some, slot_0, slot_s, ev_v, ev_fz, ev_mv, ev_g, ev_int, ev_str, ev_bl, ev_non, ev_nop, ev_ix, ev_fld, ev_sl, ev_bin, ev_neg, ev_not, ev_cmp, ev_chain, ev_and, ev_or, ev_itE, ev_tup, ev_lst, ev_call, ev_b1, ev_b2, ev_isi, ev_mm, ev_comp, evs_nIl, evs_cons, eva_nil, eva_cons, evw_rng1, evw_rng2, evw_enm, evw_zip, evw_seq, then_nx, then_ret, then_brk, then_ct, then_exc, env_nx, env_ret, evS_nil, evS_cons, blk_def, evS_asg, evS_par2, evS_par3, evS_aug, evS_puT, evS_ex, evS_ret, evS_retN, evS_iff, evS_whl, evS_foR, evS_brk, evS_cont, evS_pass, evS_raise, evS_try, endC_nx, endC_ret, endC_exc, raise_t, hnd_exc, hnd_nx, hnd_ret, sub_has, isi_bool_non, isi_bool_bl, isi_bool_int, isi_bool_str, isi_bool_tup, isi_bool_lst, isi_int_non, isi_int_bl, isi_int_int, isi_int_str, isi_int_tup, isi_int_lst, isi_str_non, isi_str_bl, isi_str_int, isi_str_str, isi_str_tup, isi_str_lst, isi_tuple_non, isi_tuple_bl, isi_tuple_int, isi_tuple_str, isi_tuple_tup, isi_tuple_lst, isi_list_non, isi_list_bl, isi_list_int, isi_list_str, isi_list_tup, isi_list_lst, evw_rng3, k_v, k_fz, k_mv, k_g, stpO, k_ix3, k_ix2, k_ix, k_fld2, k_fld, k_sl3, k_sl2, k_sl, k_bin2, k_bin, k_neg, bO, k_not, k_cmp2, k_cmp, k_ch4, k_ch3, k_ch2, k_ch, k_and2, k_and, k_or2, k_or, k_ite2, k_ite, k_tup, k_lst, k_ret, k_call2, k_call3, k_call, k_b1, k_b22, k_b2, k_isi, k_mm3, k_mm2, k_mm, cB, cT, cE, cW, k_comp2, k_comp, k_evs2, k_evs, k_eva2, k_eva, k_rng22, k_rng2, k_rng32, k_rng3, k_enm2, k_enm, k_zip4, k_zip3, k_zip2, k_zip, k_seqw, s_asg, s_par22, s_par2, s_aug3, s_aug2, s_aug, s_put3, s_put2, s_put, s_ex, s_ret, s_iff, s_opt, s_unl, s_hO, s_par3, s_for, ixN, liftF, bindT, bindT.bindTs, calmP, qt, isFrz, frzL, canFrz, canL, freeze, freezeL, avDs, avD, avOk, avRoots, Av.isVar, giveA, setE, getE, getS, setS, binD, slD, cmpD, b1D, b2D, trD, ixD, eqO, okEq, eqD, eqL, flat, okD, okL, dep, depL, start, behind, parOk, asgS, asgT, callN_has, G_has, f2Ok, items, walkD, walkP, unlend, sizeLine_eq, evh, evhs, putF, itmF, mmD, isLst, partD, par3F, noExc, ownOk, wipeE, backE, Pl.root, hlen, ha2, e]
  · obtain ⟨o', e⟩ := loop (some (.lst .frz (L.map fr)))
    simp [fd_greatest, b_greatest, bind_ok, bind_exc, fl_ok, fl_exc, use_none, use_some, use_exc, tmp_ok, tru_ok, tru_exc, liftO_some, slot_0, slot_s, ev_v, ev_fz, ev_mv, ev_g, ev_int, ev_str, ev_bl, ev_non, ev_nop, ev_ix, ev_fld, ev_sl, ev_bin, ev_neg, ev_not, ev_cmp, ev_chain, ev_and, ev_or, ev_itE, ev_tup, ev_lst, ev_call, ev_b1, ev_b2, ev_isi, ev_mm, ev_comp, evs_nIl, evs_cons, eva_nil, eva_cons, evw_rng1, evw_rng2, evw_enm, evw_zip, evw_seq, then_nx, then_ret, then_brk, then_ct, then_exc, env_nx, env_ret, evS_nil, evS_cons, blk_def, evS_asg, evS_par2, evS_par3, evS_aug, evS_puT, evS_ex, evS_ret, evS_retN, evS_iff, evS_whl, evS_foR, evS_brk, evS_cont, evS_pass, evS_raise, evS_try, endC_nx, endC_ret, endC_exc, raise_t, hnd_exc, hnd_nx, hnd_ret, sub_has, isi_bool_non, isi_bool_bl, isi_bool_int, isi_bool_str, isi_bool_tup, isi_bool_lst, isi_int_non, isi_int_bl, isi_int_int, isi_int_str, isi_int_tup, isi_int_lst, isi_str_non, isi_str_bl, isi_str_int, isi_str_str, isi_str_tup, isi_str_lst, isi_tuple_non, isi_tuple_bl, isi_tuple_int, isi_tuple_str, isi_tuple_tup, isi_tuple_lst, isi_list_non, isi_list_bl, isi_list_int, isi_list_str, isi_list_tup, isi_list_lst, evw_rng3, k_v, k_fz, k_mv, k_g, stpO, k_ix3, k_ix2, k_ix, k_fld2, k_fld, k_sl3, k_sl2, k_sl, k_bin2, k_bin, k_neg, bO, k_not, k_cmp2, k_cmp, k_ch4, k_ch3, k_ch2, k_ch, k_and2, k_and, k_or2, k_or, k_ite2, k_ite, k_tup, k_lst, k_ret, k_call2, k_call3, k_call, k_b1, k_b22, k_b2, k_isi, k_mm3, k_mm2, k_mm, cB, cT, cE, cW, k_comp2, k_comp, k_evs2, k_evs, k_eva2, k_eva, k_rng22, k_rng2, k_rng32, k_rng3, k_enm2, k_enm, k_zip4, k_zip3, k_zip2, k_zip, k_seqw, s_asg, s_par22, s_par2, s_aug3, s_aug2, s_aug, s_put3, s_put2, s_put, s_ex, s_ret, s_iff, s_opt, s_unl, s_hO, s_par3, s_for, ixN, liftF, bindT, bindT.bindTs, calmP, qt, isFrz, frzL, canFrz, canL, freeze, freezeL, avDs, avD, avOk, avRoots, Av.isVar, giveA, setE, getE, getS, setS, binD, slD, cmpD, b1D, b2D, trD, ixD, eqO, okEq, eqD, eqL, flat, okD, okL, dep, depL, start, behind, parOk, asgS, asgT, callN_has, G_has, f2Ok, items, walkD, walkP, unlend, sizeLine_eq, evh, evhs, putF, itmF, mmD, isLst, partD, par3F, noExc, ownOk, wipeE, backE, Pl.root, hlen, ha2, e]
theorem s_least [Has P "less" fd_less] {a : Int × Int} (ha : L[0]? = some a) :
    run P (n + 1) fd_least [.lst o (L.map fr)] = .ok (fr (leF L a)) [.lst o (L.map fr)] := by
  have loop : ∀ x0, ∃ o', forL (s_step (callN P (n + 1)) P.G P.isSub nWhile (.v 2) (.cons (.iff (.call "less" (.cons (.v 2) (.cons (.v 1) .nil))) (.cons (.asg (.v 1) (.fz (.v 2))) .nil) .nil) .nil)) (L.map fr) [x0, some (fr a), none] = .nx [x0, some (fr (leF L a)), o'] := fun x0 => by
    refine fold_loop (f := fun b x => if lt x b then x else b) (fun acc k => Q 45 acc) (fun x => Q 45 x) 0 ?_ L a none 0 hL (hL _ (List.mem_of_getElem? ha)) (by omega)
    intro acc x o' k hk hj hi
    have e := s_less (P := P) (n := n) (by decide) (by decide) hj hi
    by_cases h : lt x acc = true
    · refine ⟨?_, by simp only [h, if_true]; exact hj⟩
      simp [s_step, s_opt, bind_ok, bind_exc, fl_ok, fl_exc, use_none, use_some, use_exc, tmp_ok, tru_ok, tru_exc, liftO_some, slot_0, slot_s, ev_v, ev_fz, ev_mv, ev_g, ev_int, ev_str, ev_bl, ev_non, ev_nop, ev_ix, ev_fld, ev_sl, ev_bin, ev_neg, ev_not, ev_cmp, ev_chain, ev_and, ev_or, ev_itE, ev_tup, ev_lst, ev_call, ev_b1, ev_b2, ev_isi, ev_mm, ev_comp, evs_nIl, evs_cons, eva_nil, eva_cons, evw_rng1, evw_rng2, evw_enm, evw_zip, evw_seq, then_nx, then_ret, then_brk, then_ct, then_exc, env_nx, env_ret, evS_nil, evS_cons, blk_def, evS_asg, evS_par2, evS_par3, evS_aug, evS_puT, evS_ex, evS_ret, evS_retN, evS_iff, evS_whl, evS_foR, evS_brk, evS_cont, evS_pass, evS_raise, evS_try, endC_nx, endC_ret, endC_exc, raise_t, hnd_exc, hnd_nx, hnd_ret, sub_has, isi_bool_non, isi_bool_bl, isi_bool_int, isi_bool_str, isi_bool_tup, isi_bool_lst, isi_int_non, isi_int_bl, isi_int_int, isi_int_str, isi_int_tup, isi_int_lst, isi_str_non, isi_str_bl, isi_str_int, isi_str_str, isi_str_tup, isi_str_lst, isi_tuple_non, isi_tuple_bl, isi_tuple_int, isi_tuple_str, isi_tuple_tup, isi_tuple_lst, isi_list_non, isi_list_bl, isi_list_int, isi_list_str, isi_list_tup, isi_list_lst, evw_rng3, k_v, k_fz, k_mv, k_g, stpO, k_ix3, k_ix2, k_ix, k_fld2, k_fld, k_sl3, k_sl2, k_sl, k_bin2, k_bin, k_neg, bO, k_not, k_cmp2, k_cmp, k_ch4, k_ch3, k_ch2, k_ch, k_and2, k_and, k_or2, k_or, k_ite2, k_ite, k_tup, k_lst, k_ret, k_call2, k_call3, k_call, k_b1, k_b22, k_b2, k_isi, k_mm3, k_mm2, k_mm, cB, cT, cE, cW, k_comp2, k_comp, k_evs2, k_evs, k_eva2, k_eva, k_rng22, k_rng2, k_rng32, k_rng3, k_enm2, k_enm, k_zip4, k_zip3, k_zip2, k_zip, k_seqw, s_asg, s_par22, s_par2, s_aug3, s_aug2, s_aug, s_put3, s_put2, s_put, s_ex, s_ret, s_iff, s_opt, s_unl, s_hO, s_par3, s_for, ixN, liftF, bindT, bindT.bindTs, calmP, qt, isFrz, frzL, canFrz, canL, freeze, freezeL, avDs, avD, avOk, avRoots, Av.isVar, giveA, setE, getE, getS, setS, binD, slD, cmpD, b1D, b2D, trD, ixD, eqO, okEq, eqD, eqL, flat, okD, okL, dep, depL, start, behind, parOk, asgS, asgT, callN_has, G_has, f2Ok, items, walkD, walkP, unlend, sizeLine_eq, evh, evhs, putF, itmF, mmD, isLst, partD, par3F, noExc, ownOk, wipeE, backE, Pl.root, e, h]
    · simp only [Bool.not_eq_true] at h
      refine ⟨?_, by simp only [h]; exact hi⟩
      simp [s_step, s_opt, bind_ok, bind_exc, fl_ok, fl_exc, use_none, use_some, use_exc, tmp_ok, tru_ok, tru_exc, liftO_some, slot_0, slot_s, ev_v, ev_fz, ev_mv, ev_g, ev_int, ev_str, ev_bl, ev_non, ev_nop, ev_ix, ev_fld, ev_sl, ev_bin, ev_neg, ev_not, ev_cmp, ev_chain, ev_and, ev_or, ev_itE, ev_tup, ev_lst, ev_call, ev_b1, ev_b2, ev_isi, ev_mm, ev_comp, evs_nIl, evs_cons, eva_nil, eva_cons, evw_rng1, evw_rng2, evw_enm, evw_zip, evw_seq, then_nx, then_ret, then_brk, then_ct, then_exc, env_nx, env_ret, evS_nil, evS_cons, blk_def, evS_asg, evS_par2, evS_par3, evS_aug, evS_puT, evS_ex, evS_ret, evS_retN, evS_iff, evS_whl, evS_foR, evS_brk, evS_cont, evS_pass, evS_raise, evS_try, endC_nx, endC_ret, endC_exc, raise_t, hnd_exc, hnd_nx, hnd_ret, sub_has, isi_bool_non, isi_bool_bl, isi_bool_int, isi_bool_str, isi_bool_tup, isi_bool_lst, isi_int_non, isi_int_bl, isi_int_int, isi_int_str, isi_int_tup, isi_int_lst, isi_str_non, isi_str_bl, isi_str_int, isi_str_str, isi_str_tup, isi_str_lst, isi_tuple_non, isi_tuple_bl, isi_tuple_int, isi_tuple_str, isi_tuple_tup, isi_tuple_lst, isi_list_non, isi_list_bl, isi_list_int, isi_list_str, isi_list_tup, isi_list_lst, evw_rng3, k_v, k_fz, k_mv, k_g, stpO, k_ix3, k_ix2, k_ix, k_fld2, k_fld, k_sl3, k_sl2, k_sl, k_bin2, k_bin, k_neg, bO, k_not, k_cmp2, k_cmp, k_ch4, k_ch3, k_ch2, k_ch, k_and2, k_and, k_or2, k_or, k_ite2, k_ite, k_tup, k_lst, k_ret, k_call2, k_call3, k_call, k_b1, k_b22, k_b2, k_isi, k_mm3, k_mm2, k_mm, cB, cT, cE, cW, k_comp2, k_comp, k_evs2, k_evs, k_eva2, k_eva, k_rng22, k_rng2, k_rng32, k_rng3, k_enm2, k_enm, k_zip4, k_zip3, k_zip2, k_zip, k_seqw, s_asg, s_par22, s_par2, s_aug3, s_aug2, s_aug, s_put3, s_put2, s_put, s_ex, s_ret, s_iff, s_opt, s_unl, s_hO, s_par3, s_for, ixN, liftF, bindT, bindT.bindTs, calmP, qt, isFrz, frzL, canFrz, canL, freeze, freezeL, avDs, avD, avOk, avRoots, Av.isVar, giveA, setE, getE, getS, setS, binD, slD, cmpD, b1D, b2D, trD, ixD, eqO, okEq, eqD, eqL, flat, okD, okL, dep, depL, start, behind, parOk, asgS, asgT, callN_has, G_has, f2Ok, items, walkD, walkP, unlend, sizeLine_eq, evh, evhs, putF, itmF, mmD, isLst, partD, par3F, noExc, ownOk, wipeE, backE, Pl.root, e, h]
  have hlen : 0 < L.length := by
    rcases Nat.eq_zero_or_pos L.length with h | h
    · rw [List.eq_nil_of_length_eq_zero h] at ha; cases ha
    · exact h
  have ha2 : L[0] = a := by rw [List.getElem?_eq_getElem hlen] at ha; exact Option.some.inj ha
  rw [run_def rfl]
  rcases ho with rfl | rfl
  · obtain ⟨o', e⟩ := loop none
    simp [fd_least, b_least, bind_ok, bind_exc, fl_ok, fl_exc, use_none, use_some, use_exc, tmp_ok, tru_ok, tru_exc, liftO_some, slot_0, slot_s, ev_v, ev_fz, ev_mv, ev_g, ev_int, ev_str, ev_bl, ev_non, ev_nop, ev_ix, ev_fld, ev_sl, ev_bin, ev_neg, ev_not, ev_cmp, ev_chain, ev_and, ev_or, ev_itE, ev_tup, ev_lst, ev_call, ev_b1, ev_b2, ev_isi, ev_mm, ev_comp, evs_nIl, evs_cons, eva_nil, eva_cons, evw_rng1, evw_rng2, evw_enm, evw_zip, evw_seq, then_nx, then_ret, then_brk, then_ct, then_exc, env_nx, env_ret, evS_nil, evS_cons, blk_def, evS_asg, evS_par2, evS_par3, evS_aug, evS_puT, evS_ex, evS_ret, evS_retN, evS_iff, evS_whl, evS_foR, evS_brk, evS_cont, evS_pass, evS_raise, evS_try, endC_nx, endC_ret, endC_exc, raise_t, hnd_exc, hnd_nx, hnd_ret, sub_has, isi_bool_non, isi_bool_bl, isi_bool_int, isi_bool_str, isi_bool_tup, isi_bool_lst, isi_int_non, isi_int_bl, isi_int_int, isi_int_str, isi_int_tup, isi_int_lst, isi_str_non, isi_str_bl, isi_str_int, isi_str_str, isi_str_tup, isi_str_lst, isi_tuple_non, isi_tuple_bl, isi_tuple_int, isi_tuple_str, isi_tuple_tup, isi_tuple_lst, isi_list_non, isi_list_bl, isi_list_int, isi_list_str, isi_list_tup, isi_list_lst, evw_rng3, k_v, k_fz, k_mv, k_g, stpO, k_ix3, k_ix2, k_ix, k_fld2, k_fld, k_sl3, k_sl2, k_sl, k_bin2, k_bin, k_neg, bO, k_not, k_cmp2, k_cmp, k_ch4, k_ch3, k_ch2, k_ch, k_and2, k_and, k_or2, k_or, k_ite2, k_ite, k_tup, k_lst, k_ret, k_call2, k_call3, k_call, k_b1, k_b22, k_b2, k_isi, k_mm3, k_mm2, k_mm, cB, cT, cE, cW, k_comp2, k_comp, k_evs2, k_evs, k_eva2, k_eva, k_rng22, k_rng2, k_rng32, k_rng3, k_enm2, k_enm, k_zip4, k_zip3, k_zip2, k_zip, k_seqw, s_asg, s_par22, s_par2, s_aug3, s_aug2, s_aug, s_put3, s_put2, s_put, s_ex, s_ret, s_iff, s_opt, s_unl, s_hO, s_par3, s_for, ixN, liftF, bindT, bindT.bindTs, calmP, qt, isFrz, frzL, canFrz, canL, freeze, freezeL, avDs, avD, avOk, avRoots, Av.isVar, giveA, setE, getE, getS, setS, binD, slD, cmpD, b1D, b2D, trD, ixD, eqO, okEq, eqD, eqL, flat, okD, okL, dep, depL, start, behind, parOk, asgS, asgT, callN_has, G_has, f2Ok, items, walkD, walkP, unlend, sizeLine_eq, evh, evhs, putF, itmF, mmD, isLst, partD, par3F, noExc, ownOk, wipeE, backE, Pl.root, hlen, ha2, e]
  · obtain ⟨o', e⟩ := loop (some (.lst .frz (L.map fr)))
    simp [fd_least, b_least, bind_ok, bind_exc, fl_ok, fl_exc, use_none, use_some, use_exc, tmp_ok, tru_ok, tru_exc, liftO_some, slot_0, slot_s, ev_v, ev_fz, ev_mv, ev_g, ev_int, ev_str, ev_bl, ev_non, ev_nop, ev_ix, ev_fld, ev_sl, ev_bin, ev_neg, ev_not, ev_cmp, ev_chain, ev_and, ev_or, ev_itE, ev_tup, ev_lst, ev_call, ev_b1, ev_b2, ev_isi, ev_mm, ev_comp, evs_nIl, evs_cons, eva_nil, eva_cons, evw_rng1, evw_rng2, evw_enm, evw_zip, evw_seq, then_nx, then_ret, then_brk, then_ct, then_exc, env_nx, env_ret, evS_nil, evS_cons, blk_def, evS_asg, evS_par2, evS_par3, evS_aug, evS_puT, evS_ex, evS_ret, evS_retN, evS_iff, evS_whl, evS_foR, evS_brk, evS_cont, evS_pass, evS_raise, evS_try, endC_nx, endC_ret, endC_exc, raise_t, hnd_exc, hnd_nx, hnd_ret, sub_has, isi_bool_non, isi_bool_bl, isi_bool_int, isi_bool_str, isi_bool_tup, isi_bool_lst, isi_int_non, isi_int_bl, isi_int_int, isi_int_str, isi_int_tup, isi_int_lst, isi_str_non, isi_str_bl, isi_str_int, isi_str_str, isi_str_tup, isi_str_lst, isi_tuple_non, isi_tuple_bl, isi_tuple_int, isi_tuple_str, isi_tuple_tup, isi_tuple_lst, isi_list_non, isi_list_bl, isi_list_int, isi_list_str, isi_list_tup, isi_list_lst, evw_rng3, k_v, k_fz, k_mv, k_g, stpO, k_ix3, k_ix2, k_ix, k_fld2, k_fld, k_sl3, k_sl2, k_sl, k_bin2, k_bin, k_neg, bO, k_not, k_cmp2, k_cmp, k_ch4, k_ch3, k_ch2, k_ch, k_and2, k_and, k_or2, k_or, k_ite2, k_ite, k_tup, k_lst, k_ret, k_call2, k_call3, k_call, k_b1, k_b22, k_b2, k_isi, k_mm3, k_mm2, k_mm, cB, cT, cE, cW, k_comp2, k_comp, k_evs2, k_evs, k_eva2, k_eva, k_rng22, k_rng2, k_rng32, k_rng3, k_enm2, k_enm, k_zip4, k_zip3, k_zip2, k_zip, k_seqw, s_asg, s_par22, s_par2, s_aug3, s_aug2, s_aug, s_put3, s_put2, s_put, s_ex, s_ret, s_iff, s_opt, s_unl, s_hO, s_par3, s_for, ixN, liftF, bindT, bindT.bindTs, calmP, qt, isFrz, frzL, canFrz, canL, freeze, freezeL, avDs, avD, avOk, avRoots, Av.isVar, giveA, setE, getE, getS, setS, binD, slD, cmpD, b1D, b2D, trD, ixD, eqO, okEq, eqD, eqL, flat, okD, okL, dep, depL, start, behind, parOk, asgS, asgT, callN_has, G_has, f2Ok, items, walkD, walkP, unlend, sizeLine_eq, evh, evhs, putF, itmF, mmD, isLst, partD, par3F, noExc, ownOk, wipeE, backE, Pl.root, hlen, ha2, e]
end
/-! ### ascending -/
def upK (a : Int × Int) (f : List (Int × Int)) : Nat := (f.filter fun b => !lt a b).length
def upS (f : List (Int × Int)) (a : Int × Int) : List (Int × Int) := f.take (upK a f) ++ a :: f.drop (upK a f)
def up (L : List (Int × Int)) : List (Int × Int) := L.foldl upS []
theorem upK_le {a : Int × Int} {f : List (Int × Int)} : upK a f ≤ f.length := List.length_filter_le ..
theorem upS_len {a : Int × Int} {f : List (Int × Int)} : (upS f a).length = f.length + 1 := by
  have := upK_le (a := a) (f := f)
  simp [upS]
  omega
theorem upS_mem {a x : Int × Int} {f : List (Int × Int)} : x ∈ upS f a ↔ x = a ∨ x ∈ f := by
  have e : x ∈ f ↔ x ∈ f.take (upK a f) ∨ x ∈ f.drop (upK a f) := by rw [← List.mem_append, List.take_append_drop]
  rw [e]
  simp only [upS, List.mem_append, List.mem_cons]
  constructor
  · rintro (h | h | h) <;> simp [h]
  · rintro (h | h | h) <;> simp [h]
section
variable [Has P "_law_lt" fd__law_lt]
theorem up_in {a : Int × Int} {x0 : Option D} (ha : Q 45 a) : ∀ (r : List (Int × Int)), (∀ x ∈ r, Q 45 x) → ∀ (k : Nat) (o : Option D),
    ∃ o', forL (s_step (callN P (n + 1)) P.G P.isSub nWhile (.v 4) (.cons (.iff (.not (.call "_law_lt" (.cons (.v 2) (.cons (.v 4) .nil)))) (.cons (.asg (.v 3) (.bin .add (.v 3) (.int 1))) .nil) .nil) .nil)) (r.map fr) [x0, none, some (fr a), some (.int k), o]
      = .nx [x0, none, some (fr a), some (.int ((k + upK a r : Nat) : Int)), o']
  | [], _, k, o => ⟨o, by simp [forL, upK]⟩
  | x :: r, h, k, o => by
    have e := s_llt (P := P) (n := n) (by decide) (by decide) ha (h x (List.mem_cons_self ..))
    by_cases hx : lt a x = true
    · obtain ⟨o', e2⟩ := up_in ha r (fun y hy => h y (List.mem_cons_of_mem _ hy)) k (some (fr x))
      refine ⟨o', ?_⟩
      have hk : upK a (x :: r) = upK a r := by simp [upK, hx]
      rw [hk, ← e2]
      simp [forL, s_step, s_opt, bind_ok, bind_exc, fl_ok, fl_exc, use_none, use_some, use_exc, tmp_ok, tru_ok, tru_exc, liftO_some, slot_0, slot_s, ev_v, ev_fz, ev_mv, ev_g, ev_int, ev_str, ev_bl, ev_non, ev_nop, ev_ix, ev_fld, ev_sl, ev_bin, ev_neg, ev_not, ev_cmp, ev_chain, ev_and, ev_or, ev_itE, ev_tup, ev_lst, ev_call, ev_b1, ev_b2, ev_isi, ev_mm, ev_comp, evs_nIl, evs_cons, eva_nil, eva_cons, evw_rng1, evw_rng2, evw_enm, evw_zip, evw_seq, then_nx, then_ret, then_brk, then_ct, then_exc, env_nx, env_ret, evS_nil, evS_cons, blk_def, evS_asg, evS_par2, evS_par3, evS_aug, evS_puT, evS_ex, evS_ret, evS_retN, evS_iff, evS_whl, evS_foR, evS_brk, evS_cont, evS_pass, evS_raise, evS_try, endC_nx, endC_ret, endC_exc, raise_t, hnd_exc, hnd_nx, hnd_ret, sub_has, isi_bool_non, isi_bool_bl, isi_bool_int, isi_bool_str, isi_bool_tup, isi_bool_lst, isi_int_non, isi_int_bl, isi_int_int, isi_int_str, isi_int_tup, isi_int_lst, isi_str_non, isi_str_bl, isi_str_int, isi_str_str, isi_str_tup, isi_str_lst, isi_tuple_non, isi_tuple_bl, isi_tuple_int, isi_tuple_str, isi_tuple_tup, isi_tuple_lst, isi_list_non, isi_list_bl, isi_list_int, isi_list_str, isi_list_tup, isi_list_lst, evw_rng3, k_v, k_fz, k_mv, k_g, stpO, k_ix3, k_ix2, k_ix, k_fld2, k_fld, k_sl3, k_sl2, k_sl, k_bin2, k_bin, k_neg, bO, k_not, k_cmp2, k_cmp, k_ch4, k_ch3, k_ch2, k_ch, k_and2, k_and, k_or2, k_or, k_ite2, k_ite, k_tup, k_lst, k_ret, k_call2, k_call3, k_call, k_b1, k_b22, k_b2, k_isi, k_mm3, k_mm2, k_mm, cB, cT, cE, cW, k_comp2, k_comp, k_evs2, k_evs, k_eva2, k_eva, k_rng22, k_rng2, k_rng32, k_rng3, k_enm2, k_enm, k_zip4, k_zip3, k_zip2, k_zip, k_seqw, s_asg, s_par22, s_par2, s_aug3, s_aug2, s_aug, s_put3, s_put2, s_put, s_ex, s_ret, s_iff, s_opt, s_unl, s_hO, s_par3, s_for, ixN, liftF, bindT, bindT.bindTs, calmP, qt, isFrz, frzL, canFrz, canL, freeze, freezeL, avDs, avD, avOk, avRoots, Av.isVar, giveA, setE, getE, getS, setS, binD, slD, cmpD, b1D, b2D, trD, ixD, eqO, okEq, eqD, eqL, flat, okD, okL, dep, depL, start, behind, parOk, asgS, asgT, callN_has, G_has, f2Ok, items, walkD, walkP, unlend, sizeLine_eq, evh, evhs, putF, itmF, mmD, isLst, partD, par3F, noExc, ownOk, wipeE, backE, Pl.root, e, hx]
    · simp only [Bool.not_eq_true] at hx
      obtain ⟨o', e2⟩ := up_in ha r (fun y hy => h y (List.mem_cons_of_mem _ hy)) (k + 1) (some (fr x))
      refine ⟨o', ?_⟩
      have hk : upK a (x :: r) = upK a r + 1 := by simp [upK, hx]
      rw [hk, show k + (upK a r + 1) = k + 1 + upK a r by omega, ← e2]
      simp [forL, s_step, s_opt, bind_ok, bind_exc, fl_ok, fl_exc, use_none, use_some, use_exc, tmp_ok, tru_ok, tru_exc, liftO_some, slot_0, slot_s, ev_v, ev_fz, ev_mv, ev_g, ev_int, ev_str, ev_bl, ev_non, ev_nop, ev_ix, ev_fld, ev_sl, ev_bin, ev_neg, ev_not, ev_cmp, ev_chain, ev_and, ev_or, ev_itE, ev_tup, ev_lst, ev_call, ev_b1, ev_b2, ev_isi, ev_mm, ev_comp, evs_nIl, evs_cons, eva_nil, eva_cons, evw_rng1, evw_rng2, evw_enm, evw_zip, evw_seq, then_nx, then_ret, then_brk, then_ct, then_exc, env_nx, env_ret, evS_nil, evS_cons, blk_def, evS_asg, evS_par2, evS_par3, evS_aug, evS_puT, evS_ex, evS_ret, evS_retN, evS_iff, evS_whl, evS_foR, evS_brk, evS_cont, evS_pass, evS_raise, evS_try, endC_nx, endC_ret, endC_exc, raise_t, hnd_exc, hnd_nx, hnd_ret, sub_has, isi_bool_non, isi_bool_bl, isi_bool_int, isi_bool_str, isi_bool_tup, isi_bool_lst, isi_int_non, isi_int_bl, isi_int_int, isi_int_str, isi_int_tup, isi_int_lst, isi_str_non, isi_str_bl, isi_str_int, isi_str_str, isi_str_tup, isi_str_lst, isi_tuple_non, isi_tuple_bl, isi_tuple_int, isi_tuple_str, isi_tuple_tup, isi_tuple_lst, isi_list_non, isi_list_bl, isi_list_int, isi_list_str, isi_list_tup, isi_list_lst, evw_rng3, k_v, k_fz, k_mv, k_g, stpO, k_ix3, k_ix2, k_ix, k_fld2, k_fld, k_sl3, k_sl2, k_sl, k_bin2, k_bin, k_neg, bO, k_not, k_cmp2, k_cmp, k_ch4, k_ch3, k_ch2, k_ch, k_and2, k_and, k_or2, k_or, k_ite2, k_ite, k_tup, k_lst, k_ret, k_call2, k_call3, k_call, k_b1, k_b22, k_b2, k_isi, k_mm3, k_mm2, k_mm, cB, cT, cE, cW, k_comp2, k_comp, k_evs2, k_evs, k_eva2, k_eva, k_rng22, k_rng2, k_rng32, k_rng3, k_enm2, k_enm, k_zip4, k_zip3, k_zip2, k_zip, k_seqw, s_asg, s_par22, s_par2, s_aug3, s_aug2, s_aug, s_put3, s_put2, s_put, s_ex, s_ret, s_iff, s_opt, s_unl, s_hO, s_par3, s_for, ixN, liftF, bindT, bindT.bindTs, calmP, qt, isFrz, frzL, canFrz, canL, freeze, freezeL, avDs, avD, avOk, avRoots, Av.isVar, giveA, setE, getE, getS, setS, binD, slD, cmpD, b1D, b2D, trD, ixD, eqO, okEq, eqD, eqL, flat, okD, okL, dep, depL, start, behind, parOk, asgS, asgT, callN_has, G_has, f2Ok, items, walkD, walkP, unlend, sizeLine_eq, evh, evhs, putF, itmF, mmD, isLst, partD, par3F, noExc, ownOk, wipeE, backE, Pl.root, e, hx]
theorem cut_lo {xs : List D} {k : Nat} (h : k ≤ xs.length) : cutD xs none (some (k : Int)) = xs.take k := by
  unfold cutD
  rw [show HT.sIx xs.length 0 none = 0 from rfl, show HT.sIx xs.length xs.length (some (k : Int)) = k by rw [HT.sIx_nat]; omega]
  simp
theorem cut_hi {xs : List D} {k : Nat} (h : k ≤ xs.length) : cutD xs (some (k : Int)) none = xs.drop k := by
  unfold cutD
  rw [show HT.sIx xs.length xs.length none = xs.length from rfl, show HT.sIx xs.length 0 (some (k : Int)) = k by rw [HT.sIx_nat]; omega]
  rw [List.take_of_length_le (by simp)]
theorem up_out {x0 : Option D} : ∀ (r f : List (Int × Int)) (o2 o3 o4 : Option D), (∀ x ∈ r, Q 45 x) → (∀ x ∈ f, Q 45 x) → f.length + r.length ≤ 1000 →
    ∃ o2' o3' o4', forL (s_step (callN P (n + 1)) P.G P.isSub nWhile (.v 2) (.cons (.asg (.v 3) (.int 0)) (.cons (.forr (.v 4) (.seq (.v 1)) (.cons (.iff (.not (.call "_law_lt" (.cons (.v 2) (.cons (.v 4) .nil)))) (.cons (.asg (.v 3) (.bin .add (.v 3) (.int 1))) .nil) .nil) .nil)) (.cons (.asg (.v 1) (.bin .add (.bin .add (.sl (.v 1) .nop (.v 3)) (.lst (.cons (.fz (.v 2)) .nil))) (.sl (.v 1) (.v 3) .nop))) .nil)))) (r.map fr) [x0, some (.lst .own (f.map fr)), o2, o3, o4]
      = .nx [x0, some (.lst .own ((r.foldl upS f).map fr)), o2', o3', o4']
  | [], f, o2, o3, o4, _, _, _ => ⟨o2, o3, o4, rfl⟩
  | x :: r, f, o2, o3, o4, hr, hf, hn => by
    rw [List.length_cons] at hn
    have hx := hr x (List.mem_cons_self ..)
    obtain ⟨o', e1⟩ := up_in (P := P) (n := n) (x0 := x0) hx f hf 0 o4
    have hk : upK x f ≤ f.length := upK_le
    obtain ⟨o2', o3', o4', e2⟩ := up_out r (upS f x) (some (fr x)) (some (.int (upK x f : Nat))) o' (fun y hy => hr y (List.mem_cons_of_mem _ hy)) (fun y hy => by
      rcases upS_mem.mp hy with rfl | h
      · exact hx
      · exact hf y h) (by rw [upS_len]; omega)
    refine ⟨o2', o3', o4', ?_⟩
    rw [Nat.zero_add, show ((0 : Nat) : Int) = 0 from rfl] at e1
    have c1 := cut_lo (xs := f.map fr) (k := upK x f) (by simpa using hk)
    have c2 := cut_hi (xs := f.map fr) (k := upK x f) (by simpa using hk)
    have f1 : frzL ((f.map fr).take (upK x f)) = true := by rw [← List.map_take]; exact frzL_fr _
    have f2 : frzL ((f.map fr).drop (upK x f)) = true := by rw [← List.map_drop]; exact frzL_fr _
    have l1 : min (upK x f) f.length ≤ 1000 := by omega
    have l2 : f.length - upK x f ≤ 1000 := by omega
    rw [List.map_cons, forL_nx (ρ1 := [x0, some (D.lst Ow.own (List.map fr (upS f x))), some (fr x), some (D.int (upK x f : Nat)), o']), List.foldl_cons, e2]
    simp [s_step, s_opt, bind_ok, bind_exc, fl_ok, fl_exc, use_none, use_some, use_exc, tmp_ok, tru_ok, tru_exc, liftO_some, slot_0, slot_s, ev_v, ev_fz, ev_mv, ev_g, ev_int, ev_str, ev_bl, ev_non, ev_nop, ev_ix, ev_fld, ev_sl, ev_bin, ev_neg, ev_not, ev_cmp, ev_chain, ev_and, ev_or, ev_itE, ev_tup, ev_lst, ev_call, ev_b1, ev_b2, ev_isi, ev_mm, ev_comp, evs_nIl, evs_cons, eva_nil, eva_cons, evw_rng1, evw_rng2, evw_enm, evw_zip, evw_seq, then_nx, then_ret, then_brk, then_ct, then_exc, env_nx, env_ret, evS_nil, evS_cons, blk_def, evS_asg, evS_par2, evS_par3, evS_aug, evS_puT, evS_ex, evS_ret, evS_retN, evS_iff, evS_whl, evS_foR, evS_brk, evS_cont, evS_pass, evS_raise, evS_try, endC_nx, endC_ret, endC_exc, raise_t, hnd_exc, hnd_nx, hnd_ret, sub_has, isi_bool_non, isi_bool_bl, isi_bool_int, isi_bool_str, isi_bool_tup, isi_bool_lst, isi_int_non, isi_int_bl, isi_int_int, isi_int_str, isi_int_tup, isi_int_lst, isi_str_non, isi_str_bl, isi_str_int, isi_str_str, isi_str_tup, isi_str_lst, isi_tuple_non, isi_tuple_bl, isi_tuple_int, isi_tuple_str, isi_tuple_tup, isi_tuple_lst, isi_list_non, isi_list_bl, isi_list_int, isi_list_str, isi_list_tup, isi_list_lst, evw_rng3, k_v, k_fz, k_mv, k_g, stpO, k_ix3, k_ix2, k_ix, k_fld2, k_fld, k_sl3, k_sl2, k_sl, k_bin2, k_bin, k_neg, bO, k_not, k_cmp2, k_cmp, k_ch4, k_ch3, k_ch2, k_ch, k_and2, k_and, k_or2, k_or, k_ite2, k_ite, k_tup, k_lst, k_ret, k_call2, k_call3, k_call, k_b1, k_b22, k_b2, k_isi, k_mm3, k_mm2, k_mm, cB, cT, cE, cW, k_comp2, k_comp, k_evs2, k_evs, k_eva2, k_eva, k_rng22, k_rng2, k_rng32, k_rng3, k_enm2, k_enm, k_zip4, k_zip3, k_zip2, k_zip, k_seqw, s_asg, s_par22, s_par2, s_aug3, s_aug2, s_aug, s_put3, s_put2, s_put, s_ex, s_ret, s_iff, s_opt, s_unl, s_hO, s_par3, s_for, ixN, liftF, bindT, bindT.bindTs, calmP, qt, isFrz, frzL, canFrz, canL, freeze, freezeL, avDs, avD, avOk, avRoots, Av.isVar, giveA, setE, getE, getS, setS, binD, slD, cmpD, b1D, b2D, trD, ixD, eqO, okEq, eqD, eqL, flat, okD, okL, dep, depL, start, behind, parOk, asgS, asgT, callN_has, G_has, f2Ok, items, walkD, walkP, unlend, sizeLine_eq, evh, evhs, putF, itmF, mmD, isLst, partD, par3F, noExc, ownOk, wipeE, backE, Pl.root, e1, s_unl, c1, c2, frzL_app, f1, f2]
    rw [if_pos (by omega)]
    simp [bind_ok, bind_exc, fl_ok, fl_exc, use_none, use_some, use_exc, tmp_ok, tru_ok, tru_exc, liftO_some, slot_0, slot_s, ev_v, ev_fz, ev_mv, ev_g, ev_int, ev_str, ev_bl, ev_non, ev_nop, ev_ix, ev_fld, ev_sl, ev_bin, ev_neg, ev_not, ev_cmp, ev_chain, ev_and, ev_or, ev_itE, ev_tup, ev_lst, ev_call, ev_b1, ev_b2, ev_isi, ev_mm, ev_comp, evs_nIl, evs_cons, eva_nil, eva_cons, evw_rng1, evw_rng2, evw_enm, evw_zip, evw_seq, then_nx, then_ret, then_brk, then_ct, then_exc, env_nx, env_ret, evS_nil, evS_cons, blk_def, evS_asg, evS_par2, evS_par3, evS_aug, evS_puT, evS_ex, evS_ret, evS_retN, evS_iff, evS_whl, evS_foR, evS_brk, evS_cont, evS_pass, evS_raise, evS_try, endC_nx, endC_ret, endC_exc, raise_t, hnd_exc, hnd_nx, hnd_ret, sub_has, isi_bool_non, isi_bool_bl, isi_bool_int, isi_bool_str, isi_bool_tup, isi_bool_lst, isi_int_non, isi_int_bl, isi_int_int, isi_int_str, isi_int_tup, isi_int_lst, isi_str_non, isi_str_bl, isi_str_int, isi_str_str, isi_str_tup, isi_str_lst, isi_tuple_non, isi_tuple_bl, isi_tuple_int, isi_tuple_str, isi_tuple_tup, isi_tuple_lst, isi_list_non, isi_list_bl, isi_list_int, isi_list_str, isi_list_tup, isi_list_lst, evw_rng3, k_v, k_fz, k_mv, k_g, stpO, k_ix3, k_ix2, k_ix, k_fld2, k_fld, k_sl3, k_sl2, k_sl, k_bin2, k_bin, k_neg, bO, k_not, k_cmp2, k_cmp, k_ch4, k_ch3, k_ch2, k_ch, k_and2, k_and, k_or2, k_or, k_ite2, k_ite, k_tup, k_lst, k_ret, k_call2, k_call3, k_call, k_b1, k_b22, k_b2, k_isi, k_mm3, k_mm2, k_mm, cB, cT, cE, cW, k_comp2, k_comp, k_evs2, k_evs, k_eva2, k_eva, k_rng22, k_rng2, k_rng32, k_rng3, k_enm2, k_enm, k_zip4, k_zip3, k_zip2, k_zip, k_seqw, s_asg, s_par22, s_par2, s_aug3, s_aug2, s_aug, s_put3, s_put2, s_put, s_ex, s_ret, s_iff, s_opt, s_unl, s_hO, s_par3, s_for, ixN, liftF, bindT, bindT.bindTs, calmP, qt, isFrz, frzL, canFrz, canL, freeze, freezeL, avDs, avD, avOk, avRoots, Av.isVar, giveA, setE, getE, getS, setS, binD, slD, cmpD, b1D, b2D, trD, ixD, eqO, okEq, eqD, eqL, flat, okD, okL, dep, depL, start, behind, parOk, asgS, asgT, callN_has, G_has, f2Ok, items, walkD, walkP, unlend, sizeLine_eq, evh, evhs, putF, itmF, mmD, isLst, partD, par3F, noExc, ownOk, wipeE, backE, Pl.root, frzL_app, f1, f2, c2]
    rw [if_pos (by omega)]
    simp [bind_ok, bind_exc, fl_ok, fl_exc, use_none, use_some, use_exc, tmp_ok, tru_ok, tru_exc, liftO_some, slot_0, slot_s, ev_v, ev_fz, ev_mv, ev_g, ev_int, ev_str, ev_bl, ev_non, ev_nop, ev_ix, ev_fld, ev_sl, ev_bin, ev_neg, ev_not, ev_cmp, ev_chain, ev_and, ev_or, ev_itE, ev_tup, ev_lst, ev_call, ev_b1, ev_b2, ev_isi, ev_mm, ev_comp, evs_nIl, evs_cons, eva_nil, eva_cons, evw_rng1, evw_rng2, evw_enm, evw_zip, evw_seq, then_nx, then_ret, then_brk, then_ct, then_exc, env_nx, env_ret, evS_nil, evS_cons, blk_def, evS_asg, evS_par2, evS_par3, evS_aug, evS_puT, evS_ex, evS_ret, evS_retN, evS_iff, evS_whl, evS_foR, evS_brk, evS_cont, evS_pass, evS_raise, evS_try, endC_nx, endC_ret, endC_exc, raise_t, hnd_exc, hnd_nx, hnd_ret, sub_has, isi_bool_non, isi_bool_bl, isi_bool_int, isi_bool_str, isi_bool_tup, isi_bool_lst, isi_int_non, isi_int_bl, isi_int_int, isi_int_str, isi_int_tup, isi_int_lst, isi_str_non, isi_str_bl, isi_str_int, isi_str_str, isi_str_tup, isi_str_lst, isi_tuple_non, isi_tuple_bl, isi_tuple_int, isi_tuple_str, isi_tuple_tup, isi_tuple_lst, isi_list_non, isi_list_bl, isi_list_int, isi_list_str, isi_list_tup, isi_list_lst, evw_rng3, k_v, k_fz, k_mv, k_g, stpO, k_ix3, k_ix2, k_ix, k_fld2, k_fld, k_sl3, k_sl2, k_sl, k_bin2, k_bin, k_neg, bO, k_not, k_cmp2, k_cmp, k_ch4, k_ch3, k_ch2, k_ch, k_and2, k_and, k_or2, k_or, k_ite2, k_ite, k_tup, k_lst, k_ret, k_call2, k_call3, k_call, k_b1, k_b22, k_b2, k_isi, k_mm3, k_mm2, k_mm, cB, cT, cE, cW, k_comp2, k_comp, k_evs2, k_evs, k_eva2, k_eva, k_rng22, k_rng2, k_rng32, k_rng3, k_enm2, k_enm, k_zip4, k_zip3, k_zip2, k_zip, k_seqw, s_asg, s_par22, s_par2, s_aug3, s_aug2, s_aug, s_put3, s_put2, s_put, s_ex, s_ret, s_iff, s_opt, s_unl, s_hO, s_par3, s_for, ixN, liftF, bindT, bindT.bindTs, calmP, qt, isFrz, frzL, canFrz, canL, freeze, freezeL, avDs, avD, avOk, avRoots, Av.isVar, giveA, setE, getE, getS, setS, binD, slD, cmpD, b1D, b2D, trD, ixD, eqO, okEq, eqD, eqL, flat, okD, okL, dep, depL, start, behind, parOk, asgS, asgT, callN_has, G_has, f2Ok, items, walkD, walkP, unlend, sizeLine_eq, evh, evhs, putF, itmF, mmD, isLst, partD, par3F, noExc, ownOk, wipeE, backE, Pl.root, frzL_app, f1, f2, c2, upS]
variable {L : List (Int × Int)} {o : Ow} (ho : Ow.ok o) (hL : ∀ x ∈ L, Q 45 x) (hn : L.length ≤ 900)
include ho hL hn
theorem s_lup : run P (n + 1) fd__law_up [.lst o (L.map fr)] = .ok (.lst .own ((up L).map fr)) [.lst o (L.map fr)] := by
  rw [run_def rfl]
  rcases ho with rfl | rfl
  · obtain ⟨o2, o3, o4, e⟩ := up_out (P := P) (n := n) (x0 := none) L [] none none none hL (by simp) (by simp; omega)
    simp only [List.map_nil] at e
    simp [fd__law_up, b__law_up, bind_ok, bind_exc, fl_ok, fl_exc, use_none, use_some, use_exc, tmp_ok, tru_ok, tru_exc, liftO_some, slot_0, slot_s, ev_v, ev_fz, ev_mv, ev_g, ev_int, ev_str, ev_bl, ev_non, ev_nop, ev_ix, ev_fld, ev_sl, ev_bin, ev_neg, ev_not, ev_cmp, ev_chain, ev_and, ev_or, ev_itE, ev_tup, ev_lst, ev_call, ev_b1, ev_b2, ev_isi, ev_mm, ev_comp, evs_nIl, evs_cons, eva_nil, eva_cons, evw_rng1, evw_rng2, evw_enm, evw_zip, evw_seq, then_nx, then_ret, then_brk, then_ct, then_exc, env_nx, env_ret, evS_nil, evS_cons, blk_def, evS_asg, evS_par2, evS_par3, evS_aug, evS_puT, evS_ex, evS_ret, evS_retN, evS_iff, evS_whl, evS_foR, evS_brk, evS_cont, evS_pass, evS_raise, evS_try, endC_nx, endC_ret, endC_exc, raise_t, hnd_exc, hnd_nx, hnd_ret, sub_has, isi_bool_non, isi_bool_bl, isi_bool_int, isi_bool_str, isi_bool_tup, isi_bool_lst, isi_int_non, isi_int_bl, isi_int_int, isi_int_str, isi_int_tup, isi_int_lst, isi_str_non, isi_str_bl, isi_str_int, isi_str_str, isi_str_tup, isi_str_lst, isi_tuple_non, isi_tuple_bl, isi_tuple_int, isi_tuple_str, isi_tuple_tup, isi_tuple_lst, isi_list_non, isi_list_bl, isi_list_int, isi_list_str, isi_list_tup, isi_list_lst, evw_rng3, k_v, k_fz, k_mv, k_g, stpO, k_ix3, k_ix2, k_ix, k_fld2, k_fld, k_sl3, k_sl2, k_sl, k_bin2, k_bin, k_neg, bO, k_not, k_cmp2, k_cmp, k_ch4, k_ch3, k_ch2, k_ch, k_and2, k_and, k_or2, k_or, k_ite2, k_ite, k_tup, k_lst, k_ret, k_call2, k_call3, k_call, k_b1, k_b22, k_b2, k_isi, k_mm3, k_mm2, k_mm, cB, cT, cE, cW, k_comp2, k_comp, k_evs2, k_evs, k_eva2, k_eva, k_rng22, k_rng2, k_rng32, k_rng3, k_enm2, k_enm, k_zip4, k_zip3, k_zip2, k_zip, k_seqw, s_asg, s_par22, s_par2, s_aug3, s_aug2, s_aug, s_put3, s_put2, s_put, s_ex, s_ret, s_iff, s_opt, s_unl, s_hO, s_par3, s_for, ixN, liftF, bindT, bindT.bindTs, calmP, qt, isFrz, frzL, canFrz, canL, freeze, freezeL, avDs, avD, avOk, avRoots, Av.isVar, giveA, setE, getE, getS, setS, binD, slD, cmpD, b1D, b2D, trD, ixD, eqO, okEq, eqD, eqL, flat, okD, okL, dep, depL, start, behind, parOk, asgS, asgT, callN_has, G_has, f2Ok, items, walkD, walkP, unlend, sizeLine_eq, evh, evhs, putF, itmF, mmD, isLst, partD, par3F, noExc, ownOk, wipeE, backE, Pl.root, e, s_unl, up]
  · obtain ⟨o2, o3, o4, e⟩ := up_out (P := P) (n := n) (x0 := some (.lst .frz (L.map fr))) L [] none none none hL (by simp) (by simp; omega)
    simp only [List.map_nil] at e
    simp [fd__law_up, b__law_up, bind_ok, bind_exc, fl_ok, fl_exc, use_none, use_some, use_exc, tmp_ok, tru_ok, tru_exc, liftO_some, slot_0, slot_s, ev_v, ev_fz, ev_mv, ev_g, ev_int, ev_str, ev_bl, ev_non, ev_nop, ev_ix, ev_fld, ev_sl, ev_bin, ev_neg, ev_not, ev_cmp, ev_chain, ev_and, ev_or, ev_itE, ev_tup, ev_lst, ev_call, ev_b1, ev_b2, ev_isi, ev_mm, ev_comp, evs_nIl, evs_cons, eva_nil, eva_cons, evw_rng1, evw_rng2, evw_enm, evw_zip, evw_seq, then_nx, then_ret, then_brk, then_ct, then_exc, env_nx, env_ret, evS_nil, evS_cons, blk_def, evS_asg, evS_par2, evS_par3, evS_aug, evS_puT, evS_ex, evS_ret, evS_retN, evS_iff, evS_whl, evS_foR, evS_brk, evS_cont, evS_pass, evS_raise, evS_try, endC_nx, endC_ret, endC_exc, raise_t, hnd_exc, hnd_nx, hnd_ret, sub_has, isi_bool_non, isi_bool_bl, isi_bool_int, isi_bool_str, isi_bool_tup, isi_bool_lst, isi_int_non, isi_int_bl, isi_int_int, isi_int_str, isi_int_tup, isi_int_lst, isi_str_non, isi_str_bl, isi_str_int, isi_str_str, isi_str_tup, isi_str_lst, isi_tuple_non, isi_tuple_bl, isi_tuple_int, isi_tuple_str, isi_tuple_tup, isi_tuple_lst, isi_list_non, isi_list_bl, isi_list_int, isi_list_str, isi_list_tup, isi_list_lst, evw_rng3, k_v, k_fz, k_mv, k_g, stpO, k_ix3, k_ix2, k_ix, k_fld2, k_fld, k_sl3, k_sl2, k_sl, k_bin2, k_bin, k_neg, bO, k_not, k_cmp2, k_cmp, k_ch4, k_ch3, k_ch2, k_ch, k_and2, k_and, k_or2, k_or, k_ite2, k_ite, k_tup, k_lst, k_ret, k_call2, k_call3, k_call, k_b1, k_b22, k_b2, k_isi, k_mm3, k_mm2, k_mm, cB, cT, cE, cW, k_comp2, k_comp, k_evs2, k_evs, k_eva2, k_eva, k_rng22, k_rng2, k_rng32, k_rng3, k_enm2, k_enm, k_zip4, k_zip3, k_zip2, k_zip, k_seqw, s_asg, s_par22, s_par2, s_aug3, s_aug2, s_aug, s_put3, s_put2, s_put, s_ex, s_ret, s_iff, s_opt, s_unl, s_hO, s_par3, s_for, ixN, liftF, bindT, bindT.bindTs, calmP, qt, isFrz, frzL, canFrz, canL, freeze, freezeL, avDs, avD, avOk, avRoots, Av.isVar, giveA, setE, getE, getS, setS, binD, slD, cmpD, b1D, b2D, trD, ixD, eqO, okEq, eqD, eqL, flat, okD, okL, dep, depL, start, behind, parOk, asgS, asgT, callN_has, G_has, f2Ok, items, walkD, walkP, unlend, sizeLine_eq, evh, evhs, putF, itmF, mmD, isLst, partD, par3F, noExc, ownOk, wipeE, backE, Pl.root, e, s_unl, up]
end
/-! ### in order -/
def bk (f : Nat → Bool) : Nat → Nat
  | 0 => 0
  | k + 1 => if f k then bk f k else k + 1
theorem bk_le {f : Nat → Bool} : ∀ k, bk f k ≤ k
  | 0 => Nat.le_refl _
  | k + 1 => by
    unfold bk
    split
    · exact Nat.le_succ_of_le (bk_le k)
    · exact Nat.le_refl _
/-- is the fraction at the place that is told k-th below x? -/
def below (L : List (Int × Int)) (found : List Nat) (x : Int × Int) (k : Nat) : Bool := lt (L.getD (found.getD k 0) (0, 1)) x
def inS (L : List (Int × Int)) (found : List Nat) (p : (Int × Int) × Nat) : List Nat := found.take (bk (below L found p.1) found.length) ++ p.2 :: found.drop (bk (below L found p.1) found.length)
def inOrd (L : List (Int × Int)) : List Nat := L.zipIdx.foldl (inS L) []
theorem enum_fr (L : List (Int × Int)) : enumD (L.map fr) = L.zipIdx.map fun p => .tup [.int p.2, fr p.1] := by
  unfold enumD
  rw [List.zipIdx_map, List.map_map]
  rfl
def nat (i : Nat) : D := .int i
@[simp] theorem frzL_nat (xs : List Nat) : frzL (xs.map nat) = true := frzL_map (fun _ => rfl) xs
@[simp] theorem canL_nat (xs : List Nat) : canL (xs.map nat) = true := canL_of (frzL_nat xs)
@[simp] theorem freezeL_nat (xs : List Nat) : freezeL (xs.map nat) = xs.map nat := freezeL_of (frzL_nat xs)
section
variable [Has P "less" fd_less] {L : List (Int × Int)} (hL : ∀ x ∈ L, Q 45 x)
include hL
theorem ord_whl {found : List Nat} {p : (Int × Int) × Nat} (hf : ∀ i ∈ found, i < L.length) (hp : Q 45 p.1) : ∀ (k fuel : Nat), k ≤ found.length → k < fuel →
    whL (cT (callN P (n + 1)) P.G (.and (.cmp .gt (.v 4) (.int 0)) (.call "less" (.cons (.ix (.v 0) (.ix (.v 1) (.bin .sub (.v 4) (.int 1)))) (.cons (.v 3) .nil))))) (s_blk (callN P (n + 1)) P.G P.isSub nWhile (.cons (.aug 4 .sub (.int 1)) .nil)) fuel
      [some (.lst .frz (L.map fr)), some (.lst .own (found.map nat)), some (nat p.2), some (fr p.1), some (nat k)] =
      .nx [some (.lst .frz (L.map fr)), some (.lst .own (found.map nat)), some (nat p.2), some (fr p.1), some (nat (bk (below L found p.1) k))]
  | 0, fuel, _, hfu => by
    obtain ⟨fuel, rfl⟩ : ∃ m, fuel = m + 1 := ⟨fuel - 1, by omega⟩
    simp [whL, bind_ok, bind_exc, fl_ok, fl_exc, use_none, use_some, use_exc, tmp_ok, tru_ok, tru_exc, liftO_some, slot_0, slot_s, ev_v, ev_fz, ev_mv, ev_g, ev_int, ev_str, ev_bl, ev_non, ev_nop, ev_ix, ev_fld, ev_sl, ev_bin, ev_neg, ev_not, ev_cmp, ev_chain, ev_and, ev_or, ev_itE, ev_tup, ev_lst, ev_call, ev_b1, ev_b2, ev_isi, ev_mm, ev_comp, evs_nIl, evs_cons, eva_nil, eva_cons, evw_rng1, evw_rng2, evw_enm, evw_zip, evw_seq, then_nx, then_ret, then_brk, then_ct, then_exc, env_nx, env_ret, evS_nil, evS_cons, blk_def, evS_asg, evS_par2, evS_par3, evS_aug, evS_puT, evS_ex, evS_ret, evS_retN, evS_iff, evS_whl, evS_foR, evS_brk, evS_cont, evS_pass, evS_raise, evS_try, endC_nx, endC_ret, endC_exc, raise_t, hnd_exc, hnd_nx, hnd_ret, sub_has, isi_bool_non, isi_bool_bl, isi_bool_int, isi_bool_str, isi_bool_tup, isi_bool_lst, isi_int_non, isi_int_bl, isi_int_int, isi_int_str, isi_int_tup, isi_int_lst, isi_str_non, isi_str_bl, isi_str_int, isi_str_str, isi_str_tup, isi_str_lst, isi_tuple_non, isi_tuple_bl, isi_tuple_int, isi_tuple_str, isi_tuple_tup, isi_tuple_lst, isi_list_non, isi_list_bl, isi_list_int, isi_list_str, isi_list_tup, isi_list_lst, evw_rng3, k_v, k_fz, k_mv, k_g, stpO, k_ix3, k_ix2, k_ix, k_fld2, k_fld, k_sl3, k_sl2, k_sl, k_bin2, k_bin, k_neg, bO, k_not, k_cmp2, k_cmp, k_ch4, k_ch3, k_ch2, k_ch, k_and2, k_and, k_or2, k_or, k_ite2, k_ite, k_tup, k_lst, k_ret, k_call2, k_call3, k_call, k_b1, k_b22, k_b2, k_isi, k_mm3, k_mm2, k_mm, cB, cT, cE, cW, k_comp2, k_comp, k_evs2, k_evs, k_eva2, k_eva, k_rng22, k_rng2, k_rng32, k_rng3, k_enm2, k_enm, k_zip4, k_zip3, k_zip2, k_zip, k_seqw, s_asg, s_par22, s_par2, s_aug3, s_aug2, s_aug, s_put3, s_put2, s_put, s_ex, s_ret, s_iff, s_opt, s_unl, s_hO, s_par3, s_for, ixN, liftF, bindT, bindT.bindTs, calmP, qt, isFrz, frzL, canFrz, canL, freeze, freezeL, avDs, avD, avOk, avRoots, Av.isVar, giveA, setE, getE, getS, setS, binD, slD, cmpD, b1D, b2D, trD, ixD, eqO, okEq, eqD, eqL, flat, okD, okL, dep, depL, start, behind, parOk, asgS, asgT, callN_has, G_has, f2Ok, items, walkD, walkP, unlend, sizeLine_eq, evh, evhs, putF, itmF, mmD, isLst, partD, par3F, noExc, ownOk, wipeE, backE, Pl.root, nat, bk]
  | k + 1, fuel, hk, hfu => by
    obtain ⟨fuel, rfl⟩ : ∃ m, fuel = m + 1 := ⟨fuel - 1, by omega⟩
    have hk2 : k < found.length := by omega
    have hin : found[k] < L.length := hf _ (List.getElem_mem ..)
    have hq : Q 45 L[found[k]] := hL _ (List.getElem_mem ..)
    have e := s_less (P := P) (n := n) (by decide) (by decide) hq hp
    have hb : below L found p.1 k = lt L[found[k]] p.1 := by simp [below, hk2, hin]
    have hs : ((k + 1 : Nat) : Int) - 1 = (k : Int) := by omega
    have hpos : (0 : Int) < (k : Int) + 1 := by omega
    have hi1 : ((k : Int) < found.length) := by omega
    have hi2 : ((found[k] : Nat) : Int) < L.length := by omega
    by_cases hlt : lt L[found[k]] p.1 = true
    · rw [show bk (below L found p.1) (k + 1) = bk (below L found p.1) k from by rw [bk, hb, hlt]; rfl]
      rw [← ord_whl hf hp k fuel (by omega) (by omega)]
      refine whL_t (ρ1 := [some (.lst .frz (L.map fr)), some (.lst .own (found.map nat)), some (nat p.2), some (fr p.1), some (nat (k + 1))]) ?_ ?_
      · simp [bind_ok, bind_exc, fl_ok, fl_exc, use_none, use_some, use_exc, tmp_ok, tru_ok, tru_exc, liftO_some, slot_0, slot_s, ev_v, ev_fz, ev_mv, ev_g, ev_int, ev_str, ev_bl, ev_non, ev_nop, ev_ix, ev_fld, ev_sl, ev_bin, ev_neg, ev_not, ev_cmp, ev_chain, ev_and, ev_or, ev_itE, ev_tup, ev_lst, ev_call, ev_b1, ev_b2, ev_isi, ev_mm, ev_comp, evs_nIl, evs_cons, eva_nil, eva_cons, evw_rng1, evw_rng2, evw_enm, evw_zip, evw_seq, then_nx, then_ret, then_brk, then_ct, then_exc, env_nx, env_ret, evS_nil, evS_cons, blk_def, evS_asg, evS_par2, evS_par3, evS_aug, evS_puT, evS_ex, evS_ret, evS_retN, evS_iff, evS_whl, evS_foR, evS_brk, evS_cont, evS_pass, evS_raise, evS_try, endC_nx, endC_ret, endC_exc, raise_t, hnd_exc, hnd_nx, hnd_ret, sub_has, isi_bool_non, isi_bool_bl, isi_bool_int, isi_bool_str, isi_bool_tup, isi_bool_lst, isi_int_non, isi_int_bl, isi_int_int, isi_int_str, isi_int_tup, isi_int_lst, isi_str_non, isi_str_bl, isi_str_int, isi_str_str, isi_str_tup, isi_str_lst, isi_tuple_non, isi_tuple_bl, isi_tuple_int, isi_tuple_str, isi_tuple_tup, isi_tuple_lst, isi_list_non, isi_list_bl, isi_list_int, isi_list_str, isi_list_tup, isi_list_lst, evw_rng3, k_v, k_fz, k_mv, k_g, stpO, k_ix3, k_ix2, k_ix, k_fld2, k_fld, k_sl3, k_sl2, k_sl, k_bin2, k_bin, k_neg, bO, k_not, k_cmp2, k_cmp, k_ch4, k_ch3, k_ch2, k_ch, k_and2, k_and, k_or2, k_or, k_ite2, k_ite, k_tup, k_lst, k_ret, k_call2, k_call3, k_call, k_b1, k_b22, k_b2, k_isi, k_mm3, k_mm2, k_mm, cB, cT, cE, cW, k_comp2, k_comp, k_evs2, k_evs, k_eva2, k_eva, k_rng22, k_rng2, k_rng32, k_rng3, k_enm2, k_enm, k_zip4, k_zip3, k_zip2, k_zip, k_seqw, s_asg, s_par22, s_par2, s_aug3, s_aug2, s_aug, s_put3, s_put2, s_put, s_ex, s_ret, s_iff, s_opt, s_unl, s_hO, s_par3, s_for, ixN, liftF, bindT, bindT.bindTs, calmP, qt, isFrz, frzL, canFrz, canL, freeze, freezeL, avDs, avD, avOk, avRoots, Av.isVar, giveA, setE, getE, getS, setS, binD, slD, cmpD, b1D, b2D, trD, ixD, eqO, okEq, eqD, eqL, flat, okD, okL, dep, depL, start, behind, parOk, asgS, asgT, callN_has, G_has, f2Ok, items, walkD, walkP, unlend, sizeLine_eq, evh, evhs, putF, itmF, mmD, isLst, partD, par3F, noExc, ownOk, wipeE, backE, Pl.root, nat, e, hlt, hs, hpos, hi1, hi2, List.getElem?_eq_getElem hk2, List.getElem?_eq_getElem hin]
      · simp [bind_ok, bind_exc, fl_ok, fl_exc, use_none, use_some, use_exc, tmp_ok, tru_ok, tru_exc, liftO_some, slot_0, slot_s, ev_v, ev_fz, ev_mv, ev_g, ev_int, ev_str, ev_bl, ev_non, ev_nop, ev_ix, ev_fld, ev_sl, ev_bin, ev_neg, ev_not, ev_cmp, ev_chain, ev_and, ev_or, ev_itE, ev_tup, ev_lst, ev_call, ev_b1, ev_b2, ev_isi, ev_mm, ev_comp, evs_nIl, evs_cons, eva_nil, eva_cons, evw_rng1, evw_rng2, evw_enm, evw_zip, evw_seq, then_nx, then_ret, then_brk, then_ct, then_exc, env_nx, env_ret, evS_nil, evS_cons, blk_def, evS_asg, evS_par2, evS_par3, evS_aug, evS_puT, evS_ex, evS_ret, evS_retN, evS_iff, evS_whl, evS_foR, evS_brk, evS_cont, evS_pass, evS_raise, evS_try, endC_nx, endC_ret, endC_exc, raise_t, hnd_exc, hnd_nx, hnd_ret, sub_has, isi_bool_non, isi_bool_bl, isi_bool_int, isi_bool_str, isi_bool_tup, isi_bool_lst, isi_int_non, isi_int_bl, isi_int_int, isi_int_str, isi_int_tup, isi_int_lst, isi_str_non, isi_str_bl, isi_str_int, isi_str_str, isi_str_tup, isi_str_lst, isi_tuple_non, isi_tuple_bl, isi_tuple_int, isi_tuple_str, isi_tuple_tup, isi_tuple_lst, isi_list_non, isi_list_bl, isi_list_int, isi_list_str, isi_list_tup, isi_list_lst, evw_rng3, k_v, k_fz, k_mv, k_g, stpO, k_ix3, k_ix2, k_ix, k_fld2, k_fld, k_sl3, k_sl2, k_sl, k_bin2, k_bin, k_neg, bO, k_not, k_cmp2, k_cmp, k_ch4, k_ch3, k_ch2, k_ch, k_and2, k_and, k_or2, k_or, k_ite2, k_ite, k_tup, k_lst, k_ret, k_call2, k_call3, k_call, k_b1, k_b22, k_b2, k_isi, k_mm3, k_mm2, k_mm, cB, cT, cE, cW, k_comp2, k_comp, k_evs2, k_evs, k_eva2, k_eva, k_rng22, k_rng2, k_rng32, k_rng3, k_enm2, k_enm, k_zip4, k_zip3, k_zip2, k_zip, k_seqw, s_asg, s_par22, s_par2, s_aug3, s_aug2, s_aug, s_put3, s_put2, s_put, s_ex, s_ret, s_iff, s_opt, s_unl, s_hO, s_par3, s_for, ixN, liftF, bindT, bindT.bindTs, calmP, qt, isFrz, frzL, canFrz, canL, freeze, freezeL, avDs, avD, avOk, avRoots, Av.isVar, giveA, setE, getE, getS, setS, binD, slD, cmpD, b1D, b2D, trD, ixD, eqO, okEq, eqD, eqL, flat, okD, okL, dep, depL, start, behind, parOk, asgS, asgT, callN_has, G_has, f2Ok, items, walkD, walkP, unlend, sizeLine_eq, evh, evhs, putF, itmF, mmD, isLst, partD, par3F, noExc, ownOk, wipeE, backE, Pl.root, nat, hs]
    · simp only [Bool.not_eq_true] at hlt
      rw [show bk (below L found p.1) (k + 1) = k + 1 from by rw [bk, hb, hlt]; rfl]
      refine whL_f ?_
      simp [bind_ok, bind_exc, fl_ok, fl_exc, use_none, use_some, use_exc, tmp_ok, tru_ok, tru_exc, liftO_some, slot_0, slot_s, ev_v, ev_fz, ev_mv, ev_g, ev_int, ev_str, ev_bl, ev_non, ev_nop, ev_ix, ev_fld, ev_sl, ev_bin, ev_neg, ev_not, ev_cmp, ev_chain, ev_and, ev_or, ev_itE, ev_tup, ev_lst, ev_call, ev_b1, ev_b2, ev_isi, ev_mm, ev_comp, evs_nIl, evs_cons, eva_nil, eva_cons, evw_rng1, evw_rng2, evw_enm, evw_zip, evw_seq, then_nx, then_ret, then_brk, then_ct, then_exc, env_nx, env_ret, evS_nil, evS_cons, blk_def, evS_asg, evS_par2, evS_par3, evS_aug, evS_puT, evS_ex, evS_ret, evS_retN, evS_iff, evS_whl, evS_foR, evS_brk, evS_cont, evS_pass, evS_raise, evS_try, endC_nx, endC_ret, endC_exc, raise_t, hnd_exc, hnd_nx, hnd_ret, sub_has, isi_bool_non, isi_bool_bl, isi_bool_int, isi_bool_str, isi_bool_tup, isi_bool_lst, isi_int_non, isi_int_bl, isi_int_int, isi_int_str, isi_int_tup, isi_int_lst, isi_str_non, isi_str_bl, isi_str_int, isi_str_str, isi_str_tup, isi_str_lst, isi_tuple_non, isi_tuple_bl, isi_tuple_int, isi_tuple_str, isi_tuple_tup, isi_tuple_lst, isi_list_non, isi_list_bl, isi_list_int, isi_list_str, isi_list_tup, isi_list_lst, evw_rng3, k_v, k_fz, k_mv, k_g, stpO, k_ix3, k_ix2, k_ix, k_fld2, k_fld, k_sl3, k_sl2, k_sl, k_bin2, k_bin, k_neg, bO, k_not, k_cmp2, k_cmp, k_ch4, k_ch3, k_ch2, k_ch, k_and2, k_and, k_or2, k_or, k_ite2, k_ite, k_tup, k_lst, k_ret, k_call2, k_call3, k_call, k_b1, k_b22, k_b2, k_isi, k_mm3, k_mm2, k_mm, cB, cT, cE, cW, k_comp2, k_comp, k_evs2, k_evs, k_eva2, k_eva, k_rng22, k_rng2, k_rng32, k_rng3, k_enm2, k_enm, k_zip4, k_zip3, k_zip2, k_zip, k_seqw, s_asg, s_par22, s_par2, s_aug3, s_aug2, s_aug, s_put3, s_put2, s_put, s_ex, s_ret, s_iff, s_opt, s_unl, s_hO, s_par3, s_for, ixN, liftF, bindT, bindT.bindTs, calmP, qt, isFrz, frzL, canFrz, canL, freeze, freezeL, avDs, avD, avOk, avRoots, Av.isVar, giveA, setE, getE, getS, setS, binD, slD, cmpD, b1D, b2D, trD, ixD, eqO, okEq, eqD, eqL, flat, okD, okL, dep, depL, start, behind, parOk, asgS, asgT, callN_has, G_has, f2Ok, items, walkD, walkP, unlend, sizeLine_eq, evh, evhs, putF, itmF, mmD, isLst, partD, par3F, noExc, ownOk, wipeE, backE, Pl.root, nat, e, hlt, hs, hpos, hi1, hi2, List.getElem?_eq_getElem hk2, List.getElem?_eq_getElem hin]
theorem inS_len {found : List Nat} {p : (Int × Int) × Nat} : (inS L found p).length = found.length + 1 := by
  have := bk_le (f := below L found p.1) found.length
  simp [inS]
  omega
theorem inS_mem {found : List Nat} {p : (Int × Int) × Nat} {x : Nat} : x ∈ inS L found p ↔ x = p.2 ∨ x ∈ found := by
  have e : x ∈ found ↔ x ∈ found.take (bk (below L found p.1) found.length) ∨ x ∈ found.drop (bk (below L found p.1) found.length) := by rw [← List.mem_append, List.take_append_drop]
  rw [e]
  simp only [inS, List.mem_append, List.mem_cons]
  constructor
  · rintro (h | h | h) <;> simp [h]
  · rintro (h | h | h) <;> simp [h]
theorem ord_loop : ∀ (r : List ((Int × Int) × Nat)) (found : List Nat) (o2 o3 o4 : Option D), (∀ p ∈ r, Q 45 p.1 ∧ p.2 < L.length) → (∀ i ∈ found, i < L.length) → found.length + r.length ≤ 1000 →
    ∃ o2' o3' o4', forL (s_step (callN P (n + 1)) P.G P.isSub nWhile (.tup (.cons (.v 2) (.cons (.v 3) .nil))) (.cons (.asg (.v 4) (.b1 .len (.v 1))) (.cons (.whl (.and (.cmp .gt (.v 4) (.int 0)) (.call "less" (.cons (.ix (.v 0) (.ix (.v 1) (.bin .sub (.v 4) (.int 1)))) (.cons (.v 3) .nil)))) (.cons (.aug 4 .sub (.int 1)) .nil)) (.cons (.ex (.mm .insert (.v 1) (.cons (.fz (.v 4)) (.cons (.fz (.v 2)) .nil)))) .nil))))
      (r.map fun p => .tup [.int p.2, fr p.1]) [some (.lst .frz (L.map fr)), some (.lst .own (found.map nat)), o2, o3, o4]
      = .nx [some (.lst .frz (L.map fr)), some (.lst .own ((r.foldl (inS L) found).map nat)), o2', o3', o4']
  | [], found, o2, o3, o4, _, _, _ => ⟨o2, o3, o4, rfl⟩
  | p :: r, found, o2, o3, o4, hr, hf, hn => by
    rw [List.length_cons] at hn
    have hp := hr p (List.mem_cons_self ..)
    have hb := bk_le (f := below L found p.1) found.length
    have e1 := ord_whl (P := P) (n := n) hL (found := found) (p := p) hf hp.1 found.length nWhile (Nat.le_refl _) (by unfold nWhile; omega)
    obtain ⟨o2', o3', o4', e2⟩ := ord_loop r (inS L found p) (some (nat p.2)) (some (fr p.1)) (some (nat (bk (below L found p.1) found.length))) (fun y hy => hr y (List.mem_cons_of_mem _ hy)) (fun y hy => by
      rcases (inS_mem hL).mp hy with rfl | h
      · exact hp.2
      · exact hf y h) (by rw [inS_len hL]; omega)
    refine ⟨o2', o3', o4', ?_⟩
    rw [List.map_cons, forL_nx (ρ1 := [some (.lst .frz (L.map fr)), some (.lst .own ((inS L found p).map nat)), some (nat p.2), some (fr p.1), some (nat (bk (below L found p.1) found.length))]), List.foldl_cons, e2]
    have hb1 : ((bk (below L found p.1) found.length : Nat) : Int) ≤ found.length := by omega
    have hb2 : found.length < 16777216 := by omega
    have hb0 : (0 : Int) ≤ ((bk (below L found p.1) found.length : Nat) : Int) := by omega
    simp only [nat] at e1
    simp [s_step, s_opt, bind_ok, bind_exc, fl_ok, fl_exc, use_none, use_some, use_exc, tmp_ok, tru_ok, tru_exc, liftO_some, slot_0, slot_s, ev_v, ev_fz, ev_mv, ev_g, ev_int, ev_str, ev_bl, ev_non, ev_nop, ev_ix, ev_fld, ev_sl, ev_bin, ev_neg, ev_not, ev_cmp, ev_chain, ev_and, ev_or, ev_itE, ev_tup, ev_lst, ev_call, ev_b1, ev_b2, ev_isi, ev_mm, ev_comp, evs_nIl, evs_cons, eva_nil, eva_cons, evw_rng1, evw_rng2, evw_enm, evw_zip, evw_seq, then_nx, then_ret, then_brk, then_ct, then_exc, env_nx, env_ret, evS_nil, evS_cons, blk_def, evS_asg, evS_par2, evS_par3, evS_aug, evS_puT, evS_ex, evS_ret, evS_retN, evS_iff, evS_whl, evS_foR, evS_brk, evS_cont, evS_pass, evS_raise, evS_try, endC_nx, endC_ret, endC_exc, raise_t, hnd_exc, hnd_nx, hnd_ret, sub_has, isi_bool_non, isi_bool_bl, isi_bool_int, isi_bool_str, isi_bool_tup, isi_bool_lst, isi_int_non, isi_int_bl, isi_int_int, isi_int_str, isi_int_tup, isi_int_lst, isi_str_non, isi_str_bl, isi_str_int, isi_str_str, isi_str_tup, isi_str_lst, isi_tuple_non, isi_tuple_bl, isi_tuple_int, isi_tuple_str, isi_tuple_tup, isi_tuple_lst, isi_list_non, isi_list_bl, isi_list_int, isi_list_str, isi_list_tup, isi_list_lst, evw_rng3, k_v, k_fz, k_mv, k_g, stpO, k_ix3, k_ix2, k_ix, k_fld2, k_fld, k_sl3, k_sl2, k_sl, k_bin2, k_bin, k_neg, bO, k_not, k_cmp2, k_cmp, k_ch4, k_ch3, k_ch2, k_ch, k_and2, k_and, k_or2, k_or, k_ite2, k_ite, k_tup, k_lst, k_ret, k_call2, k_call3, k_call, k_b1, k_b22, k_b2, k_isi, k_mm3, k_mm2, k_mm, cB, cT, cE, cW, k_comp2, k_comp, k_evs2, k_evs, k_eva2, k_eva, k_rng22, k_rng2, k_rng32, k_rng3, k_enm2, k_enm, k_zip4, k_zip3, k_zip2, k_zip, k_seqw, s_asg, s_par22, s_par2, s_aug3, s_aug2, s_aug, s_put3, s_put2, s_put, s_ex, s_ret, s_iff, s_opt, s_unl, s_hO, s_par3, s_for, ixN, liftF, bindT, bindT.bindTs, calmP, qt, isFrz, frzL, canFrz, canL, freeze, freezeL, avDs, avD, avOk, avRoots, Av.isVar, giveA, setE, getE, getS, setS, binD, slD, cmpD, b1D, b2D, trD, ixD, eqO, okEq, eqD, eqL, flat, okD, okL, dep, depL, start, behind, parOk, asgS, asgT, callN_has, G_has, f2Ok, items, walkD, walkP, unlend, sizeLine_eq, evh, evhs, putF, itmF, mmD, isLst, partD, par3F, noExc, ownOk, wipeE, backE, Pl.root, e1, nat, hb1, hb2, hb0, inS]
theorem s_inorder {o : Ow} (ho : Ow.ok o) (hn : L.length ≤ 900) : run P (n + 1) fd_in_order [.lst o (L.map fr)] = .ok (.lst .own ((inOrd L).map nat)) [.lst .frz (L.map fr)] := by
  obtain ⟨o2, o3, o4, e⟩ := ord_loop (P := P) (n := n) hL L.zipIdx [] none none none (by
    rintro ⟨x, i⟩ h
    have := List.mem_zipIdx h
    exact ⟨hL _ (by rw [this.2.2]; exact List.getElem_mem ..), by simpa using this.2.1⟩) (by simp) (by simp; omega)
  simp only [List.map_nil] at e
  rw [run_def rfl]
  rcases ho with rfl | rfl
  · simp [fd_in_order, b_in_order, bind_ok, bind_exc, fl_ok, fl_exc, use_none, use_some, use_exc, tmp_ok, tru_ok, tru_exc, liftO_some, slot_0, slot_s, ev_v, ev_fz, ev_mv, ev_g, ev_int, ev_str, ev_bl, ev_non, ev_nop, ev_ix, ev_fld, ev_sl, ev_bin, ev_neg, ev_not, ev_cmp, ev_chain, ev_and, ev_or, ev_itE, ev_tup, ev_lst, ev_call, ev_b1, ev_b2, ev_isi, ev_mm, ev_comp, evs_nIl, evs_cons, eva_nil, eva_cons, evw_rng1, evw_rng2, evw_enm, evw_zip, evw_seq, then_nx, then_ret, then_brk, then_ct, then_exc, env_nx, env_ret, evS_nil, evS_cons, blk_def, evS_asg, evS_par2, evS_par3, evS_aug, evS_puT, evS_ex, evS_ret, evS_retN, evS_iff, evS_whl, evS_foR, evS_brk, evS_cont, evS_pass, evS_raise, evS_try, endC_nx, endC_ret, endC_exc, raise_t, hnd_exc, hnd_nx, hnd_ret, sub_has, isi_bool_non, isi_bool_bl, isi_bool_int, isi_bool_str, isi_bool_tup, isi_bool_lst, isi_int_non, isi_int_bl, isi_int_int, isi_int_str, isi_int_tup, isi_int_lst, isi_str_non, isi_str_bl, isi_str_int, isi_str_str, isi_str_tup, isi_str_lst, isi_tuple_non, isi_tuple_bl, isi_tuple_int, isi_tuple_str, isi_tuple_tup, isi_tuple_lst, isi_list_non, isi_list_bl, isi_list_int, isi_list_str, isi_list_tup, isi_list_lst, evw_rng3, k_v, k_fz, k_mv, k_g, stpO, k_ix3, k_ix2, k_ix, k_fld2, k_fld, k_sl3, k_sl2, k_sl, k_bin2, k_bin, k_neg, bO, k_not, k_cmp2, k_cmp, k_ch4, k_ch3, k_ch2, k_ch, k_and2, k_and, k_or2, k_or, k_ite2, k_ite, k_tup, k_lst, k_ret, k_call2, k_call3, k_call, k_b1, k_b22, k_b2, k_isi, k_mm3, k_mm2, k_mm, cB, cT, cE, cW, k_comp2, k_comp, k_evs2, k_evs, k_eva2, k_eva, k_rng22, k_rng2, k_rng32, k_rng3, k_enm2, k_enm, k_zip4, k_zip3, k_zip2, k_zip, k_seqw, s_asg, s_par22, s_par2, s_aug3, s_aug2, s_aug, s_put3, s_put2, s_put, s_ex, s_ret, s_iff, s_opt, s_unl, s_hO, s_par3, s_for, ixN, liftF, bindT, bindT.bindTs, calmP, qt, isFrz, frzL, canFrz, canL, freeze, freezeL, avDs, avD, avOk, avRoots, Av.isVar, giveA, setE, getE, getS, setS, binD, slD, cmpD, b1D, b2D, trD, ixD, eqO, okEq, eqD, eqL, flat, okD, okL, dep, depL, start, behind, parOk, asgS, asgT, callN_has, G_has, f2Ok, items, walkD, walkP, unlend, sizeLine_eq, evh, evhs, putF, itmF, mmD, isLst, partD, par3F, noExc, ownOk, wipeE, backE, Pl.root, enum_fr, e, inOrd, isTupD, s_unl]
  · simp [fd_in_order, b_in_order, bind_ok, bind_exc, fl_ok, fl_exc, use_none, use_some, use_exc, tmp_ok, tru_ok, tru_exc, liftO_some, slot_0, slot_s, ev_v, ev_fz, ev_mv, ev_g, ev_int, ev_str, ev_bl, ev_non, ev_nop, ev_ix, ev_fld, ev_sl, ev_bin, ev_neg, ev_not, ev_cmp, ev_chain, ev_and, ev_or, ev_itE, ev_tup, ev_lst, ev_call, ev_b1, ev_b2, ev_isi, ev_mm, ev_comp, evs_nIl, evs_cons, eva_nil, eva_cons, evw_rng1, evw_rng2, evw_enm, evw_zip, evw_seq, then_nx, then_ret, then_brk, then_ct, then_exc, env_nx, env_ret, evS_nil, evS_cons, blk_def, evS_asg, evS_par2, evS_par3, evS_aug, evS_puT, evS_ex, evS_ret, evS_retN, evS_iff, evS_whl, evS_foR, evS_brk, evS_cont, evS_pass, evS_raise, evS_try, endC_nx, endC_ret, endC_exc, raise_t, hnd_exc, hnd_nx, hnd_ret, sub_has, isi_bool_non, isi_bool_bl, isi_bool_int, isi_bool_str, isi_bool_tup, isi_bool_lst, isi_int_non, isi_int_bl, isi_int_int, isi_int_str, isi_int_tup, isi_int_lst, isi_str_non, isi_str_bl, isi_str_int, isi_str_str, isi_str_tup, isi_str_lst, isi_tuple_non, isi_tuple_bl, isi_tuple_int, isi_tuple_str, isi_tuple_tup, isi_tuple_lst, isi_list_non, isi_list_bl, isi_list_int, isi_list_str, isi_list_tup, isi_list_lst, evw_rng3, k_v, k_fz, k_mv, k_g, stpO, k_ix3, k_ix2, k_ix, k_fld2, k_fld, k_sl3, k_sl2, k_sl, k_bin2, k_bin, k_neg, bO, k_not, k_cmp2, k_cmp, k_ch4, k_ch3, k_ch2, k_ch, k_and2, k_and, k_or2, k_or, k_ite2, k_ite, k_tup, k_lst, k_ret, k_call2, k_call3, k_call, k_b1, k_b22, k_b2, k_isi, k_mm3, k_mm2, k_mm, cB, cT, cE, cW, k_comp2, k_comp, k_evs2, k_evs, k_eva2, k_eva, k_rng22, k_rng2, k_rng32, k_rng3, k_enm2, k_enm, k_zip4, k_zip3, k_zip2, k_zip, k_seqw, s_asg, s_par22, s_par2, s_aug3, s_aug2, s_aug, s_put3, s_put2, s_put, s_ex, s_ret, s_iff, s_opt, s_unl, s_hO, s_par3, s_for, ixN, liftF, bindT, bindT.bindTs, calmP, qt, isFrz, frzL, canFrz, canL, freeze, freezeL, avDs, avD, avOk, avRoots, Av.isVar, giveA, setE, getE, getS, setS, binD, slD, cmpD, b1D, b2D, trD, ixD, eqO, okEq, eqD, eqL, flat, okD, okL, dep, depL, start, behind, parOk, asgS, asgT, callN_has, G_has, f2Ok, items, walkD, walkP, unlend, sizeLine_eq, evh, evhs, putF, itmF, mmD, isLst, partD, par3F, noExc, ownOk, wipeE, backE, Pl.root, enum_fr, e, inOrd, isTupD, s_unl]
end
end Ev.Fr

/-! FrM: plain facts of rows of fractions. -/
namespace Ev.Fr
open PySem PySem.Spec PyProof.Rows L2
def dueS (due : List (Int × Int)) (v : Int × Int) : List (Int × Int) := if v ∈ due then due else v :: due
def plS (L : List (Int × Int)) (ps : List Nat) (v : Int × Int) : List Nat := ps ++ (List.range L.length).filter fun i => decide (L.getD i (0, 1) = v)
/-! ### the order -/
def leq (a b : Int × Int) : Prop := a.1 * b.2 ≤ b.1 * a.2
theorem lt_iff {a b : Int × Int} : lt a b = true ↔ ¬ leq b a := by simp [lt, leq]
theorem lt_false {a b : Int × Int} : lt a b = false ↔ leq b a := by simp [lt, leq]
theorem leq_refl (a : Int × Int) : leq a a := Int.le_refl _
theorem leq_total (a b : Int × Int) : leq a b ∨ leq b a := Int.le_total _ _
theorem leq_trans {a b c : Int × Int} (ha : 0 < a.2) (hb : 0 < b.2) (hc : 0 < c.2) (h1 : leq a b) (h2 : leq b c) : leq a c := by
  have e1 : a.1 * b.2 * c.2 ≤ b.1 * a.2 * c.2 := Int.mul_le_mul_of_nonneg_right h1 (Int.le_of_lt hc)
  have e2 : b.1 * c.2 * a.2 ≤ c.1 * b.2 * a.2 := Int.mul_le_mul_of_nonneg_right h2 (Int.le_of_lt ha)
  have e3 : b.1 * a.2 * c.2 = b.1 * c.2 * a.2 := by rw [Int.mul_assoc, Int.mul_comm a.2, ← Int.mul_assoc]
  have e4 : a.1 * b.2 * c.2 = a.1 * c.2 * b.2 := by rw [Int.mul_assoc, Int.mul_comm b.2, ← Int.mul_assoc]
  have e5 : c.1 * b.2 * a.2 = c.1 * a.2 * b.2 := by rw [Int.mul_assoc, Int.mul_comm b.2, ← Int.mul_assoc]
  have e6 : a.1 * c.2 * b.2 ≤ c.1 * a.2 * b.2 := by omega
  exact Int.le_of_mul_le_mul_right e6 hb
theorem leq_anti {a b : Int × Int} (ha : Nf a) (hb : Nf b) (h1 : leq a b) (h2 : leq b a) : a = b := Nf.eq ha hb (Int.le_antisymm h1 h2)
/-! ### the row that ascends -/
theorem up_parts {a : Int × Int} (ha : 0 < a.2) : ∀ {f : List (Int × Int)}, (∀ x ∈ f, 0 < x.2) → f.Pairwise leq → (∀ x ∈ f.take (upK a f), leq x a) ∧ ∀ x ∈ f.drop (upK a f), leq a x
  | [], _, _ => by constructor <;> intro x hx <;> simp at hx
  | b :: r, hp, hs => by
    rw [List.pairwise_cons] at hs
    have hb := hp b (List.mem_cons_self ..)
    have ih := up_parts ha (f := r) (fun x hx => hp x (List.mem_cons_of_mem _ hx)) hs.2
    by_cases h : lt a b = true
    · have h2 : leq a b := (leq_total a b).resolve_right (lt_iff.mp h)
      have hall : ∀ x ∈ r, lt a x = true := fun x hx => by
        rw [lt_iff] at h ⊢
        exact fun h3 => h (leq_trans hb (hp x (List.mem_cons_of_mem _ hx)) ha (hs.1 x hx) h3)
      have hk : upK a (b :: r) = 0 := by
        have : (b :: r).filter (fun x => !lt a x) = [] := by
          rw [List.filter_eq_nil_iff]
          intro x hx
          rcases List.mem_cons.mp hx with rfl | hx
          · simp [h]
          · simp [hall x hx]
        simp [upK, this]
      rw [hk]
      refine ⟨fun x hx => by simp at hx, fun x hx => ?_⟩
      rw [List.drop_zero] at hx
      rcases List.mem_cons.mp hx with rfl | hx
      · exact h2
      · exact leq_trans ha hb (hp x (List.mem_cons_of_mem _ hx)) h2 (hs.1 x hx)
    · simp only [Bool.not_eq_true] at h
      have hk : upK a (b :: r) = upK a r + 1 := by simp [upK, h]
      rw [hk]
      refine ⟨fun x hx => ?_, fun x hx => ih.2 x (by simpa using hx)⟩
      rw [List.take_succ_cons] at hx
      rcases List.mem_cons.mp hx with rfl | hx
      · exact lt_false.mp h
      · exact ih.1 x hx
theorem upS_sorted {f : List (Int × Int)} {a : Int × Int} (ha : 0 < a.2) (hp : ∀ x ∈ f, 0 < x.2) (hs : f.Pairwise leq) : (upS f a).Pairwise leq := by
  have h := up_parts ha hp hs
  have hs2 := hs
  rw [← List.take_append_drop (upK a f) f, List.pairwise_append] at hs2
  unfold upS
  rw [List.pairwise_append, List.pairwise_cons]
  refine ⟨hs2.1, ⟨h.2, hs2.2.1⟩, fun x hx y hy => ?_⟩
  rcases List.mem_cons.mp hy with rfl | hy
  · exact h.1 x hx
  · exact hs2.2.2 x hx y hy
theorem up_gen : ∀ (L f : List (Int × Int)), (∀ x ∈ L, 0 < x.2) → (∀ x ∈ f, 0 < x.2) → f.Pairwise leq → (L.foldl upS f).Pairwise leq ∧ (∀ x, x ∈ L.foldl upS f ↔ x ∈ L ∨ x ∈ f) ∧ (L.foldl upS f).length = L.length + f.length
  | [], f, _, _, hs => ⟨hs, by simp, by simp⟩
  | a :: r, f, hL, hf, hs => by
    have ha := hL a (List.mem_cons_self ..)
    have ih := up_gen r (upS f a) (fun x hx => hL x (List.mem_cons_of_mem _ hx)) (fun x hx => by
      rcases upS_mem.mp hx with rfl | h
      · exact ha
      · exact hf x h) (upS_sorted ha hf hs)
    rw [List.foldl_cons]
    refine ⟨ih.1, fun x => ?_, ?_⟩
    · rw [ih.2.1, upS_mem, List.mem_cons]
      constructor
      · rintro (h | h | h) <;> simp [h]
      · rintro ((h | h) | h) <;> simp [h]
    · rw [ih.2.2, upS_len, List.length_cons]
      omega
theorem up_all (L : List (Int × Int)) (h : ∀ x ∈ L, 0 < x.2) : (up L).Pairwise leq ∧ (∀ x, x ∈ up L ↔ x ∈ L) ∧ (up L).length = L.length := by
  have := up_gen L [] h (by simp) List.Pairwise.nil
  exact ⟨this.1, fun x => by rw [show up L = L.foldl upS [] from rfl, this.2.1]; simp, by have h := this.2.2; simp only [List.length_nil, Nat.add_zero] at h; exact h⟩
theorem up_len (L : List (Int × Int)) : (up L).length = L.length := by
  have main : ∀ (L f : List (Int × Int)), (L.foldl upS f).length = L.length + f.length := by
    intro L
    induction L with
    | nil => intro f; simp
    | cons a r ih => intro f; rw [List.foldl_cons, ih, upS_len, List.length_cons]; omega
  have h := main L []
  simp only [List.length_nil, Nat.add_zero] at h
  exact h
theorem gr_gen : ∀ (L : List (Int × Int)) (b : Int × Int), (∀ x ∈ L, 0 < x.2) → 0 < b.2 → (grF L b = b ∨ grF L b ∈ L) ∧ leq b (grF L b) ∧ ∀ x ∈ L, leq x (grF L b)
  | [], b, _, _ => ⟨.inl rfl, leq_refl b, by simp⟩
  | a :: r, b, hL, hb => by
    have ha := hL a (List.mem_cons_self ..)
    have hr : ∀ x ∈ r, 0 < x.2 := fun x hx => hL x (List.mem_cons_of_mem _ hx)
    have pos : ∀ c : Int × Int, 0 < c.2 → 0 < (grF r c).2 := fun c hc => by
      rcases (gr_gen r c hr hc).1 with h | h
      · rw [h]; exact hc
      · exact hr _ h
    by_cases h : lt b a = true
    · have e : grF (a :: r) b = grF r a := by simp [grF, h]
      obtain ⟨i1, i2, i3⟩ := gr_gen r a hr ha
      have h1 : leq b a := (leq_total b a).resolve_right (lt_iff.mp h)
      rw [e]
      refine ⟨.inr ?_, leq_trans hb ha (pos a ha) h1 i2, fun x hx => ?_⟩
      · rcases i1 with h | h <;> simp [h]
      · rcases List.mem_cons.mp hx with rfl | hx
        · exact i2
        · exact i3 x hx
    · simp only [Bool.not_eq_true] at h
      have e : grF (a :: r) b = grF r b := by simp [grF, h]
      obtain ⟨i1, i2, i3⟩ := gr_gen r b hr hb
      rw [e]
      refine ⟨?_, i2, fun x hx => ?_⟩
      · rcases i1 with h | h
        · exact .inl h
        · exact .inr (List.mem_cons_of_mem _ h)
      · rcases List.mem_cons.mp hx with rfl | hx
        · exact leq_trans ha hb (pos b hb) (lt_false.mp h) i2
        · exact i3 x hx
theorem le_gen : ∀ (L : List (Int × Int)) (b : Int × Int), (∀ x ∈ L, 0 < x.2) → 0 < b.2 → (leF L b = b ∨ leF L b ∈ L) ∧ leq (leF L b) b ∧ ∀ x ∈ L, leq (leF L b) x
  | [], b, _, _ => ⟨.inl rfl, leq_refl b, by simp⟩
  | a :: r, b, hL, hb => by
    have ha := hL a (List.mem_cons_self ..)
    have hr : ∀ x ∈ r, 0 < x.2 := fun x hx => hL x (List.mem_cons_of_mem _ hx)
    have pos : ∀ c : Int × Int, 0 < c.2 → 0 < (leF r c).2 := fun c hc => by
      rcases (le_gen r c hr hc).1 with h | h
      · rw [h]; exact hc
      · exact hr _ h
    by_cases h : lt a b = true
    · have e : leF (a :: r) b = leF r a := by simp [leF, h]
      obtain ⟨i1, i2, i3⟩ := le_gen r a hr ha
      have h1 : leq a b := (leq_total a b).resolve_right (lt_iff.mp h)
      rw [e]
      refine ⟨.inr ?_, leq_trans (pos a ha) ha hb i2 h1, fun x hx => ?_⟩
      · rcases i1 with h | h <;> simp [h]
      · rcases List.mem_cons.mp hx with rfl | hx
        · exact i2
        · exact i3 x hx
    · simp only [Bool.not_eq_true] at h
      have e : leF (a :: r) b = leF r b := by simp [leF, h]
      obtain ⟨i1, i2, i3⟩ := le_gen r b hr hb
      rw [e]
      refine ⟨?_, i2, fun x hx => ?_⟩
      · rcases i1 with h | h
        · exact .inl h
        · exact .inr (List.mem_cons_of_mem _ h)
      · rcases List.mem_cons.mp hx with rfl | hx
        · exact leq_trans (pos b hb) hb ha i2 (lt_false.mp h)
        · exact i3 x hx
theorem up_last {L : List (Int × Int)} (h : ∀ x ∈ L, Nf x) {a : Int × Int} (ha : L[0]? = some a) : (up L)[L.length - 1]? = some (grF L a) := by
  have hp : ∀ x ∈ L, 0 < x.2 := fun x hx => (h x hx).1
  obtain ⟨s1, s2, s3⟩ := up_all L hp
  have ham : a ∈ L := List.mem_of_getElem? ha
  have hl : 0 < L.length := List.length_pos_of_mem ham
  obtain ⟨g1, g2, g3⟩ := gr_gen L a hp (hp a ham)
  have gm : grF L a ∈ L := by rcases g1 with e | e; rw [e]; exact ham; exact e
  have hl2 : L.length - 1 < (up L).length := by omega
  rw [List.getElem?_eq_getElem hl2]
  have m1 : (up L)[L.length - 1] ∈ L := (s2 _).mp (List.getElem_mem ..)
  refine congrArg some (leq_anti (h _ m1) (h _ gm) (g3 _ m1) ?_)
  obtain ⟨i, hi, e⟩ := List.getElem_of_mem ((s2 _).mpr gm)
  rw [← e]
  rcases Nat.lt_or_ge i (L.length - 1) with hlt | hge
  · exact List.pairwise_iff_getElem.mp s1 i (L.length - 1) hi hl2 hlt
  · have : i = L.length - 1 := by omega
    subst this
    exact leq_refl _
theorem up_first {L : List (Int × Int)} (h : ∀ x ∈ L, Nf x) {a : Int × Int} (ha : L[0]? = some a) : (up L)[0]? = some (leF L a) := by
  have hp : ∀ x ∈ L, 0 < x.2 := fun x hx => (h x hx).1
  obtain ⟨s1, s2, s3⟩ := up_all L hp
  have ham : a ∈ L := List.mem_of_getElem? ha
  have hl : 0 < L.length := List.length_pos_of_mem ham
  obtain ⟨g1, g2, g3⟩ := le_gen L a hp (hp a ham)
  have gm : leF L a ∈ L := by rcases g1 with e | e; rw [e]; exact ham; exact e
  have hl2 : 0 < (up L).length := by omega
  rw [List.getElem?_eq_getElem hl2]
  have m1 : (up L)[0] ∈ L := (s2 _).mp (List.getElem_mem ..)
  refine congrArg some (leq_anti (h _ m1) (h _ gm) ?_ (g3 _ m1))
  obtain ⟨i, hi, e⟩ := List.getElem_of_mem ((s2 _).mpr gm)
  rw [← e]
  rcases Nat.eq_zero_or_pos i with h0 | h0
  · subst h0
    exact leq_refl _
  · exact List.pairwise_iff_getElem.mp s1 0 i hl2 hi h0
/-! ### in order -/
def Rk (L : List (Int × Int)) (i j : Nat) : Prop := lt (L.getD j (0, 1)) (L.getD i (0, 1)) = true ∨ (L.getD i (0, 1) = L.getD j (0, 1) ∧ i < j)
theorem Rk.asym {L : List (Int × Int)} {i j : Nat} (h1 : Rk L i j) (h2 : Rk L j i) : False := by
  have irr : ∀ a : Int × Int, lt a a = true → False := fun a h => lt_iff.mp h (leq_refl a)
  rcases h1 with h1 | ⟨h1, h3⟩ <;> rcases h2 with h2 | ⟨h2, h4⟩
  · rw [lt_iff] at h1 h2
    exact (leq_total _ _).elim h1 h2
  · rw [h2] at h1; exact irr _ h1
  · rw [h1] at h2; exact irr _ h2
  · omega
theorem bk_spec {f : Nat → Bool} : ∀ n, (∀ j, bk f n ≤ j → j < n → f j = true) ∧ (0 < bk f n → f (bk f n - 1) = false)
  | 0 => ⟨fun j _ h => by omega, fun h => by simp [bk] at h⟩
  | n + 1 => by
    obtain ⟨h1, h2⟩ := bk_spec (f := f) n
    unfold bk
    by_cases h : f n = true
    · rw [if_pos h]
      refine ⟨fun j hj hj2 => ?_, h2⟩
      rcases Nat.lt_or_ge j n with h3 | h3
      · exact h1 j hj h3
      · have : j = n := by omega
        rw [this]; exact h
    · rw [if_neg h]
      simp only [Bool.not_eq_true] at h
      exact ⟨fun j hj hj2 => by omega, fun _ => by simpa using h⟩
theorem inS_pw {L : List (Int × Int)} (hN : ∀ x ∈ L, Nf x) {found : List Nat} {m : Nat} (hm : m < L.length) (hf : ∀ i ∈ found, i < m) (hs : found.Pairwise (Rk L)) : (inS L found (L[m], m)).Pairwise (Rk L) := by
  obtain ⟨b1, b2⟩ := bk_spec (f := below L found L[m]) found.length
  have hb := bk_le (f := below L found L[m]) found.length
  have hs2 := hs
  rw [← List.take_append_drop (bk (below L found L[m]) found.length) found, List.pairwise_append] at hs2
  unfold inS
  simp only
  generalize hk : bk (below L found L[m]) found.length = k at *
  have nfD : ∀ i, i < L.length → Nf (L.getD i (0, 1)) := fun i hi => by
    rw [List.getD, List.getElem?_eq_getElem hi]; exact hN _ (List.getElem_mem ..)
  have hmD : L.getD m (0, 1) = L[m] := by rw [List.getD, List.getElem?_eq_getElem hm]; rfl
  have bel : ∀ j (hj : j < found.length), below L found L[m] j = lt (L.getD found[j] (0, 1)) (L.getD m (0, 1)) := fun j hj => by
    unfold below
    have e : found.getD j 0 = found[j] := by rw [List.getD, List.getElem?_eq_getElem hj]; rfl
    rw [hmD, e]
  have A : ∀ x ∈ found.take k, Rk L x m := by
    intro x hx
    have hxf : x ∈ found := List.mem_of_mem_take hx
    have hxm := hf x hxf
    have hkpos : 0 < k := by
      rcases Nat.eq_zero_or_pos k with h | h
      · rw [h] at hx; simp at hx
      · exact h
    have hk1 : k - 1 < found.length := by omega
    have h2 := b2 hkpos
    rw [bel _ hk1, lt_false] at h2
    -- the last one that is kept is not below
    have hle : leq (L.getD m (0, 1)) (L.getD x (0, 1)) := by
      obtain ⟨i, hi, e⟩ := List.getElem_of_mem hx
      rw [List.length_take] at hi
      rw [List.getElem_take] at e
      subst e
      rcases Nat.lt_or_ge i (k - 1) with h3 | h3
      · have h4 := List.pairwise_iff_getElem.mp hs i (k - 1) (by omega) hk1 h3
        have hmk := hf _ (List.getElem_mem hk1)
        have h5 : leq (L.getD found[k - 1] (0, 1)) (L.getD found[i] (0, 1)) := by
          rcases h4 with h4 | ⟨h4, _⟩
          · rw [lt_iff] at h4
            exact (leq_total _ _).resolve_right h4
          · rw [h4]; exact leq_refl _
        exact leq_trans (nfD _ hm).1 (nfD _ (by omega)).1 (nfD _ (by omega)).1 h2 h5
      · have : i = k - 1 := by omega
        subst this
        exact h2
    by_cases h3 : leq (L.getD x (0, 1)) (L.getD m (0, 1))
    · exact .inr ⟨leq_anti (nfD x (by omega)) (nfD m hm) h3 hle, hxm⟩
    · exact .inl (lt_iff.mpr h3)
  have B : ∀ x ∈ found.drop k, Rk L m x := by
    intro x hx
    obtain ⟨i, hi, e⟩ := List.getElem_of_mem hx
    rw [List.length_drop] at hi
    rw [List.getElem_drop] at e
    subst e
    have h3 := b1 (k + i) (by omega) (by omega)
    rw [bel _ (by omega)] at h3
    exact .inl h3
  rw [List.pairwise_append, List.pairwise_cons]
  refine ⟨hs2.1, ⟨B, hs2.2.1⟩, fun x hx y hy => ?_⟩
  rcases List.mem_cons.mp hy with rfl | hy
  · exact A x hx
  · exact hs2.2.2 x hx y hy
theorem inS_mem' {L : List (Int × Int)} {found : List Nat} {p : (Int × Int) × Nat} {x : Nat} : x ∈ inS L found p ↔ x = p.2 ∨ x ∈ found := by
  have e : x ∈ found ↔ x ∈ found.take (bk (below L found p.1) found.length) ∨ x ∈ found.drop (bk (below L found p.1) found.length) := by rw [← List.mem_append, List.take_append_drop]
  rw [e]
  simp only [inS, List.mem_append, List.mem_cons]
  constructor
  · rintro (h | h | h) <;> simp [h]
  · rintro (h | h | h) <;> simp [h]
theorem ord_gen {L : List (Int × Int)} (hN : ∀ x ∈ L, Nf x) : ∀ (r : List (Int × Int)) (pre : List (Int × Int)) (found : List Nat), pre ++ r = L → (∀ i, i ∈ found ↔ i < pre.length) → found.Pairwise (Rk L) →
    ((r.zipIdx pre.length).foldl (inS L) found).Pairwise (Rk L) ∧ ∀ i, i ∈ (r.zipIdx pre.length).foldl (inS L) found ↔ i < L.length
  | [], pre, found, e, hf, hs => by
    rw [List.append_nil] at e
    subst e
    exact ⟨hs, hf⟩
  | x :: r, pre, found, e, hf, hs => by
    have hm : pre.length < L.length := by rw [← e]; simp
    have hx : L[pre.length] = x := by subst e; simp
    rw [List.zipIdx_cons, List.foldl_cons]
    have h1 := inS_pw hN hm (fun i hi => (hf i).mp hi) hs
    rw [hx] at h1
    have ih := ord_gen hN r (pre ++ [x]) (inS L found (x, pre.length)) (by rw [List.append_assoc]; exact e) (fun i => by
      rw [inS_mem', hf i, List.length_append]
      simp
      omega) h1
    rw [List.length_append] at ih
    exact ih
theorem due_gen {a : Int × Int} : ∀ (r due : List (Int × Int)), (∀ x ∈ r, Nf x) → (∀ x ∈ due, Nf x) → r.Pairwise leq → (∀ d ∈ due, ∀ x ∈ r, leq d x) → due.Pairwise (fun a b => lt b a = true) →
    (r.foldl dueS due).Pairwise (fun a b => lt b a = true) ∧ ∀ x, x ∈ r.foldl dueS due ↔ x ∈ r ∨ x ∈ due
  | [], due, _, _, _, _, hs => ⟨hs, by simp⟩
  | v :: r, due, hr, hd, hp, hle, hs => by
    rw [List.pairwise_cons] at hp
    have hv := hr v (List.mem_cons_self ..)
    have hr' : ∀ x ∈ r, Nf x := fun x hx => hr x (List.mem_cons_of_mem _ hx)
    rw [List.foldl_cons]
    by_cases h : v ∈ due
    · have e : dueS due v = due := by simp [dueS, h]
      rw [e]
      have ih := due_gen (a := a) r due hr' hd hp.2 (fun d hd x hx => hle d hd x (List.mem_cons_of_mem _ hx)) hs
      refine ⟨ih.1, fun x => ?_⟩
      rw [ih.2, List.mem_cons]
      constructor
      · rintro (h | h) <;> simp [h]
      · rintro ((h' | h') | h')
        · exact .inr (h' ▸ h)
        · exact .inl h'
        · exact .inr h'
    · have e : dueS due v = v :: due := by simp [dueS, h]
      rw [e]
      have ih := due_gen (a := a) r (v :: due) hr' (fun x hx => by
        rcases List.mem_cons.mp hx with rfl | hx
        · exact hv
        · exact hd x hx) hp.2 (fun d hd x hx => by
        rcases List.mem_cons.mp hd with rfl | hd
        · exact hp.1 x hx
        · exact hle d hd x (List.mem_cons_of_mem _ hx)) (by
        rw [List.pairwise_cons]
        refine ⟨fun d hdm => ?_, hs⟩
        rw [lt_iff]
        intro h3
        have := leq_anti hv (hd d hdm) h3 (hle d hdm v (List.mem_cons_self ..))
        exact h (this ▸ hdm))
      refine ⟨ih.1, fun x => ?_⟩
      rw [ih.2, List.mem_cons, List.mem_cons]
      constructor
      · rintro (h | h | h) <;> simp [h]
      · rintro ((h | h) | h) <;> simp [h]
def posOf (L : List (Int × Int)) (v : Int × Int) : List Nat := (List.range L.length).filter fun i => decide (L.getD i (0, 1) = v)
theorem pl_flat (L : List (Int × Int)) : ∀ (r : List (Int × Int)) (ps : List Nat), r.foldl (plS L) ps = ps ++ r.flatMap (posOf L)
  | [], ps => by simp
  | v :: r, ps => by
    rw [List.foldl_cons, pl_flat L r, List.flatMap_cons, ← List.append_assoc]
    rfl
theorem ord_eq {L : List (Int × Int)} (h : ∀ x ∈ L, Nf x) : inOrd L = ((up L).foldl dueS []).foldl (plS L) [] := by
  obtain ⟨s1, s2, s3⟩ := up_all L fun x hx => (h x hx).1
  obtain ⟨o1, o2⟩ := ord_gen h L [] [] rfl (by simp) List.Pairwise.nil
  obtain ⟨d1, d2⟩ := due_gen (a := (0, 1)) (up L) [] (fun x hx => h x ((s2 x).mp hx)) (by simp) s1 (by simp) List.Pairwise.nil
  rw [pl_flat, List.nil_append]
  have mem : ∀ i v, i ∈ posOf L v ↔ i < L.length ∧ L.getD i (0, 1) = v := fun i v => by simp [posOf]
  have p1 : (((up L).foldl dueS []).flatMap (posOf L)).Pairwise (Rk L) := by
    rw [List.pairwise_flatMap]
    refine ⟨fun v hv => ?_, ?_⟩
    · have : (List.range L.length).Pairwise (· < ·) := List.pairwise_lt_range
      have h2 := this.filter fun i => decide (L.getD i (0, 1) = v)
      refine List.Pairwise.imp_of_mem (fun {i j} hi hj hij => ?_) h2
      have hi := (mem i v).mp hi
      have hj := (mem j v).mp hj
      exact .inr ⟨by rw [hi.2, hj.2], hij⟩
    · refine d1.imp fun {a b} hab x hx y hy => ?_
      have hx := (mem x a).mp hx
      have hy := (mem y b).mp hy
      exact .inl (by rw [hx.2, hy.2]; exact hab)
  have o3 : (inOrd L).Pairwise (Rk L) := o1
  have mm : ∀ i, i ∈ inOrd L ↔ i ∈ ((up L).foldl dueS []).flatMap (posOf L) := fun i => by
    rw [show i ∈ inOrd L ↔ i < L.length from o2 i, List.mem_flatMap]
    constructor
    · intro hi
      refine ⟨L.getD i (0, 1), ?_, (mem i _).mpr ⟨hi, rfl⟩⟩
      rw [d2, s2]
      refine .inl ?_
      rw [List.getD, List.getElem?_eq_getElem hi]
      exact List.getElem_mem ..
    · rintro ⟨v, _, hv⟩
      exact ((mem i v).mp hv).1
  have nd : ∀ l : List Nat, l.Pairwise (Rk L) → l.Nodup := fun l hl => hl.imp fun {a b} hab e => by
    subst e
    exact Rk.asym hab hab
  exact List.Perm.eq_of_pairwise (fun a b _ _ h1 h2 => (Rk.asym h1 h2).elim) o3 p1 ((List.perm_ext_iff_of_nodup (nd _ o3) (nd _ p1)).mpr mm)
theorem due_len : ∀ (r due : List (Int × Int)), (r.foldl dueS due).length ≤ due.length + r.length
  | [], _ => Nat.le_refl _
  | v :: r, due => by
    have h := due_len r (dueS due v)
    have h2 : (dueS due v).length ≤ due.length + 1 := by unfold dueS; split <;> simp
    simp only [List.foldl_cons, List.length_cons]
    omega
end Ev.Fr

/-! FrR: fractions as rationals. -/
namespace Ev.Fr
open PySem PySem.Spec PyProof.Rows L2 Rat
variable {P : Prg} {n : Nat}
def pr (q : Rat) : Int × Int := (q.num, (q.den : Int))
def rt (q : Rat) : D := .tup [.int q.num, .int (q.den : Int)]
theorem rt_fr (q : Rat) : rt q = fr (pr q) := rfl
theorem pr_inj {p q : Rat} (h : pr p = pr q) : p = q := by
  simp only [pr, Prod.mk.injEq] at h
  exact Rat.ext h.1 (by omega)
theorem den_pos (q : Rat) : (0 : Int) < (q.den : Int) := by have := q.den_nz; omega
theorem pr_nf (q : Rat) : Nf (pr q) := ⟨den_pos q, by simpa [pr] using q.reduced⟩
/-- a pair in lowest terms is a rational's -/
theorem nf_pr {a : Int × Int} (h : Nf a) : ∃ q : Rat, a = pr q ∧ q = (a.1 : Rat) / (a.2 : Rat) := by
  have hp := h.1
  refine ⟨⟨a.1, a.2.toNat, by omega, ?_⟩, ?_, ?_⟩
  · have : a.2.toNat = a.2.natAbs := by omega
    rw [this]
    exact h.2
  · exact Prod.ext rfl (by show a.2 = ((a.2.toNat : Nat) : Int); omega)
  · rw [← Rat.divInt_eq_div]
    have := (Rat.num_divInt_den ⟨a.1, a.2.toNat, by omega, by
      have : a.2.toNat = a.2.natAbs := by omega
      rw [this]
      exact h.2⟩).symm
    rw [this]
    show a.1 /. ((a.2.toNat : Nat) : Int) = _
    have e : ((a.2.toNat : Nat) : Int) = a.2 := by omega
    rw [e]
theorem divInt_cross {t b : Int} (h : b ≠ 0) : ((t : Rat) / b).num * b = t * (((t : Rat) / b).den : Int) := by
  rw [← Rat.divInt_eq_div]
  obtain ⟨m, hm, e1, e2⟩ := Rat.divInt_num_den (d := b) (n := t) (n' := (t /. b).num) (d' := (t /. b).den) (z' := (t /. b).den_nz) (c := (t /. b).reduced) h rfl
  have e3 : (t /. b).num * b = (t /. b).num * (((t /. b).den : Int) * m) := congrArg _ e2
  have e4 : t * ((t /. b).den : Int) = (t /. b).num * m * ((t /. b).den : Int) := congrArg (· * ((t /. b).den : Int)) e1
  rw [e3, e4, Int.mul_assoc, Int.mul_comm m]
theorem nf_cross {t b : Int} (h : b ≠ 0) : (nf t b).1 * b = t * (nf t b).2 := by
  have d1 : ((Nat.gcd t.natAbs b.natAbs : Nat) : Int) ∣ t := Int.ofNat_dvd_left.mpr (Nat.gcd_dvd_left ..)
  have d2 : ((Nat.gcd t.natAbs b.natAbs : Nat) : Int) ∣ b := Int.ofNat_dvd_left.mpr (Nat.gcd_dvd_right ..)
  have hg := gcd_pos (t := t) h
  generalize hG : ((Nat.gcd t.natAbs b.natAbs : Nat) : Int) = g at *
  obtain ⟨e, he⟩ := d1
  obtain ⟨f, hf⟩ := d2
  have c1 : t / g = e := by rw [he, Int.mul_ediv_cancel_left _ (by omega)]
  have c2 : b / g = f := by rw [hf, Int.mul_ediv_cancel_left _ (by omega)]
  have c3 : -t / g = -e := by rw [he, ← Int.mul_neg, Int.mul_ediv_cancel_left _ (by omega)]
  have c4 : -b / g = -f := by rw [hf, ← Int.mul_neg, Int.mul_ediv_cancel_left _ (by omega)]
  unfold nf
  rw [hG]
  split
  · show -t / g * b = t * (-b / g)
    rw [c3, c4]
    grind
  · show t / g * b = t * (b / g)
    rw [c1, c2]
    grind
theorem nf_rat {t b : Int} (h : b ≠ 0) : nf t b = pr ((t : Rat) / b) := by
  refine Nf.eq (Nf.nf h) (pr_nf _) ?_
  have h1 := nf_cross (t := t) h
  have h2 := divInt_cross (t := t) h
  show (nf t b).1 * (((t : Rat) / b).den : Int) = ((t : Rat) / b).num * (nf t b).2
  refine Int.eq_of_mul_eq_mul_right h ?_
  generalize (nf t b).1 = x1 at *
  generalize (nf t b).2 = x2 at *
  generalize ((t : Rat) / b).num = y1 at *
  generalize (((t : Rat) / b).den : Int) = y2 at *
  grind
theorem num_div (q : Rat) : (q.num : Rat) / ((q.den : Nat) : Int) = q := by
  rw [← Rat.divInt_eq_div]
  exact Rat.num_divInt_den q
theorem den_ne (q : Rat) : (((q.den : Nat) : Int) : Rat) ≠ 0 := by
  have := q.den_nz
  exact fun h => by
    have h2 : ((q.den : Int)) = 0 := by exact_mod_cast h
    omega
theorem minus_pr (p q : Rat) : minus (pr p) (pr q) = pr (p - q) := by
  have h1 := num_div p
  have h2 := num_div q
  have h3 := den_ne p
  have h4 := den_ne q
  show nf (p.num * (q.den : Int) - q.num * (p.den : Int)) ((p.den : Int) * (q.den : Int)) = _
  rw [nf_rat (Int.ne_of_gt (Int.mul_pos (den_pos p) (den_pos q)))]
  refine congrArg pr ?_
  rw [Rat.intCast_sub, Rat.intCast_mul, Rat.intCast_mul, Rat.intCast_mul]
  generalize (p.num : Rat) = a at *
  generalize (((p.den : Nat) : Int) : Rat) = b at *
  generalize (q.num : Rat) = c at *
  generalize (((q.den : Nat) : Int) : Rat) = d at *
  subst h1 h2
  grind
theorem times_pr (p q : Rat) : times (pr p) (pr q) = pr (p * q) := by
  have h1 := num_div p
  have h2 := num_div q
  have h3 := den_ne p
  have h4 := den_ne q
  show nf (p.num * q.num) ((p.den : Int) * (q.den : Int)) = _
  rw [nf_rat (Int.ne_of_gt (Int.mul_pos (den_pos p) (den_pos q)))]
  refine congrArg pr ?_
  rw [Rat.intCast_mul, Rat.intCast_mul]
  generalize (p.num : Rat) = a at *
  generalize (((p.den : Nat) : Int) : Rat) = b at *
  generalize (q.num : Rat) = c at *
  generalize (((q.den : Nat) : Int) : Rat) = d at *
  subst h1 h2
  grind
theorem num_ne {q : Rat} (h : q ≠ 0) : q.num ≠ 0 := fun h2 => h (by
  have := num_div q
  rw [h2] at this
  rw [← this]
  simp [Rat.div_def])
theorem over_pr (p q : Rat) (h : q ≠ 0) : over (pr p) (pr q) = pr (p / q) := by
  have h1 := num_div p
  have h2 := num_div q
  have h3 := den_ne p
  have h4 := den_ne q
  have h5 := num_ne h
  show nf (p.num * (q.den : Int)) ((p.den : Int) * q.num) = _
  rw [nf_rat (Int.mul_ne_zero (Int.ne_of_gt (den_pos p)) h5)]
  refine congrArg pr ?_
  have h6 : (q.num : Rat) ≠ 0 := fun h7 => h5 (by exact_mod_cast h7)
  rw [Rat.intCast_mul, Rat.intCast_mul]
  generalize (p.num : Rat) = a at *
  generalize (((p.den : Nat) : Int) : Rat) = b at *
  generalize (q.num : Rat) = c at *
  generalize (((q.den : Nat) : Int) : Rat) = d at *
  subst h1 h2
  grind
theorem lt_pr (p q : Rat) : lt (pr p) (pr q) = decide (p < q) := by
  unfold lt
  rw [Bool.eq_iff_iff, decide_eq_true_eq, decide_eq_true_eq, Rat.lt_iff]
  rfl
theorem add_pr (p q : Rat) : add (pr p) (pr q) = pr (p + q) := by
  have h1 := num_div p
  have h2 := num_div q
  have h3 := den_ne p
  have h4 := den_ne q
  show nf (p.num * (q.den : Int) + q.num * (p.den : Int)) ((p.den : Int) * (q.den : Int)) = _
  rw [nf_rat (Int.ne_of_gt (Int.mul_pos (den_pos p) (den_pos q)))]
  refine congrArg pr ?_
  rw [Rat.intCast_add, Rat.intCast_mul, Rat.intCast_mul, Rat.intCast_mul]
  generalize (p.num : Rat) = a at *
  generalize (((p.den : Nat) : Int) : Rat) = b at *
  generalize (q.num : Rat) = c at *
  generalize (((q.den : Nat) : Int) : Rat) = d at *
  subst h1 h2
  grind
theorem eqD_rt (p q : Rat) : eqD (rt p) (rt q) = decide (p = q) := by
  have h : eqD (rt p) (rt q) = decide (pr p = pr q) := by
    simp [eqD, eqL, rt, pr]
    rw [Bool.eq_iff_iff]
    simp
  rw [h, Bool.eq_iff_iff, decide_eq_true_eq, decide_eq_true_eq]
  exact ⟨pr_inj, fun e => e ▸ rfl⟩
theorem okEq_rt (p q : Rat) : okEq (rt p) (rt q) = true := by simp [okEq, okD, okL, dep, depL, flat, rt]
theorem allF_rt : AllF rt := fun _ => rfl
@[simp] theorem frz_rt (q : Rat) : isFrz (rt q) = true := rfl
@[simp] theorem can_rt (q : Rat) : canFrz (rt q) = true := rfl
@[simp] theorem freeze_rt (q : Rat) : freeze (rt q) = rt q := rfl
@[simp] theorem frzL_rt (xs : List Rat) : frzL (xs.map rt) = true := frzL_map allF_rt xs
@[simp] theorem canL_rt (xs : List Rat) : canL (xs.map rt) = true := canL_of (frzL_rt xs)
@[simp] theorem freezeL_rt (xs : List Rat) : freezeL (xs.map rt) = xs.map rt := freezeL_of (frzL_rt xs)
theorem okL_rt : ∀ L : List Rat, okL (L.map rt) = true
  | [] => rfl
  | x :: r => by simp [okL, okD, rt, okL_rt r]
theorem depL_rt : ∀ L : List Rat, depL (L.map rt) ≤ 1
  | [] => by simp [depL]
  | x :: r => by have := depL_rt r; simp [depL, dep, rt]; omega
theorem rt_map (L : List Rat) : (L.map pr).map fr = L.map rt := by rw [List.map_map]; rfl
/-! ### sizes -/
/-- q * N is whole, at most M * N -/
def Z (N M : Nat) (q : Rat) : Prop := ∃ z : Int, q * (N : Rat) = (z : Rat) ∧ z.natAbs ≤ M * N
theorem Z.add {N M1 M2 : Nat} {p q : Rat} : Z N M1 p → Z N M2 q → Z N (M1 + M2) (p + q)
  | ⟨z, e, h⟩, ⟨y, f, g⟩ => ⟨z + y, by rw [Rat.intCast_add]; grind, by rw [Nat.add_mul]; omega⟩
theorem Z.sub {N M1 M2 : Nat} {p q : Rat} : Z N M1 p → Z N M2 q → Z N (M1 + M2) (p - q)
  | ⟨z, e, h⟩, ⟨y, f, g⟩ => ⟨z - y, by rw [Rat.intCast_sub]; grind, by rw [Nat.add_mul]; omega⟩
theorem Z.mul {N1 N2 M1 M2 : Nat} {p q : Rat} : Z N1 M1 p → Z N2 M2 q → Z (N1 * N2) (M1 * M2) (p * q)
  | ⟨z, e, h⟩, ⟨y, f, g⟩ => ⟨z * y, by rw [Rat.intCast_mul, Rat.natCast_mul]; grind, by
      rw [Int.natAbs_mul]
      have := Nat.mul_le_mul h g
      have e2 : M1 * N1 * (M2 * N2) = M1 * M2 * (N1 * N2) := by grind
      omega⟩
theorem Z.mono {N M M' : Nat} {q : Rat} (h : M ≤ M') : Z N M q → Z N M' q
  | ⟨z, e, g⟩ => ⟨z, e, Nat.le_trans g (Nat.mul_le_mul_right N h)⟩
theorem Z.more {N M : Nat} (k : Nat) {q : Rat} : Z N M q → Z (N * k) M q
  | ⟨z, e, g⟩ => ⟨z * k, by rw [Rat.intCast_mul, Rat.natCast_mul, Rat.intCast_natCast]; grind, by
      rw [Int.natAbs_mul, Int.natAbs_natCast, ← Nat.mul_assoc]
      exact Nat.mul_le_mul_right k g⟩
theorem Z.div {N M : Nat} {k : Nat} (hk : 0 < k) {q : Rat} : Z N M q → Z (N * k) M (q / (k : Rat))
  | ⟨z, e, g⟩ => ⟨z, by
      have : (k : Rat) ≠ 0 := fun h => by have h2 : k = 0 := by exact_mod_cast h
                                          omega
      rw [Rat.natCast_mul]; grind, by
      rw [← Nat.mul_assoc]
      exact Nat.le_trans g (Nat.le_mul_of_pos_right _ hk)⟩
theorem Z.int (i : Int) : Z 1 i.natAbs (i : Rat) := ⟨i, by simp, by simp⟩
theorem Z.nat (i : Nat) : Z 1 i (i : Rat) := ⟨i, by simp [Rat.intCast_natCast], by simp⟩
theorem Z.q {N M k : Nat} {q : Rat} (hN : 0 < N) (h1 : M * N < 2 ^ k) (h2 : N < 2 ^ k) : Z N M q → Q k (pr q)
  | ⟨z, e, g⟩ => by
    have hn : (N : Rat) ≠ 0 := fun h => by have h2 : N = 0 := by exact_mod_cast h
                                           omega
    have hq : q = (z : Rat) / ((N : Int) : Rat) := by rw [Rat.intCast_natCast]; grind
    have hN2 : (N : Int) ≠ 0 := by omega
    have hs := nf_small (t := z) hN2
    rw [nf_rat hN2, ← hq] at hs
    have hp := den_pos q
    exact ⟨by have := hs.1; omega, by have := hs.2; omega, hp⟩
end Ev.Fr

namespace Ev.Fr
open PySem PySem.Spec PyProof.Rows L2
def b_need_some : S := (.cons (.iff (.cmp .eq (.b1 .len (.v 0)) (.int 0)) (.cons (.raise "BadNumber") .nil) .nil) .nil)
def fd_need_some : Fd := ⟨1, 1, b_need_some⟩
def b_median : S := (.cons (.ex (.call "need_some" (.cons (.v 0) .nil))) (.cons (.asg (.v 1) (.call "ascending" (.cons (.v 0) .nil))) (.cons (.asg (.v 2) (.bin .fdiv (.b1 .len (.v 1)) (.int 2))) (.cons (.iff (.cmp .eq (.bin .mod (.b1 .len (.v 1)) (.int 2)) (.int 1)) (.cons (.ret (.fz (.ix (.v 1) (.v 2)))) .nil) .nil) (.cons (.ret (.call "over" (.cons (.call "add" (.cons (.ix (.v 1) (.bin .sub (.v 2) (.int 1))) (.cons (.ix (.v 1) (.v 2)) .nil))) (.cons (.call "fraction" (.cons (.int 2) (.cons (.int 1) .nil))) .nil)))) .nil)))))
def fd_median : Fd := ⟨1, 3, b_median⟩
def b_ascending : S := (.cons (.asg (.v 1) (.call "in_order" (.cons (.v 0) .nil))) (.cons (.ret (.comp (.v 2) (.rng3 (.bin .sub (.b1 .len (.v 1)) (.int 1)) (.neg (.int 1)) (.neg (.int 1))) (.bl true) (.fz (.ix (.v 0) (.ix (.v 1) (.v 2)))) [2])) .nil))
def fd_ascending : Fd := ⟨1, 3, b_ascending⟩
def b_quantile : S := (.cons (.ex (.call "need_some" (.cons (.v 0) .nil))) (.cons (.iff (.or (.call "less" (.cons (.v 1) (.cons (.g "ZERO") .nil))) (.call "less" (.cons (.call "fraction" (.cons (.int 1) (.cons (.int 1) .nil))) (.cons (.v 1) .nil)))) (.cons (.raise "BadNumber") .nil) .nil) (.cons (.forr (.tup (.cons (.v 2) (.cons (.v 3) .nil))) (.enm (.call "ascending" (.cons (.v 0) .nil))) (.cons (.iff (.not (.call "less" (.cons (.call "fraction" (.cons (.bin .add (.v 2) (.int 1)) (.cons (.b1 .len (.v 0)) .nil))) (.cons (.v 1) .nil)))) (.cons (.ret (.mv 3)) .nil) .nil) .nil)) (.cons (.ret (.ix (.call "ascending" (.cons (.v 0) .nil)) (.neg (.int 1)))) .nil))))
def fd_quantile : Fd := ⟨2, 4, b_quantile⟩
def b__law_row : S := (.cons (.ret (.comp (.v 3) (.rng1 (.v 1)) (.bl true) (.call "_law_fraction" (.cons (.v 0) (.cons (.v 2) .nil))) [3])) .nil)
def fd__law_row : Fd := ⟨3, 4, b__law_row⟩
def b_mean : S := (.cons (.ex (.call "need_some" (.cons (.v 0) .nil))) (.cons (.ret (.call "over" (.cons (.call "total_of" (.cons (.v 0) .nil)) (.cons (.call "whole" (.cons (.b1 .len (.v 0)) .nil)) .nil)))) .nil))
def fd_mean : Fd := ⟨1, 1, b_mean⟩
def b_products : S := (.cons (.iff (.cmp .ne (.b1 .len (.v 0)) (.b1 .len (.v 1))) (.cons (.raise "BadNumber") .nil) .nil) (.cons (.par2 2 3 (.call "mean" (.cons (.v 0) .nil)) (.call "mean" (.cons (.v 1) .nil))) (.cons (.asg (.v 4) (.g "ZERO")) (.cons (.forr (.tup (.cons (.v 5) (.cons (.v 6) .nil))) (.zip (.v 0) (.v 1)) (.cons (.asg (.v 4) (.call "add" (.cons (.v 4) (.cons (.call "times" (.cons (.call "minus" (.cons (.v 5) (.cons (.v 2) .nil))) (.cons (.call "minus" (.cons (.v 6) (.cons (.v 3) .nil))) .nil))) .nil)))) .nil)) (.cons (.ret (.mv 4)) .nil)))))
def fd_products : Fd := ⟨2, 7, b_products⟩
def b_correlation : S := (.cons (.asg (.v 2) (.call "products" (.cons (.v 0) (.cons (.v 1) .nil)))) (.cons (.asg (.v 3) (.call "over" (.cons (.call "times" (.cons (.v 2) (.cons (.v 2) .nil))) (.cons (.call "times" (.cons (.call "products" (.cons (.v 0) (.cons (.v 0) .nil))) (.cons (.call "products" (.cons (.v 1) (.cons (.v 1) .nil))) .nil))) .nil)))) (.cons (.ret (.tup (.cons (.bin .sub (.cmp .gt (.ix (.v 2) (.int 0)) (.int 0)) (.cmp .lt (.ix (.v 2) (.int 0)) (.int 0))) (.cons (.mv 3) .nil)))) .nil)))
def fd_correlation : Fd := ⟨2, 4, b_correlation⟩
def b_check_table : S := (.cons (.iff (.or (.cmp .eq (.b1 .len (.v 0)) (.int 0)) (.cmp .eq (.b1 .len (.ix (.v 0) (.int 0))) (.int 0))) (.cons (.raise "BadNumber") .nil) .nil) (.cons (.iff (.not (.b1 .all (.comp (.v 1) (.seq (.fz (.v 0))) (.bl true) (.cmp .eq (.b1 .len (.v 1)) (.b1 .len (.ix (.v 0) (.int 0)))) [1]))) (.cons (.raise "BadNumber") .nil) .nil) .nil))
def fd_check_table : Fd := ⟨1, 2, b_check_table⟩
def b_column : S := (.cons (.ret (.comp (.v 2) (.seq (.v 0)) (.bl true) (.fz (.ix (.v 2) (.v 1))) [2])) .nil)
def fd_column : Fd := ⟨2, 3, b_column⟩
def b_totals : S := (.cons (.ret (.comp (.v 1) (.seq (.v 0)) (.bl true) (.call "total_of" (.cons (.v 1) .nil)) [1])) .nil)
def fd_totals : Fd := ⟨1, 2, b_totals⟩
def b_facility : S := (.cons (.ex (.call "check_table" (.cons (.v 0) .nil))) (.cons (.ret (.call "over" (.cons (.call "mean" (.cons (.call "column" (.cons (.v 0) (.cons (.v 1) .nil))) .nil)) (.cons (.v 2) .nil)))) .nil))
def fd_facility : Fd := ⟨3, 3, b_facility⟩
def b_rest : S := (.cons (.ret (.comp (.v 2) (.seq (.v 0)) (.bl true) (.call "minus" (.cons (.call "total_of" (.cons (.v 2) .nil)) (.cons (.ix (.v 2) (.v 1)) .nil))) [2])) .nil)
def fd_rest : Fd := ⟨2, 3, b_rest⟩
def b_discrimination : S := (.cons (.ex (.call "check_table" (.cons (.v 0) .nil))) (.cons (.ret (.call "correlation" (.cons (.call "column" (.cons (.v 0) (.cons (.v 1) .nil))) (.cons (.call "rest" (.cons (.v 0) (.cons (.v 1) .nil))) .nil)))) .nil))
def fd_discrimination : Fd := ⟨2, 2, b_discrimination⟩
def b_halves : S := (.cons (.ex (.call "check_table" (.cons (.v 0) .nil))) (.cons (.par2 1 2 (.lst .nil) (.lst .nil)) (.cons (.forr (.v 3) (.seq (.v 0)) (.cons (.ex (.mm .append (.v 1) (.cons (.call "total_of" (.cons (.comp (.v 4) (.rng3 (.int 0) (.b1 .len (.v 3)) (.int 2)) (.bl true) (.fz (.ix (.v 3) (.v 4))) [4]) .nil)) .nil))) (.cons (.ex (.mm .append (.v 2) (.cons (.call "total_of" (.cons (.comp (.v 4) (.rng3 (.int 1) (.b1 .len (.v 3)) (.int 2)) (.bl true) (.fz (.ix (.v 3) (.v 4))) [4]) .nil)) .nil))) .nil))) (.cons (.ret (.tup (.cons (.mv 1) (.cons (.mv 2) .nil)))) .nil))))
def fd_halves : Fd := ⟨1, 5, b_halves⟩
def b_group_gap : S := (.cons (.ex (.call "check_table" (.cons (.v 0) .nil))) (.cons (.asg (.v 3) (.call "in_order" (.cons (.call "totals" (.cons (.v 0) .nil)) .nil))) (.cons (.asg (.v 4) (.b2 .max (.int 1) (.bin .fdiv (.bin .mul (.ix (.v 2) (.int 0)) (.b1 .len (.v 3))) (.ix (.v 2) (.int 1))))) (.cons (.asg (.v 5) (.call "column" (.cons (.v 0) (.cons (.v 1) .nil)))) (.cons (.asg (.v 6) (.call "mean" (.cons (.comp (.v 7) (.seq (.sl (.v 3) .nop (.v 4))) (.bl true) (.fz (.ix (.v 5) (.v 7))) [7]) .nil))) (.cons (.ret (.call "minus" (.cons (.v 6) (.cons (.call "mean" (.cons (.comp (.v 7) (.seq (.sl (.v 3) (.bin .sub (.b1 .len (.v 3)) (.v 4)) .nop)) (.bl true) (.fz (.ix (.v 5) (.v 7))) [7]) .nil)) .nil)))) .nil))))))
def fd_group_gap : Fd := ⟨3, 8, b_group_gap⟩
def b__law_mean : S := (.cons (.ret (.call "_law_div" (.cons (.call "_law_sum" (.cons (.v 0) .nil)) (.cons (.tup (.cons (.b1 .len (.v 0)) (.cons (.int 1) .nil))) .nil)))) .nil)
def fd__law_mean : Fd := ⟨1, 1, b__law_mean⟩
def b__law_told : S := (.cons (.tryy (.cons (.ret (.call "discrimination" (.cons (.v 0) (.cons (.v 1) .nil)))) .nil) "BadNumber" .non) .nil)
def fd__law_told : Fd := ⟨2, 2, b__law_told⟩
def b__law_near : S := (.cons (.tryy (.cons (.ret (.call "correlation" (.cons (.v 0) (.cons (.v 1) .nil)))) .nil) "BadNumber" .non) .nil)
def fd__law_near : Fd := ⟨2, 2, b__law_near⟩
end Ev.Fr

/-! FrS: the fractions' functions on rationals. -/
namespace Ev.Fr
open PySem PySem.Spec PyProof.Rows L2 Rat
variable {P : Prg} {n : Nat}
theorem cmp_rt_eq (p q : Rat) : cmpD .eq (rt p) (rt q) = some (decide (p = q)) := by
  show eqO (rt p) (rt q) = _
  unfold eqO
  rw [okEq_rt, if_pos rfl, eqD_rt]
theorem cmp_rt_ne (p q : Rat) : cmpD .ne (rt p) (rt q) = some (decide (p ≠ q)) := by
  show (eqO (rt p) (rt q)).map not = _
  unfold eqO
  rw [okEq_rt, if_pos rfl, eqD_rt]
  simp
theorem eqO_rt (p q : Rat) : eqO (rt p) (rt q) = some (decide (p = q)) := cmp_rt_eq p q
theorem pr_int (i : Int) : pr (i : Rat) = (i, 1) := by simp [pr]
theorem rt_int (i : Int) : rt (i : Rat) = fr (i, 1) := by rw [rt_fr, pr_int]
/-- a pair of ints as it stands -/
theorem fr_rt {a b : Int} {q : Rat} (h : pr q = (a, b)) : (.tup [.int a, .int b] : D) = rt q := by rw [rt_fr, h]
section
variable [HasG P "math.gcd" .non]
theorem t_fraction {t b : Int} (h : b ≠ 0) (hb : b.natAbs < 2 ^ 8000) : run P n fd_fraction [.int t, .int b] = .ok (rt ((t : Rat) / b)) [.int t, .int b] := by
  have := s_fraction (P := P) (n := n) t b h hb
  rw [nf_rat h] at this
  exact this
variable [Has P "fraction" fd_fraction] {p q : Rat} {k l : Nat} (hk : k ≤ 3000) (hl : l ≤ 3000) (hp : Q k (pr p)) (hq : Q l (pr q))
include hk hl hp hq
end
section
variable [HasG P "math.gcd" .non] [Has P "fraction" fd_fraction]
theorem t_whole {i : Int} : run P n fd_whole [.int i] = .ok (rt (i : Rat)) [.int i] := by rw [rt_int]; exact s_whole
variable {p q : Rat} {k l : Nat} (hk : k ≤ 3000) (hl : l ≤ 3000) (hp : Q k (pr p)) (hq : Q l (pr q))
include hk hl hp hq
theorem t_add : run P (n + 1) fd_add [rt p, rt q] = .ok (rt (p + q)) [rt p, rt q] := by
  have := s_add (P := P) (n := n) hk hl hp hq
  rw [add_pr] at this
  exact this
theorem t_minus : run P (n + 1) fd_minus [rt p, rt q] = .ok (rt (p - q)) [rt p, rt q] := by
  have := s_minus (P := P) (n := n) hk hl hp hq
  rw [minus_pr] at this
  exact this
theorem t_times : run P (n + 1) fd_times [rt p, rt q] = .ok (rt (p * q)) [rt p, rt q] := by
  have := s_times (P := P) (n := n) hk hl hp hq
  rw [times_pr] at this
  exact this
theorem t_over (h0 : q ≠ 0) : run P (n + 1) fd_over [rt p, rt q] = .ok (rt (p / q)) [rt p, rt q] := by
  have := s_over (P := P) (n := n) hk hl hp hq (num_ne h0)
  rw [over_pr _ _ h0] at this
  exact this
theorem t_over0 [HasG P (excKey "BadNumber") (.bl true)] (h0 : q = 0) : run P (n + 1) fd_over [rt p, rt q] = .exc ⟨"BadNumber", []⟩ [rt p, rt q] := by
  have h : (pr q).1 = 0 := by rw [h0]; simp [pr]
  have := s_over0 (P := P) (n := n) (a := pr p) (b := pr q) hk hl hp hq h
  exact this
omit [HasG P "math.gcd" .non] [Has P "fraction" fd_fraction]
theorem t_less : run P n fd_less [rt p, rt q] = .ok (.bl (decide (p < q))) [rt p, rt q] := by
  have := s_less (P := P) (n := n) hk hl hp hq
  rw [lt_pr] at this
  exact this
theorem t_at_most [Has P "less" fd_less] : run P (n + 1) fd_at_most [rt p, rt q] = .ok (.bl (decide (p ≤ q))) [rt p, rt q] := by
  have := s_at_most (P := P) (n := n) hk hl hp hq
  rw [lt_pr] at this
  have e : (!decide (q < p)) = decide (p ≤ q) := by rw [Bool.eq_iff_iff]; simp [Rat.not_lt]
  rw [e] at this
  exact this
end
section
variable [Has P "_law_mod" fd__law_mod] [Has P "_law_gcd" fd__law_gcd]
theorem t_lfrac {t b : Int} (h : b ≠ 0) (ht : t.natAbs < 2 ^ 3000) (hb : b.natAbs < 2 ^ 100) : run P (n + 2) fd__law_frac [.int t, .int b] = .ok (rt ((t : Rat) / b)) [.int t, .int b] := by
  have := s_lfrac (P := P) (n := n) h ht hb
  rw [nf_rat h] at this
  exact this
variable [Has P "_law_frac" fd__law_frac] {p q : Rat} {k l : Nat} (hk : k ≤ 50) (hl : l ≤ 50) (hp : Q k (pr p)) (hq : Q l (pr q))
include hk hl hp hq
theorem t_ladd : run P (n + 3) fd__law_add [rt p, rt q] = .ok (rt (p + q)) [rt p, rt q] := by
  have := s_ladd (P := P) (n := n) hk hl hp hq
  rw [add_pr] at this
  exact this
theorem t_lsub : run P (n + 3) fd__law_sub [rt p, rt q] = .ok (rt (p - q)) [rt p, rt q] := by
  have := s_lsub (P := P) (n := n) hk hl hp hq
  rw [minus_pr] at this
  exact this
theorem t_lmul : run P (n + 3) fd__law_mul [rt p, rt q] = .ok (rt (p * q)) [rt p, rt q] := by
  have := s_lmul (P := P) (n := n) hk hl hp hq
  rw [times_pr] at this
  exact this
theorem t_ldiv (h0 : q ≠ 0) : run P (n + 3) fd__law_div [rt p, rt q] = .ok (rt (p / q)) [rt p, rt q] := by
  have := s_ldiv (P := P) (n := n) hk hl hp hq (num_ne h0)
  rw [over_pr _ _ h0] at this
  exact this
omit [Has P "_law_mod" fd__law_mod] [Has P "_law_gcd" fd__law_gcd] [Has P "_law_frac" fd__law_frac]
theorem t_llt : run P n fd__law_lt [rt p, rt q] = .ok (.bl (decide (p < q))) [rt p, rt q] := by
  have := s_llt (P := P) (n := n) hk hl hp hq
  rw [lt_pr] at this
  exact this
end
/-! ### drawn rows -/
structure DR (m : Nat) (q : Rat) : Prop where
  z : Z 12 (4 * m) q
  p : 0 ≤ q
theorem DR.q {m : Nat} {q : Rat} (h : DR m q) (hm : m ≤ 1000) : Q 17 (pr q) := h.z.q (by decide) (by omega) (by decide)
theorem dr_of {m : Nat} {a : Int × Int} (d : Dr m a) (h0 : 0 ≤ a.1) : ∃ q, a = pr q ∧ DR m q := by
  obtain ⟨q, e, e2⟩ := nf_pr d.n
  have h1 := d.n.1
  have h2 := d.b
  have h3 := d.t
  refine ⟨q, e, ?_, ?_⟩
  · have hd : a.2 ∣ 12 := by
      have : a.2 = 1 ∨ a.2 = 2 ∨ a.2 = 3 ∨ a.2 = 4 := by omega
      rcases this with h | h | h | h <;> rw [h] <;> decide
    obtain ⟨c, hc⟩ := hd
    refine ⟨a.1 * c, ?_, ?_⟩
    · rw [e2, Rat.intCast_mul]
      have h4 : (a.2 : Rat) * (c : Rat) = 12 := by rw [← Rat.intCast_mul, ← hc]; simp
      have h5 : (a.2 : Rat) ≠ 0 := fun h => by have h6 : a.2 = 0 := by exact_mod_cast h
                                               omega
      have h7 : ((12 : Nat) : Rat) = 12 := by simp
      rw [h7]
      grind
    · have hc12 : c.natAbs ≤ 12 := by
        have : a.2.natAbs * c.natAbs = 12 := by rw [← Int.natAbs_mul, ← hc]; rfl
        have h8 : 1 ≤ a.2.natAbs := by omega
        have := Nat.mul_le_mul_right c.natAbs h8
        omega
      rw [Int.natAbs_mul]
      have h9 : a.1.natAbs ≤ 4 * m := by omega
      exact Nat.mul_le_mul h9 hc12
  · have : (0 : Rat) ≤ q := by
      rw [Rat.le_iff]
      have h10 : q.num = a.1 := by rw [e]; rfl
      rw [h10]
      simpa using h0
    exact this
section
variable [Has P "_law_mod" fd__law_mod] [Has P "_law_gcd" fd__law_gcd] [Has P "_law_frac" fd__law_frac] [Has P "_law_draw" fd__law_draw]
theorem t_lfraction {t : D} {m : Nat} (ht : Tape t) (h1 : m ≤ 1000) :
    ∃ t' q, Tape t' ∧ DR m q ∧ run P (n + 3) fd__law_fraction [t, .int (m : Int)] = .ok (rt q) [t', .int (m : Int)] := by
  obtain ⟨t', a, ht', d, p, e⟩ := s_lfraction (P := P) (n := n) (m := (m : Int)) ht (by omega) (by omega)
  obtain ⟨q, rfl, h⟩ := dr_of d p
  exact ⟨t', q, ht', h, e⟩
variable [Has P "_law_fraction" fd__law_fraction]
theorem row_comp {x1 x2 : Option D} {m : Nat} (hm : m ≤ 1000) (hx : x2 = some (.int (m : Int))) : ∀ (ds : List D) (t : D) (x3 : Option D), Tape t →
    ∃ (L : List Rat) (t' : D) (x3' : Option D), Tape t' ∧ (∀ x ∈ L, DR m x) ∧ L.length = ds.length ∧
      compL (cB (.v 3)) (cT (callN P (n + 4)) P.G (.bl true)) (cE (callN P (n + 4)) P.G (.call "_law_fraction" (.cons (.v 0) (.cons (.v 2) .nil)))) (cW [3]) ds [some t, x1, x2, x3]
      = .ok (L.map rt) [some t', x1, x2, x3']
  | [], t, x3, ht => ⟨[], t, x3, ht, by simp, rfl, rfl⟩
  | d :: r, t, x3, ht => by
    obtain ⟨t1, a, ht1, da, e1⟩ := t_lfraction (P := P) (n := n) (m := m) ht hm
    obtain ⟨L, t', x3', ht', hL, hn, e2⟩ := row_comp (x1 := x1) hm hx r t1 (some d) ht1
    refine ⟨a :: L, t', x3', ht', ?_, by simp [hn], ?_⟩
    · intro x hx
      rcases List.mem_cons.mp hx with rfl | h
      · exact da
      · exact hL x h
    · subst hx
      rw [compL]
      simp [bind_ok, bind_exc, fl_ok, fl_exc, use_none, use_some, use_exc, tmp_ok, tru_ok, tru_exc, liftO_some, slot_0, slot_s, ev_v, ev_fz, ev_mv, ev_g, ev_int, ev_str, ev_bl, ev_non, ev_nop, ev_ix, ev_fld, ev_sl, ev_bin, ev_neg, ev_not, ev_cmp, ev_chain, ev_and, ev_or, ev_itE, ev_tup, ev_lst, ev_call, ev_b1, ev_b2, ev_isi, ev_mm, ev_comp, evs_nIl, evs_cons, eva_nil, eva_cons, evw_rng1, evw_rng2, evw_enm, evw_zip, evw_seq, then_nx, then_ret, then_brk, then_ct, then_exc, env_nx, env_ret, evS_nil, evS_cons, blk_def, evS_asg, evS_par2, evS_par3, evS_aug, evS_puT, evS_ex, evS_ret, evS_retN, evS_iff, evS_whl, evS_foR, evS_brk, evS_cont, evS_pass, evS_raise, evS_try, endC_nx, endC_ret, endC_exc, raise_t, hnd_exc, hnd_nx, hnd_ret, sub_has, isi_bool_non, isi_bool_bl, isi_bool_int, isi_bool_str, isi_bool_tup, isi_bool_lst, isi_int_non, isi_int_bl, isi_int_int, isi_int_str, isi_int_tup, isi_int_lst, isi_str_non, isi_str_bl, isi_str_int, isi_str_str, isi_str_tup, isi_str_lst, isi_tuple_non, isi_tuple_bl, isi_tuple_int, isi_tuple_str, isi_tuple_tup, isi_tuple_lst, isi_list_non, isi_list_bl, isi_list_int, isi_list_str, isi_list_tup, isi_list_lst, evw_rng3, eqO_ii, eqO_bb, eqO_ss, eqO_nn, flat_int, flat_str, flat_bl, flat_non, k_v, k_fz, k_mv, k_g, stpO, k_ix3, k_ix2, k_ix, k_fld2, k_fld, k_sl3, k_sl2, k_sl, k_bin2, k_bin, k_neg, bO, k_not, k_cmp2, k_cmp, k_ch4, k_ch3, k_ch2, k_ch, k_and2, k_and, k_or2, k_or, k_ite2, k_ite, k_tup, k_lst, k_ret, k_call2, k_call3, k_call, k_b1, k_b22, k_b2, k_isi, k_mm3, k_mm2, k_mm, cB, cT, cE, cW, k_comp2, k_comp, k_evs2, k_evs, k_eva2, k_eva, k_rng22, k_rng2, k_rng32, k_rng3, k_enm2, k_enm, k_zip4, k_zip3, k_zip2, k_zip, k_seqw, s_asg, s_par22, s_par2, s_aug3, s_aug2, s_aug, s_put3, s_put2, s_put, s_ex, s_ret, s_iff, s_opt, s_unl, s_hO, s_par3, s_for, ixN, liftF, bindT, bindT.bindTs, calmP, qt, isFrz, frzL, canFrz, canL, freeze, freezeL, avDs, avD, avOk, avRoots, Av.isVar, giveA, setE, getE, getS, setS, binD, slD, cmpD, b1D, b2D, trD, ixD, start, behind, parOk, asgS, asgT, callN_has, G_has, f2Ok, items, walkD, walkP, unlend, sizeLine_eq, evh, evhs, putF, itmF, mmD, isLst, partD, par3F, noExc, ownOk, wipeE, backE, Pl.root, e1, ht.nf, ht1.nf, e2]
theorem t_lrow {t : D} {k m : Nat} (ht : Tape t) (hm : m ≤ 1000) (hk : k ≤ 1000) :
    ∃ (t' : D) (L : List Rat), Tape t' ∧ (∀ x ∈ L, DR m x) ∧ L.length = k ∧ run P (n + 4) fd__law_row [t, .int (k : Int), .int (m : Int)] = .ok (.lst .own (L.map rt)) [t', .int (k : Int), .int (m : Int)] := by
  obtain ⟨L, t', x3', ht', hL, hn, e⟩ := row_comp (P := P) (n := n) (x1 := some (.int (k : Int))) hm rfl (rangeI 0 1 k) t none ht
  have hl : (rangeI 0 1 k).length = k := by simp [rangeI]
  refine ⟨t', L, ht', hL, by omega, ?_⟩
  have r1 : ∀ ρ, k_rng1 (.int (k : Int)) ρ = .ok ⟨rangeI 0 1 k, []⟩ ρ := fun ρ => by rw [rng1_ok (by omega) (by omega), Int.toNat_natCast]
  have hz : L.length ≤ 16777216 := by omega
  rw [run_def rfl]
  simp [fd__law_row, b__law_row, bind_ok, bind_exc, fl_ok, fl_exc, use_none, use_some, use_exc, tmp_ok, tru_ok, tru_exc, liftO_some, slot_0, slot_s, ev_v, ev_fz, ev_mv, ev_g, ev_int, ev_str, ev_bl, ev_non, ev_nop, ev_ix, ev_fld, ev_sl, ev_bin, ev_neg, ev_not, ev_cmp, ev_chain, ev_and, ev_or, ev_itE, ev_tup, ev_lst, ev_call, ev_b1, ev_b2, ev_isi, ev_mm, ev_comp, evs_nIl, evs_cons, eva_nil, eva_cons, evw_rng1, evw_rng2, evw_enm, evw_zip, evw_seq, then_nx, then_ret, then_brk, then_ct, then_exc, env_nx, env_ret, evS_nil, evS_cons, blk_def, evS_asg, evS_par2, evS_par3, evS_aug, evS_puT, evS_ex, evS_ret, evS_retN, evS_iff, evS_whl, evS_foR, evS_brk, evS_cont, evS_pass, evS_raise, evS_try, endC_nx, endC_ret, endC_exc, raise_t, hnd_exc, hnd_nx, hnd_ret, sub_has, isi_bool_non, isi_bool_bl, isi_bool_int, isi_bool_str, isi_bool_tup, isi_bool_lst, isi_int_non, isi_int_bl, isi_int_int, isi_int_str, isi_int_tup, isi_int_lst, isi_str_non, isi_str_bl, isi_str_int, isi_str_str, isi_str_tup, isi_str_lst, isi_tuple_non, isi_tuple_bl, isi_tuple_int, isi_tuple_str, isi_tuple_tup, isi_tuple_lst, isi_list_non, isi_list_bl, isi_list_int, isi_list_str, isi_list_tup, isi_list_lst, evw_rng3, eqO_ii, eqO_bb, eqO_ss, eqO_nn, flat_int, flat_str, flat_bl, flat_non, k_v, k_fz, k_mv, k_g, stpO, k_ix3, k_ix2, k_ix, k_fld2, k_fld, k_sl3, k_sl2, k_sl, k_bin2, k_bin, k_neg, bO, k_not, k_cmp2, k_cmp, k_ch4, k_ch3, k_ch2, k_ch, k_and2, k_and, k_or2, k_or, k_ite2, k_ite, k_tup, k_lst, k_ret, k_call2, k_call3, k_call, k_b1, k_b22, k_b2, k_isi, k_mm3, k_mm2, k_mm, cB, cT, cE, cW, k_comp2, k_comp, k_evs2, k_evs, k_eva2, k_eva, k_rng22, k_rng2, k_rng32, k_rng3, k_enm2, k_enm, k_zip4, k_zip3, k_zip2, k_zip, k_seqw, s_asg, s_par22, s_par2, s_aug3, s_aug2, s_aug, s_put3, s_put2, s_put, s_ex, s_ret, s_iff, s_opt, s_unl, s_hO, s_par3, s_for, ixN, liftF, bindT, bindT.bindTs, calmP, qt, isFrz, frzL, canFrz, canL, freeze, freezeL, avDs, avD, avOk, avRoots, Av.isVar, giveA, setE, getE, getS, setS, binD, slD, cmpD, b1D, b2D, trD, ixD, start, behind, parOk, asgS, asgT, callN_has, G_has, f2Ok, items, walkD, walkP, unlend, sizeLine_eq, evh, evhs, putF, itmF, mmD, isLst, partD, par3F, noExc, ownOk, wipeE, backE, Pl.root, r1, e, ht.nf, ht'.nf, hz]
end
/-! ### ascending rows -/
def upkR (a : Rat) (f : List Rat) : Nat := (f.filter fun b => !decide (a < b)).length
def upsR (f : List Rat) (a : Rat) : List Rat := f.take (upkR a f) ++ a :: f.drop (upkR a f)
def upR (L : List Rat) : List Rat := L.foldl upsR []
theorem upK_pr (a : Rat) (f : List Rat) : upK (pr a) (f.map pr) = upkR a f := by
  unfold upK upkR
  rw [List.filter_map, List.length_map]
  congr 1
  congr 1
  funext b
  simp [Function.comp, lt_pr]
theorem upS_pr (a : Rat) (f : List Rat) : upS (f.map pr) (pr a) = (upsR f a).map pr := by
  unfold upS upsR
  rw [upK_pr, List.map_append, List.map_cons, List.map_take, List.map_drop]
theorem up_pr (L : List Rat) : up (L.map pr) = (upR L).map pr := by
  have main : ∀ (L f : List Rat), (L.map pr).foldl upS (f.map pr) = (L.foldl upsR f).map pr := by
    intro L
    induction L with
    | nil => intro f; rfl
    | cons a r ih => intro f; rw [List.map_cons, List.foldl_cons, upS_pr, ih, List.foldl_cons]
  exact main L []
theorem pr_pos {L : List Rat} : ∀ x ∈ L.map pr, 0 < x.2 := fun x hx => by
  obtain ⟨q, _, rfl⟩ := List.mem_map.mp hx
  exact den_pos q
theorem leq_pr {p q : Rat} : leq (pr p) (pr q) ↔ p ≤ q := by rw [Rat.le_iff]; rfl
theorem upR_all (L : List Rat) : (upR L).Pairwise (· ≤ ·) ∧ (∀ x, x ∈ upR L ↔ x ∈ L) ∧ (upR L).length = L.length := by
  obtain ⟨h1, h2, h3⟩ := up_all (L.map pr) pr_pos
  rw [up_pr] at h1 h2 h3
  refine ⟨?_, fun x => ?_, by simpa using h3⟩
  · rw [List.pairwise_map] at h1
    exact h1.imp fun h => leq_pr.mp h
  · have := h2 (pr x)
    simp only [List.mem_map] at this
    constructor
    · intro hx
      obtain ⟨y, hy, e⟩ := this.mp ⟨x, hx, rfl⟩
      exact pr_inj e ▸ hy
    · intro hx
      obtain ⟨y, hy, e⟩ := this.mpr ⟨x, hx, rfl⟩
      exact pr_inj e ▸ hy
theorem upS_perm (f : List Rat) (a : Rat) : (upsR f a).Perm (a :: f) := by
  unfold upsR
  have h : (f.take (upkR a f) ++ a :: f.drop (upkR a f)).Perm (a :: (f.take (upkR a f) ++ f.drop (upkR a f))) := List.perm_middle
  rw [List.take_append_drop] at h
  exact h
theorem upR_perm (L : List Rat) : (upR L).Perm L := by
  have main : ∀ (L f : List Rat), (L.foldl upsR f).Perm (L ++ f) := by
    intro L
    induction L with
    | nil => intro f; exact .refl _
    | cons a r ih =>
      intro f
      rw [List.foldl_cons]
      refine (ih _).trans ?_
      refine (List.Perm.append_left r (upS_perm f a)).trans ?_
      exact List.perm_middle
  have h := main L []
  rw [List.append_nil] at h
  exact h
theorem row_q {L : List Rat} {k : Nat} (h : ∀ x ∈ L, Q k (pr x)) : ∀ x ∈ L.map pr, Q k x := fun x hx => by
  obtain ⟨q, hq, rfl⟩ := List.mem_map.mp hx
  exact h q hq
end Ev.Fr

/-! FrT: rows of rationals: order, ascending, middles. -/
namespace Ev.Fr
open PySem PySem.Spec PyProof.Rows L2 Rat
variable {P : Prg} {n : Nat}
section
variable {L : List Rat} {o : Ow} (ho : Ow.ok o) (hL : ∀ x ∈ L, Q 45 (pr x)) (hn : L.length ≤ 900)
include ho hL hn
theorem t_lup [Has P "_law_lt" fd__law_lt] : run P (n + 1) fd__law_up [.lst o (L.map rt)] = .ok (.lst .own ((upR L).map rt)) [.lst o (L.map rt)] := by
  have h := s_lup (P := P) (n := n) (L := L.map pr) ho (row_q hL) (by simpa using hn)
  rw [up_pr, rt_map, rt_map] at h
  exact h
theorem t_inorder [Has P "less" fd_less] : run P (n + 1) fd_in_order [.lst o (L.map rt)] = .ok (.lst .own ((inOrd (L.map pr)).map nat)) [.lst .frz (L.map rt)] := by
  have h := s_inorder (P := P) (n := n) (L := L.map pr) (row_q hL) ho (by simpa using hn)
  rw [rt_map] at h
  exact h
end
/-- the places in order, backwards, are those of the ascending row -/
theorem ord_rev (L : List Rat) : (inOrd (L.map pr)).length = L.length ∧ (∀ i ∈ inOrd (L.map pr), i < L.length) ∧ (inOrd (L.map pr)).reverse.map (fun i => L.getD i 0) = upR L := by
  have hN : ∀ x ∈ L.map pr, Nf x := fun x hx => by
    obtain ⟨q, _, rfl⟩ := List.mem_map.mp hx
    exact pr_nf q
  obtain ⟨o1, o2⟩ := ord_gen hN (L.map pr) [] [] rfl (by simp) List.Pairwise.nil
  have o3 : (inOrd (L.map pr)).Pairwise (Rk (L.map pr)) := o1
  have o4 : ∀ i, i ∈ inOrd (L.map pr) ↔ i < L.length := fun i => by
    have h := o2 i
    rw [List.length_map] at h
    exact h
  have nd : (inOrd (L.map pr)).Nodup := o3.imp fun {a b} hab e => by
    subst e
    exact Rk.asym hab hab
  have perm : (inOrd (L.map pr)).Perm (List.range L.length) := (List.perm_ext_iff_of_nodup nd List.nodup_range).mpr fun i => by rw [o4, List.mem_range]
  have hlen : (inOrd (L.map pr)).length = L.length := by rw [perm.length_eq, List.length_range]
  refine ⟨hlen, fun i hi => (o4 i).mp hi, ?_⟩
  have getpr : ∀ i, i < L.length → (L.map pr).getD i (0, 1) = pr (L.getD i 0) := fun i hi => by
    simp [List.getD, hi]
  have sorted : ((inOrd (L.map pr)).reverse.map (fun i => L.getD i 0)).Pairwise (· ≤ ·) := by
    rw [List.pairwise_map, List.pairwise_reverse]
    refine List.Pairwise.imp_of_mem (fun {a b} ha hb hab => ?_) o3
    have ha := (o4 a).mp ha
    have hb := (o4 b).mp hb
    rcases hab with h | ⟨h, _⟩
    · rw [getpr a ha, getpr b hb, lt_pr, decide_eq_true_eq] at h
      exact Rat.le_of_lt h
    · rw [getpr a ha, getpr b hb] at h
      rw [pr_inj h]
      exact Rat.le_refl
  have p2 : ((inOrd (L.map pr)).reverse.map (fun i => L.getD i 0)).Perm (upR L) := by
    have h1 : ((inOrd (L.map pr)).reverse.map (fun i => L.getD i 0)).Perm ((List.range L.length).map (fun i => L.getD i 0)) := ((List.reverse_perm _).trans perm).map _
    have h2 : (List.range L.length).map (fun i => L.getD i 0) = L := by
      apply List.ext_getElem
      · simp
      · intro i h1 h2
        simp [h2]
    rw [h2] at h1
    exact h1.trans (upR_perm L).symm
  exact List.Perm.eq_of_pairwise (fun a b _ _ h1 h2 => Rat.le_antisymm h1 h2) sorted (upR_all L).1 p2
/-! ### ascending, median, quantile -/
theorem nat_map_get {α : Type} {f : Nat → α} {xs : List Nat} {i : Nat} (h : i < xs.length) : xs[i]? = some xs[i] := List.getElem?_eq_getElem h
theorem s_need {o : Ow} {xs : List D} (h : xs.length ≠ 0) : run P n fd_need_some [.lst o xs] = .ok .non [.lst o xs] := by
  rw [run_def rfl]
  have h2 : ¬ (xs = []) := fun h3 => h (by rw [h3]; rfl)
  simp [fd_need_some, b_need_some, bind_ok, bind_exc, fl_ok, fl_exc, use_none, use_some, use_exc, tmp_ok, tru_ok, tru_exc, liftO_some, slot_0, slot_s, ev_v, ev_fz, ev_mv, ev_g, ev_int, ev_str, ev_bl, ev_non, ev_nop, ev_ix, ev_fld, ev_sl, ev_bin, ev_neg, ev_not, ev_cmp, ev_chain, ev_and, ev_or, ev_itE, ev_tup, ev_lst, ev_call, ev_b1, ev_b2, ev_isi, ev_mm, ev_comp, evs_nIl, evs_cons, eva_nil, eva_cons, evw_rng1, evw_rng2, evw_enm, evw_zip, evw_seq, then_nx, then_ret, then_brk, then_ct, then_exc, env_nx, env_ret, evS_nil, evS_cons, blk_def, evS_asg, evS_par2, evS_par3, evS_aug, evS_puT, evS_ex, evS_ret, evS_retN, evS_iff, evS_whl, evS_foR, evS_brk, evS_cont, evS_pass, evS_raise, evS_try, endC_nx, endC_ret, endC_exc, raise_t, hnd_exc, hnd_nx, hnd_ret, sub_has, isi_bool_non, isi_bool_bl, isi_bool_int, isi_bool_str, isi_bool_tup, isi_bool_lst, isi_int_non, isi_int_bl, isi_int_int, isi_int_str, isi_int_tup, isi_int_lst, isi_str_non, isi_str_bl, isi_str_int, isi_str_str, isi_str_tup, isi_str_lst, isi_tuple_non, isi_tuple_bl, isi_tuple_int, isi_tuple_str, isi_tuple_tup, isi_tuple_lst, isi_list_non, isi_list_bl, isi_list_int, isi_list_str, isi_list_tup, isi_list_lst, evw_rng3, eqO_ii, eqO_bb, eqO_ss, eqO_nn, flat_int, flat_str, flat_bl, flat_non, k_v, k_fz, k_mv, k_g, stpO, k_ix3, k_ix2, k_ix, k_fld2, k_fld, k_sl3, k_sl2, k_sl, k_bin2, k_bin, k_neg, bO, k_not, k_cmp2, k_cmp, k_ch4, k_ch3, k_ch2, k_ch, k_and2, k_and, k_or2, k_or, k_ite2, k_ite, k_tup, k_lst, k_ret, k_call2, k_call3, k_call, k_b1, k_b22, k_b2, k_isi, k_mm3, k_mm2, k_mm, cB, cT, cE, cW, k_comp2, k_comp, k_evs2, k_evs, k_eva2, k_eva, k_rng22, k_rng2, k_rng32, k_rng3, k_enm2, k_enm, k_zip4, k_zip3, k_zip2, k_zip, k_seqw, s_asg, s_par22, s_par2, s_aug3, s_aug2, s_aug, s_put3, s_put2, s_put, s_ex, s_ret, s_iff, s_opt, s_unl, s_hO, s_par3, s_for, ixN, liftF, bindT, bindT.bindTs, calmP, qt, isFrz, frzL, canFrz, canL, freeze, freezeL, avDs, avD, avOk, avRoots, Av.isVar, giveA, setE, getE, getS, setS, binD, slD, cmpD, b1D, b2D, trD, ixD, start, behind, parOk, asgS, asgT, callN_has, G_has, f2Ok, items, walkD, walkP, unlend, sizeLine_eq, evh, evhs, putF, itmF, mmD, isLst, partD, par3F, noExc, ownOk, wipeE, backE, Pl.root, h2]
theorem s_need0 {o : Ow} [HasG P (excKey "BadNumber") (.bl true)] : run P n fd_need_some [.lst o []] = .exc ⟨"BadNumber", []⟩ [.lst o []] := by
  rw [run_def rfl]
  simp [fd_need_some, b_need_some, bind_ok, bind_exc, fl_ok, fl_exc, use_none, use_some, use_exc, tmp_ok, tru_ok, tru_exc, liftO_some, slot_0, slot_s, ev_v, ev_fz, ev_mv, ev_g, ev_int, ev_str, ev_bl, ev_non, ev_nop, ev_ix, ev_fld, ev_sl, ev_bin, ev_neg, ev_not, ev_cmp, ev_chain, ev_and, ev_or, ev_itE, ev_tup, ev_lst, ev_call, ev_b1, ev_b2, ev_isi, ev_mm, ev_comp, evs_nIl, evs_cons, eva_nil, eva_cons, evw_rng1, evw_rng2, evw_enm, evw_zip, evw_seq, then_nx, then_ret, then_brk, then_ct, then_exc, env_nx, env_ret, evS_nil, evS_cons, blk_def, evS_asg, evS_par2, evS_par3, evS_aug, evS_puT, evS_ex, evS_ret, evS_retN, evS_iff, evS_whl, evS_foR, evS_brk, evS_cont, evS_pass, evS_raise, evS_try, endC_nx, endC_ret, endC_exc, raise_t, hnd_exc, hnd_nx, hnd_ret, sub_has, isi_bool_non, isi_bool_bl, isi_bool_int, isi_bool_str, isi_bool_tup, isi_bool_lst, isi_int_non, isi_int_bl, isi_int_int, isi_int_str, isi_int_tup, isi_int_lst, isi_str_non, isi_str_bl, isi_str_int, isi_str_str, isi_str_tup, isi_str_lst, isi_tuple_non, isi_tuple_bl, isi_tuple_int, isi_tuple_str, isi_tuple_tup, isi_tuple_lst, isi_list_non, isi_list_bl, isi_list_int, isi_list_str, isi_list_tup, isi_list_lst, evw_rng3, eqO_ii, eqO_bb, eqO_ss, eqO_nn, flat_int, flat_str, flat_bl, flat_non, k_v, k_fz, k_mv, k_g, stpO, k_ix3, k_ix2, k_ix, k_fld2, k_fld, k_sl3, k_sl2, k_sl, k_bin2, k_bin, k_neg, bO, k_not, k_cmp2, k_cmp, k_ch4, k_ch3, k_ch2, k_ch, k_and2, k_and, k_or2, k_or, k_ite2, k_ite, k_tup, k_lst, k_ret, k_call2, k_call3, k_call, k_b1, k_b22, k_b2, k_isi, k_mm3, k_mm2, k_mm, cB, cT, cE, cW, k_comp2, k_comp, k_evs2, k_evs, k_eva2, k_eva, k_rng22, k_rng2, k_rng32, k_rng3, k_enm2, k_enm, k_zip4, k_zip3, k_zip2, k_zip, k_seqw, s_asg, s_par22, s_par2, s_aug3, s_aug2, s_aug, s_put3, s_put2, s_put, s_ex, s_ret, s_iff, s_opt, s_unl, s_hO, s_par3, s_for, ixN, liftF, bindT, bindT.bindTs, calmP, qt, isFrz, frzL, canFrz, canL, freeze, freezeL, avDs, avD, avOk, avRoots, Av.isVar, giveA, setE, getE, getS, setS, binD, slD, cmpD, b1D, b2D, trD, ixD, start, behind, parOk, asgS, asgT, callN_has, G_has, f2Ok, items, walkD, walkP, unlend, sizeLine_eq, evh, evhs, putF, itmF, mmD, isLst, partD, par3F, noExc, ownOk, wipeE, backE, Pl.root]
theorem s_asc0 {o : Ow} [Has P "in_order" fd_in_order] [Has P "less" fd_less] (ho : Ow.ok o) {L : List Rat} (hL : ∀ x ∈ L, Q 45 (pr x)) (hn : L.length ≤ 900) :
    ∃ x', compL (cB (.v 2)) (cT (callN P (n + 2)) P.G (.bl true)) (cE (callN P (n + 2)) P.G (.fz (.ix (.v 0) (.ix (.v 1) (.v 2))))) (cW [2]) (rangeI ((L.length : Int) - 1) (-1) L.length) [some (.lst .frz (L.map rt)), some (.lst .own ((inOrd (L.map pr)).map nat)), none]
      = .ok ((upR L).map rt) [some (.lst .frz (L.map rt)), some (.lst .own ((inOrd (L.map pr)).map nat)), x'] := by
  obtain ⟨h1, h2, h3⟩ := ord_rev L
  rw [← h3]
  generalize inOrd (L.map pr) = ps at *
  -- the walk is backwards
  have key : rangeI ((L.length : Int) - 1) (-1) L.length = (List.range ps.length).reverse.map nat := by
    unfold rangeI
    apply List.ext_getElem
    · simp [h1]
    · intro i hi1 hi2
      simp only [List.length_map, List.length_range, List.length_reverse] at hi1 hi2
      simp only [List.getElem_map, List.getElem_range, List.getElem_reverse, List.length_range, nat]
      congr 1
      omega
  rw [key]
  have vals : ps.reverse.map (fun i => L.getD i 0) = (List.range ps.length).reverse.map (fun j => L.getD (ps.getD j 0) 0) := by
    rw [List.map_reverse, List.map_reverse]
    congr 1
    apply List.ext_getElem
    · simp
    · intro i hi1 hi2
      simp only [List.length_map] at hi1
      simp [hi1]
  rw [vals]
  have main : ∀ (js : List Nat) (x2 : Option D), (∀ j ∈ js, j < ps.length) → ∃ x',
      compL (cB (.v 2)) (cT (callN P (n + 2)) P.G (.bl true)) (cE (callN P (n + 2)) P.G (.fz (.ix (.v 0) (.ix (.v 1) (.v 2))))) (cW [2]) (js.map nat) [some (.lst .frz (L.map rt)), some (.lst .own (ps.map nat)), x2]
      = .ok ((js.map (fun j => L.getD (ps.getD j 0) 0)).map rt) [some (.lst .frz (L.map rt)), some (.lst .own (ps.map nat)), x'] := by
    intro js
    induction js with
    | nil => intro x2 _; exact ⟨x2, rfl⟩
    | cons j r ih =>
      intro x2 h
      obtain ⟨x', e⟩ := ih (some (nat j)) fun i hi => h i (List.mem_cons_of_mem _ hi)
      refine ⟨x', ?_⟩
      have hj := h j (List.mem_cons_self ..)
      have hj2 : (j : Int) < ps.length := by omega
      have hi := h2 _ (List.getElem_mem hj)
      have hi2 : ((ps[j] : Nat) : Int) < L.length := by omega
      rw [List.map_cons, compL]
      simp only [nat] at e
      simp [bind_ok, bind_exc, fl_ok, fl_exc, use_none, use_some, use_exc, tmp_ok, tru_ok, tru_exc, liftO_some, slot_0, slot_s, ev_v, ev_fz, ev_mv, ev_g, ev_int, ev_str, ev_bl, ev_non, ev_nop, ev_ix, ev_fld, ev_sl, ev_bin, ev_neg, ev_not, ev_cmp, ev_chain, ev_and, ev_or, ev_itE, ev_tup, ev_lst, ev_call, ev_b1, ev_b2, ev_isi, ev_mm, ev_comp, evs_nIl, evs_cons, eva_nil, eva_cons, evw_rng1, evw_rng2, evw_enm, evw_zip, evw_seq, then_nx, then_ret, then_brk, then_ct, then_exc, env_nx, env_ret, evS_nil, evS_cons, blk_def, evS_asg, evS_par2, evS_par3, evS_aug, evS_puT, evS_ex, evS_ret, evS_retN, evS_iff, evS_whl, evS_foR, evS_brk, evS_cont, evS_pass, evS_raise, evS_try, endC_nx, endC_ret, endC_exc, raise_t, hnd_exc, hnd_nx, hnd_ret, sub_has, isi_bool_non, isi_bool_bl, isi_bool_int, isi_bool_str, isi_bool_tup, isi_bool_lst, isi_int_non, isi_int_bl, isi_int_int, isi_int_str, isi_int_tup, isi_int_lst, isi_str_non, isi_str_bl, isi_str_int, isi_str_str, isi_str_tup, isi_str_lst, isi_tuple_non, isi_tuple_bl, isi_tuple_int, isi_tuple_str, isi_tuple_tup, isi_tuple_lst, isi_list_non, isi_list_bl, isi_list_int, isi_list_str, isi_list_tup, isi_list_lst, evw_rng3, eqO_ii, eqO_bb, eqO_ss, eqO_nn, flat_int, flat_str, flat_bl, flat_non, k_v, k_fz, k_mv, k_g, stpO, k_ix3, k_ix2, k_ix, k_fld2, k_fld, k_sl3, k_sl2, k_sl, k_bin2, k_bin, k_neg, bO, k_not, k_cmp2, k_cmp, k_ch4, k_ch3, k_ch2, k_ch, k_and2, k_and, k_or2, k_or, k_ite2, k_ite, k_tup, k_lst, k_ret, k_call2, k_call3, k_call, k_b1, k_b22, k_b2, k_isi, k_mm3, k_mm2, k_mm, cB, cT, cE, cW, k_comp2, k_comp, k_evs2, k_evs, k_eva2, k_eva, k_rng22, k_rng2, k_rng32, k_rng3, k_enm2, k_enm, k_zip4, k_zip3, k_zip2, k_zip, k_seqw, s_asg, s_par22, s_par2, s_aug3, s_aug2, s_aug, s_put3, s_put2, s_put, s_ex, s_ret, s_iff, s_opt, s_unl, s_hO, s_par3, s_for, ixN, liftF, bindT, bindT.bindTs, calmP, qt, isFrz, frzL, canFrz, canL, freeze, freezeL, avDs, avD, avOk, avRoots, Av.isVar, giveA, setE, getE, getS, setS, binD, slD, cmpD, b1D, b2D, trD, ixD, start, behind, parOk, asgS, asgT, callN_has, G_has, f2Ok, items, walkD, walkP, unlend, sizeLine_eq, evh, evhs, putF, itmF, mmD, isLst, partD, par3F, noExc, ownOk, wipeE, backE, Pl.root, nat, hj2, hj, hi2, hi, e]
  exact main _ none (by simp)
theorem rng3_len {L : List Rat} (hn : L.length ≤ 900) (ρ : Env) : k_rng33 (.int ((L.length : Int) - 1)) (.int (-1)) (.int (-1)) ρ = .ok ⟨rangeI ((L.length : Int) - 1) (-1) L.length, []⟩ ρ := by
  have h := rng3_down (i := (L.length : Int) - 1) (j := -1) (ρ := ρ) (by omega) (by omega) (by omega) (by omega)
  have e : ((L.length : Int) - 1 - -1).toNat = L.length := by omega
  rw [e] at h
  exact h
section
variable {L : List Rat} {o : Ow} [Has P "in_order" fd_in_order] [Has P "less" fd_less] (ho : Ow.ok o) (hL : ∀ x ∈ L, Q 45 (pr x)) (hn : L.length ≤ 900)
include ho hL hn
theorem t_asc : run P (n + 2) fd_ascending [.lst o (L.map rt)] = .ok (.lst .own ((upR L).map rt)) [.lst .frz (L.map rt)] := by
  obtain ⟨x', e⟩ := s_asc0 (P := P) (n := n) ho hL hn
  have e1 := t_inorder (P := P) (n := n) ho hL hn
  have hl := (ord_rev L).1
  have hu := (upR_all L).2.2
  have r := rng3_len hn
  have hz : L.length ≤ 16777216 := by omega
  rw [run_def rfl]
  rcases ho with rfl | rfl
  · simp [fd_ascending, b_ascending, bind_ok, bind_exc, fl_ok, fl_exc, use_none, use_some, use_exc, tmp_ok, tru_ok, tru_exc, liftO_some, slot_0, slot_s, ev_v, ev_fz, ev_mv, ev_g, ev_int, ev_str, ev_bl, ev_non, ev_nop, ev_ix, ev_fld, ev_sl, ev_bin, ev_neg, ev_not, ev_cmp, ev_chain, ev_and, ev_or, ev_itE, ev_tup, ev_lst, ev_call, ev_b1, ev_b2, ev_isi, ev_mm, ev_comp, evs_nIl, evs_cons, eva_nil, eva_cons, evw_rng1, evw_rng2, evw_enm, evw_zip, evw_seq, then_nx, then_ret, then_brk, then_ct, then_exc, env_nx, env_ret, evS_nil, evS_cons, blk_def, evS_asg, evS_par2, evS_par3, evS_aug, evS_puT, evS_ex, evS_ret, evS_retN, evS_iff, evS_whl, evS_foR, evS_brk, evS_cont, evS_pass, evS_raise, evS_try, endC_nx, endC_ret, endC_exc, raise_t, hnd_exc, hnd_nx, hnd_ret, sub_has, isi_bool_non, isi_bool_bl, isi_bool_int, isi_bool_str, isi_bool_tup, isi_bool_lst, isi_int_non, isi_int_bl, isi_int_int, isi_int_str, isi_int_tup, isi_int_lst, isi_str_non, isi_str_bl, isi_str_int, isi_str_str, isi_str_tup, isi_str_lst, isi_tuple_non, isi_tuple_bl, isi_tuple_int, isi_tuple_str, isi_tuple_tup, isi_tuple_lst, isi_list_non, isi_list_bl, isi_list_int, isi_list_str, isi_list_tup, isi_list_lst, evw_rng3, eqO_ii, eqO_bb, eqO_ss, eqO_nn, flat_int, flat_str, flat_bl, flat_non, k_v, k_fz, k_mv, k_g, stpO, k_ix3, k_ix2, k_ix, k_fld2, k_fld, k_sl3, k_sl2, k_sl, k_bin2, k_bin, k_neg, bO, k_not, k_cmp2, k_cmp, k_ch4, k_ch3, k_ch2, k_ch, k_and2, k_and, k_or2, k_or, k_ite2, k_ite, k_tup, k_lst, k_ret, k_call2, k_call3, k_call, k_b1, k_b22, k_b2, k_isi, k_mm3, k_mm2, k_mm, cB, cT, cE, cW, k_comp2, k_comp, k_evs2, k_evs, k_eva2, k_eva, k_rng22, k_rng2, k_rng32, k_rng3, k_enm2, k_enm, k_zip4, k_zip3, k_zip2, k_zip, k_seqw, s_asg, s_par22, s_par2, s_aug3, s_aug2, s_aug, s_put3, s_put2, s_put, s_ex, s_ret, s_iff, s_opt, s_unl, s_hO, s_par3, s_for, ixN, liftF, bindT, bindT.bindTs, calmP, qt, isFrz, frzL, canFrz, canL, freeze, freezeL, avDs, avD, avOk, avRoots, Av.isVar, giveA, setE, getE, getS, setS, binD, slD, cmpD, b1D, b2D, trD, ixD, start, behind, parOk, asgS, asgT, callN_has, G_has, f2Ok, items, walkD, walkP, unlend, sizeLine_eq, evh, evhs, putF, itmF, mmD, isLst, partD, par3F, noExc, ownOk, wipeE, backE, Pl.root, e1, hl, r, e, hu, hz]
  · simp [fd_ascending, b_ascending, bind_ok, bind_exc, fl_ok, fl_exc, use_none, use_some, use_exc, tmp_ok, tru_ok, tru_exc, liftO_some, slot_0, slot_s, ev_v, ev_fz, ev_mv, ev_g, ev_int, ev_str, ev_bl, ev_non, ev_nop, ev_ix, ev_fld, ev_sl, ev_bin, ev_neg, ev_not, ev_cmp, ev_chain, ev_and, ev_or, ev_itE, ev_tup, ev_lst, ev_call, ev_b1, ev_b2, ev_isi, ev_mm, ev_comp, evs_nIl, evs_cons, eva_nil, eva_cons, evw_rng1, evw_rng2, evw_enm, evw_zip, evw_seq, then_nx, then_ret, then_brk, then_ct, then_exc, env_nx, env_ret, evS_nil, evS_cons, blk_def, evS_asg, evS_par2, evS_par3, evS_aug, evS_puT, evS_ex, evS_ret, evS_retN, evS_iff, evS_whl, evS_foR, evS_brk, evS_cont, evS_pass, evS_raise, evS_try, endC_nx, endC_ret, endC_exc, raise_t, hnd_exc, hnd_nx, hnd_ret, sub_has, isi_bool_non, isi_bool_bl, isi_bool_int, isi_bool_str, isi_bool_tup, isi_bool_lst, isi_int_non, isi_int_bl, isi_int_int, isi_int_str, isi_int_tup, isi_int_lst, isi_str_non, isi_str_bl, isi_str_int, isi_str_str, isi_str_tup, isi_str_lst, isi_tuple_non, isi_tuple_bl, isi_tuple_int, isi_tuple_str, isi_tuple_tup, isi_tuple_lst, isi_list_non, isi_list_bl, isi_list_int, isi_list_str, isi_list_tup, isi_list_lst, evw_rng3, eqO_ii, eqO_bb, eqO_ss, eqO_nn, flat_int, flat_str, flat_bl, flat_non, k_v, k_fz, k_mv, k_g, stpO, k_ix3, k_ix2, k_ix, k_fld2, k_fld, k_sl3, k_sl2, k_sl, k_bin2, k_bin, k_neg, bO, k_not, k_cmp2, k_cmp, k_ch4, k_ch3, k_ch2, k_ch, k_and2, k_and, k_or2, k_or, k_ite2, k_ite, k_tup, k_lst, k_ret, k_call2, k_call3, k_call, k_b1, k_b22, k_b2, k_isi, k_mm3, k_mm2, k_mm, cB, cT, cE, cW, k_comp2, k_comp, k_evs2, k_evs, k_eva2, k_eva, k_rng22, k_rng2, k_rng32, k_rng3, k_enm2, k_enm, k_zip4, k_zip3, k_zip2, k_zip, k_seqw, s_asg, s_par22, s_par2, s_aug3, s_aug2, s_aug, s_put3, s_put2, s_put, s_ex, s_ret, s_iff, s_opt, s_unl, s_hO, s_par3, s_for, ixN, liftF, bindT, bindT.bindTs, calmP, qt, isFrz, frzL, canFrz, canL, freeze, freezeL, avDs, avD, avOk, avRoots, Av.isVar, giveA, setE, getE, getS, setS, binD, slD, cmpD, b1D, b2D, trD, ixD, start, behind, parOk, asgS, asgT, callN_has, G_has, f2Ok, items, walkD, walkP, unlend, sizeLine_eq, evh, evhs, putF, itmF, mmD, isLst, partD, par3F, noExc, ownOk, wipeE, backE, Pl.root, e1, hl, r, e, hu, hz]
/-- the middle -/
def medR (s : List Rat) : Rat := if s.length % 2 = 1 then s.getD (s.length / 2) 0 else (s.getD (s.length / 2 - 1) 0 + s.getD (s.length / 2) 0) / 2
theorem t_median [HasG P "math.gcd" .non] [Has P "fraction" fd_fraction] [Has P "add" fd_add] [Has P "over" fd_over] [Has P "need_some" fd_need_some] [Has P "ascending" fd_ascending] (h0 : L.length ≠ 0) :
    run P (n + 3) fd_median [.lst o (L.map rt)] = .ok (rt (medR (upR L))) [.lst .frz (L.map rt)] := by
  have e0 := s_need (P := P) (n := n + 2) (o := o) (xs := L.map rt) (by simpa using h0)
  have e1 := t_asc (P := P) (n := n) ho hL hn
  obtain ⟨u1, u2, u3⟩ := upR_all L
  have hq : ∀ x ∈ upR L, Q 45 (pr x) := fun x hx => hL x ((u2 x).mp hx)
  generalize hs : upR L = s at *
  have hdv : divOk 2 := ⟨by decide, by decide⟩
  obtain ⟨h, hh⟩ : ∃ h, s.length / 2 = h := ⟨_, rfl⟩
  have hlt : h < s.length := by omega
  have hd : (s.length : Int) / 2 = (h : Int) := by omega
  have hi : ((h : Int) < s.length) := by omega
  have f2 := t_fraction (P := P) (n := n + 2) (t := 2) (b := 1) (by decide) (by decide)
  have f3 : ((2 : Int) : Rat) / ((1 : Int) : Rat) = 2 := by grind
  rw [f3] at f2
  have q2 : Q 45 (pr 2) := (Z.nat 2).q (by decide) (by decide) (by decide)
  rw [run_def rfl]
  by_cases hm : s.length % 2 = 1
  · have hm2 : (s.length : Int) % 2 = 1 := by omega
    have em : medR s = s[h] := by unfold medR; rw [if_pos hm, hh, List.getD, List.getElem?_eq_getElem hlt]; rfl
    rw [em]
    rcases ho with rfl | rfl
    · simp [fd_median, b_median, bind_ok, bind_exc, fl_ok, fl_exc, use_none, use_some, use_exc, tmp_ok, tru_ok, tru_exc, liftO_some, slot_0, slot_s, ev_v, ev_fz, ev_mv, ev_g, ev_int, ev_str, ev_bl, ev_non, ev_nop, ev_ix, ev_fld, ev_sl, ev_bin, ev_neg, ev_not, ev_cmp, ev_chain, ev_and, ev_or, ev_itE, ev_tup, ev_lst, ev_call, ev_b1, ev_b2, ev_isi, ev_mm, ev_comp, evs_nIl, evs_cons, eva_nil, eva_cons, evw_rng1, evw_rng2, evw_enm, evw_zip, evw_seq, then_nx, then_ret, then_brk, then_ct, then_exc, env_nx, env_ret, evS_nil, evS_cons, blk_def, evS_asg, evS_par2, evS_par3, evS_aug, evS_puT, evS_ex, evS_ret, evS_retN, evS_iff, evS_whl, evS_foR, evS_brk, evS_cont, evS_pass, evS_raise, evS_try, endC_nx, endC_ret, endC_exc, raise_t, hnd_exc, hnd_nx, hnd_ret, sub_has, isi_bool_non, isi_bool_bl, isi_bool_int, isi_bool_str, isi_bool_tup, isi_bool_lst, isi_int_non, isi_int_bl, isi_int_int, isi_int_str, isi_int_tup, isi_int_lst, isi_str_non, isi_str_bl, isi_str_int, isi_str_str, isi_str_tup, isi_str_lst, isi_tuple_non, isi_tuple_bl, isi_tuple_int, isi_tuple_str, isi_tuple_tup, isi_tuple_lst, isi_list_non, isi_list_bl, isi_list_int, isi_list_str, isi_list_tup, isi_list_lst, evw_rng3, eqO_ii, eqO_bb, eqO_ss, eqO_nn, flat_int, flat_str, flat_bl, flat_non, k_v, k_fz, k_mv, k_g, stpO, k_ix3, k_ix2, k_ix, k_fld2, k_fld, k_sl3, k_sl2, k_sl, k_bin2, k_bin, k_neg, bO, k_not, k_cmp2, k_cmp, k_ch4, k_ch3, k_ch2, k_ch, k_and2, k_and, k_or2, k_or, k_ite2, k_ite, k_tup, k_lst, k_ret, k_call2, k_call3, k_call, k_b1, k_b22, k_b2, k_isi, k_mm3, k_mm2, k_mm, cB, cT, cE, cW, k_comp2, k_comp, k_evs2, k_evs, k_eva2, k_eva, k_rng22, k_rng2, k_rng32, k_rng3, k_enm2, k_enm, k_zip4, k_zip3, k_zip2, k_zip, k_seqw, s_asg, s_par22, s_par2, s_aug3, s_aug2, s_aug, s_put3, s_put2, s_put, s_ex, s_ret, s_iff, s_opt, s_unl, s_hO, s_par3, s_for, ixN, liftF, bindT, bindT.bindTs, calmP, qt, isFrz, frzL, canFrz, canL, freeze, freezeL, avDs, avD, avOk, avRoots, Av.isVar, giveA, setE, getE, getS, setS, binD, slD, cmpD, b1D, b2D, trD, ixD, start, behind, parOk, asgS, asgT, callN_has, G_has, f2Ok, items, walkD, walkP, unlend, sizeLine_eq, evh, evhs, putF, itmF, mmD, isLst, partD, par3F, noExc, ownOk, wipeE, backE, Pl.root, e0, e1, hdv, hd, hm2, hi, hlt]
    · simp [fd_median, b_median, bind_ok, bind_exc, fl_ok, fl_exc, use_none, use_some, use_exc, tmp_ok, tru_ok, tru_exc, liftO_some, slot_0, slot_s, ev_v, ev_fz, ev_mv, ev_g, ev_int, ev_str, ev_bl, ev_non, ev_nop, ev_ix, ev_fld, ev_sl, ev_bin, ev_neg, ev_not, ev_cmp, ev_chain, ev_and, ev_or, ev_itE, ev_tup, ev_lst, ev_call, ev_b1, ev_b2, ev_isi, ev_mm, ev_comp, evs_nIl, evs_cons, eva_nil, eva_cons, evw_rng1, evw_rng2, evw_enm, evw_zip, evw_seq, then_nx, then_ret, then_brk, then_ct, then_exc, env_nx, env_ret, evS_nil, evS_cons, blk_def, evS_asg, evS_par2, evS_par3, evS_aug, evS_puT, evS_ex, evS_ret, evS_retN, evS_iff, evS_whl, evS_foR, evS_brk, evS_cont, evS_pass, evS_raise, evS_try, endC_nx, endC_ret, endC_exc, raise_t, hnd_exc, hnd_nx, hnd_ret, sub_has, isi_bool_non, isi_bool_bl, isi_bool_int, isi_bool_str, isi_bool_tup, isi_bool_lst, isi_int_non, isi_int_bl, isi_int_int, isi_int_str, isi_int_tup, isi_int_lst, isi_str_non, isi_str_bl, isi_str_int, isi_str_str, isi_str_tup, isi_str_lst, isi_tuple_non, isi_tuple_bl, isi_tuple_int, isi_tuple_str, isi_tuple_tup, isi_tuple_lst, isi_list_non, isi_list_bl, isi_list_int, isi_list_str, isi_list_tup, isi_list_lst, evw_rng3, eqO_ii, eqO_bb, eqO_ss, eqO_nn, flat_int, flat_str, flat_bl, flat_non, k_v, k_fz, k_mv, k_g, stpO, k_ix3, k_ix2, k_ix, k_fld2, k_fld, k_sl3, k_sl2, k_sl, k_bin2, k_bin, k_neg, bO, k_not, k_cmp2, k_cmp, k_ch4, k_ch3, k_ch2, k_ch, k_and2, k_and, k_or2, k_or, k_ite2, k_ite, k_tup, k_lst, k_ret, k_call2, k_call3, k_call, k_b1, k_b22, k_b2, k_isi, k_mm3, k_mm2, k_mm, cB, cT, cE, cW, k_comp2, k_comp, k_evs2, k_evs, k_eva2, k_eva, k_rng22, k_rng2, k_rng32, k_rng3, k_enm2, k_enm, k_zip4, k_zip3, k_zip2, k_zip, k_seqw, s_asg, s_par22, s_par2, s_aug3, s_aug2, s_aug, s_put3, s_put2, s_put, s_ex, s_ret, s_iff, s_opt, s_unl, s_hO, s_par3, s_for, ixN, liftF, bindT, bindT.bindTs, calmP, qt, isFrz, frzL, canFrz, canL, freeze, freezeL, avDs, avD, avOk, avRoots, Av.isVar, giveA, setE, getE, getS, setS, binD, slD, cmpD, b1D, b2D, trD, ixD, start, behind, parOk, asgS, asgT, callN_has, G_has, f2Ok, items, walkD, walkP, unlend, sizeLine_eq, evh, evhs, putF, itmF, mmD, isLst, partD, par3F, noExc, ownOk, wipeE, backE, Pl.root, e0, e1, hdv, hd, hm2, hi, hlt]
  · have hm2 : ¬ (s.length : Int) % 2 = 1 := by omega
    have h1 : 1 ≤ h := by omega
    have hlt1 : h - 1 < s.length := by omega
    have hi1 : ((h : Int) - 1 < s.length) := by omega
    have hi0 : 0 ≤ (h : Int) - 1 := by omega
    have hn1 : ((h : Int) - 1).toNat = h - 1 := by omega
    have hh1 : 1 ≤ (h : Int) := by omega
    have em : medR s = (s[h - 1] + s[h]) / 2 := by
      unfold medR
      rw [if_neg hm, hh, List.getD, List.getD, List.getElem?_eq_getElem hlt, List.getElem?_eq_getElem hlt1]
      rfl
    rw [em]
    have a1 := hq _ (List.getElem_mem hlt1)
    have a2 := hq _ (List.getElem_mem hlt)
    have e2 := t_add (P := P) (n := n + 1) (by decide) (by decide) a1 a2
    have a3 : Q 91 (pr (s[h - 1] + s[h])) := by rw [← add_pr]; exact (add_q a1 a2).mono (by decide)
    have e3 := t_over (P := P) (n := n + 1) (by decide) (by decide) a3 q2 (by decide)
    rcases ho with rfl | rfl
    · simp [fd_median, b_median, bind_ok, bind_exc, fl_ok, fl_exc, use_none, use_some, use_exc, tmp_ok, tru_ok, tru_exc, liftO_some, slot_0, slot_s, ev_v, ev_fz, ev_mv, ev_g, ev_int, ev_str, ev_bl, ev_non, ev_nop, ev_ix, ev_fld, ev_sl, ev_bin, ev_neg, ev_not, ev_cmp, ev_chain, ev_and, ev_or, ev_itE, ev_tup, ev_lst, ev_call, ev_b1, ev_b2, ev_isi, ev_mm, ev_comp, evs_nIl, evs_cons, eva_nil, eva_cons, evw_rng1, evw_rng2, evw_enm, evw_zip, evw_seq, then_nx, then_ret, then_brk, then_ct, then_exc, env_nx, env_ret, evS_nil, evS_cons, blk_def, evS_asg, evS_par2, evS_par3, evS_aug, evS_puT, evS_ex, evS_ret, evS_retN, evS_iff, evS_whl, evS_foR, evS_brk, evS_cont, evS_pass, evS_raise, evS_try, endC_nx, endC_ret, endC_exc, raise_t, hnd_exc, hnd_nx, hnd_ret, sub_has, isi_bool_non, isi_bool_bl, isi_bool_int, isi_bool_str, isi_bool_tup, isi_bool_lst, isi_int_non, isi_int_bl, isi_int_int, isi_int_str, isi_int_tup, isi_int_lst, isi_str_non, isi_str_bl, isi_str_int, isi_str_str, isi_str_tup, isi_str_lst, isi_tuple_non, isi_tuple_bl, isi_tuple_int, isi_tuple_str, isi_tuple_tup, isi_tuple_lst, isi_list_non, isi_list_bl, isi_list_int, isi_list_str, isi_list_tup, isi_list_lst, evw_rng3, eqO_ii, eqO_bb, eqO_ss, eqO_nn, flat_int, flat_str, flat_bl, flat_non, k_v, k_fz, k_mv, k_g, stpO, k_ix3, k_ix2, k_ix, k_fld2, k_fld, k_sl3, k_sl2, k_sl, k_bin2, k_bin, k_neg, bO, k_not, k_cmp2, k_cmp, k_ch4, k_ch3, k_ch2, k_ch, k_and2, k_and, k_or2, k_or, k_ite2, k_ite, k_tup, k_lst, k_ret, k_call2, k_call3, k_call, k_b1, k_b22, k_b2, k_isi, k_mm3, k_mm2, k_mm, cB, cT, cE, cW, k_comp2, k_comp, k_evs2, k_evs, k_eva2, k_eva, k_rng22, k_rng2, k_rng32, k_rng3, k_enm2, k_enm, k_zip4, k_zip3, k_zip2, k_zip, k_seqw, s_asg, s_par22, s_par2, s_aug3, s_aug2, s_aug, s_put3, s_put2, s_put, s_ex, s_ret, s_iff, s_opt, s_unl, s_hO, s_par3, s_for, ixN, liftF, bindT, bindT.bindTs, calmP, qt, isFrz, frzL, canFrz, canL, freeze, freezeL, avDs, avD, avOk, avRoots, Av.isVar, giveA, setE, getE, getS, setS, binD, slD, cmpD, b1D, b2D, trD, ixD, start, behind, parOk, asgS, asgT, callN_has, G_has, f2Ok, items, walkD, walkP, unlend, sizeLine_eq, evh, evhs, putF, itmF, mmD, isLst, partD, par3F, noExc, ownOk, wipeE, backE, Pl.root, e0, e1, hdv, hd, hm2, hi, hlt, hlt1, hi1, hi0, hn1, hh1, e2, e3, f2]
    · simp [fd_median, b_median, bind_ok, bind_exc, fl_ok, fl_exc, use_none, use_some, use_exc, tmp_ok, tru_ok, tru_exc, liftO_some, slot_0, slot_s, ev_v, ev_fz, ev_mv, ev_g, ev_int, ev_str, ev_bl, ev_non, ev_nop, ev_ix, ev_fld, ev_sl, ev_bin, ev_neg, ev_not, ev_cmp, ev_chain, ev_and, ev_or, ev_itE, ev_tup, ev_lst, ev_call, ev_b1, ev_b2, ev_isi, ev_mm, ev_comp, evs_nIl, evs_cons, eva_nil, eva_cons, evw_rng1, evw_rng2, evw_enm, evw_zip, evw_seq, then_nx, then_ret, then_brk, then_ct, then_exc, env_nx, env_ret, evS_nil, evS_cons, blk_def, evS_asg, evS_par2, evS_par3, evS_aug, evS_puT, evS_ex, evS_ret, evS_retN, evS_iff, evS_whl, evS_foR, evS_brk, evS_cont, evS_pass, evS_raise, evS_try, endC_nx, endC_ret, endC_exc, raise_t, hnd_exc, hnd_nx, hnd_ret, sub_has, isi_bool_non, isi_bool_bl, isi_bool_int, isi_bool_str, isi_bool_tup, isi_bool_lst, isi_int_non, isi_int_bl, isi_int_int, isi_int_str, isi_int_tup, isi_int_lst, isi_str_non, isi_str_bl, isi_str_int, isi_str_str, isi_str_tup, isi_str_lst, isi_tuple_non, isi_tuple_bl, isi_tuple_int, isi_tuple_str, isi_tuple_tup, isi_tuple_lst, isi_list_non, isi_list_bl, isi_list_int, isi_list_str, isi_list_tup, isi_list_lst, evw_rng3, eqO_ii, eqO_bb, eqO_ss, eqO_nn, flat_int, flat_str, flat_bl, flat_non, k_v, k_fz, k_mv, k_g, stpO, k_ix3, k_ix2, k_ix, k_fld2, k_fld, k_sl3, k_sl2, k_sl, k_bin2, k_bin, k_neg, bO, k_not, k_cmp2, k_cmp, k_ch4, k_ch3, k_ch2, k_ch, k_and2, k_and, k_or2, k_or, k_ite2, k_ite, k_tup, k_lst, k_ret, k_call2, k_call3, k_call, k_b1, k_b22, k_b2, k_isi, k_mm3, k_mm2, k_mm, cB, cT, cE, cW, k_comp2, k_comp, k_evs2, k_evs, k_eva2, k_eva, k_rng22, k_rng2, k_rng32, k_rng3, k_enm2, k_enm, k_zip4, k_zip3, k_zip2, k_zip, k_seqw, s_asg, s_par22, s_par2, s_aug3, s_aug2, s_aug, s_put3, s_put2, s_put, s_ex, s_ret, s_iff, s_opt, s_unl, s_hO, s_par3, s_for, ixN, liftF, bindT, bindT.bindTs, calmP, qt, isFrz, frzL, canFrz, canL, freeze, freezeL, avDs, avD, avOk, avRoots, Av.isVar, giveA, setE, getE, getS, setS, binD, slD, cmpD, b1D, b2D, trD, ixD, start, behind, parOk, asgS, asgT, callN_has, G_has, f2Ok, items, walkD, walkP, unlend, sizeLine_eq, evh, evhs, putF, itmF, mmD, isLst, partD, par3F, noExc, ownOk, wipeE, backE, Pl.root, e0, e1, hdv, hd, hm2, hi, hlt, hlt1, hi1, hi0, hn1, hh1, e2, e3, f2]
end
/-- the first number at whose place enough are told -/
def firstQ (sh : Rat) (m : Nat) : Nat → List Rat → Option Rat
  | _, [] => none
  | i, x :: r => if ((i + 1 : Nat) : Rat) / (m : Rat) < sh then firstQ sh m (i + 1) r else some x
theorem enum_rt (L : List Rat) : enumD (L.map rt) = L.zipIdx.map fun p => .tup [.int p.2, rt p.1] := by
  unfold enumD
  rw [List.zipIdx_map, List.map_map]
  rfl
section
variable [HasG P "math.gcd" .non] [Has P "fraction" fd_fraction] [Has P "less" fd_less]
theorem quant_loop {L : List Rat} {sh : Rat} (hsh : Q 45 (pr sh)) (hm : L.length ≤ 900) (h0 : L.length ≠ 0) : ∀ (r : List Rat) (i : Nat) (o2 o3 : Option D) (x : Rat), i + r.length ≤ 900 → firstQ sh L.length i r = some x →
    ∃ o2', forL (s_step (callN P (n + 1)) P.G P.isSub nWhile (.tup (.cons (.v 2) (.cons (.v 3) .nil))) (.cons (.iff (.not (.call "less" (.cons (.call "fraction" (.cons (.bin .add (.v 2) (.int 1)) (.cons (.b1 .len (.v 0)) .nil))) (.cons (.v 1) .nil)))) (.cons (.ret (.mv 3)) .nil) .nil) .nil))
      ((r.zipIdx i).map fun p => .tup [.int p.2, rt p.1]) [some (.lst .frz (L.map rt)), some (rt sh), o2, o3] = .ret (rt x) [some (.lst .frz (L.map rt)), some (rt sh), o2', none]
  | [], i, o2, o3, x, _, h => by simp [firstQ] at h
  | y :: r, i, o2, o3, x, hi, h => by
    rw [List.length_cons] at hi
    have e1 := t_fraction (P := P) (n := n) (t := ((i + 1 : Nat) : Int)) (b := (L.length : Int)) (by omega) (natAbs_lt_mono (k := 20) (by omega) (by decide))
    rw [Rat.intCast_natCast, Rat.intCast_natCast] at e1
    have q1 : Q 45 (pr (((i + 1 : Nat) : Rat) / (L.length : Rat))) := ((Z.nat (i + 1)).div (k := L.length) (by omega)).q (by omega) (Nat.lt_of_le_of_lt (Nat.mul_le_mul (show i + 1 ≤ 1000 by omega) (show 1 * L.length ≤ 1000 by omega)) (by decide)) (by omega)
    have e2 := t_less (P := P) (n := n) (by decide) (by decide) q1 hsh
    have hc : ((i : Int) + 1) = ((i + 1 : Nat) : Int) := by omega
    rw [← hc] at e1
    rw [List.zipIdx_cons, List.map_cons]
    by_cases hlt : ((i + 1 : Nat) : Rat) / (L.length : Rat) < sh
    · rw [firstQ, if_pos hlt] at h
      obtain ⟨o2', e3⟩ := quant_loop hsh hm h0 r (i + 1) (some (.int ((i : Nat) : Int))) (some (rt y)) x (by omega) h
      refine ⟨o2', ?_⟩
      rw [forL_nx (ρ1 := [some (.lst .frz (L.map rt)), some (rt sh), some (.int (i : Int)), some (rt y)])]
      · exact e3
      · generalize ((i + 1 : Nat) : Rat) / (L.length : Rat) = v at e1 e2 hlt
        simp [s_step, s_opt, bind_ok, bind_exc, fl_ok, fl_exc, use_none, use_some, use_exc, tmp_ok, tru_ok, tru_exc, liftO_some, slot_0, slot_s, ev_v, ev_fz, ev_mv, ev_g, ev_int, ev_str, ev_bl, ev_non, ev_nop, ev_ix, ev_fld, ev_sl, ev_bin, ev_neg, ev_not, ev_cmp, ev_chain, ev_and, ev_or, ev_itE, ev_tup, ev_lst, ev_call, ev_b1, ev_b2, ev_isi, ev_mm, ev_comp, evs_nIl, evs_cons, eva_nil, eva_cons, evw_rng1, evw_rng2, evw_enm, evw_zip, evw_seq, then_nx, then_ret, then_brk, then_ct, then_exc, env_nx, env_ret, evS_nil, evS_cons, blk_def, evS_asg, evS_par2, evS_par3, evS_aug, evS_puT, evS_ex, evS_ret, evS_retN, evS_iff, evS_whl, evS_foR, evS_brk, evS_cont, evS_pass, evS_raise, evS_try, endC_nx, endC_ret, endC_exc, raise_t, hnd_exc, hnd_nx, hnd_ret, sub_has, isi_bool_non, isi_bool_bl, isi_bool_int, isi_bool_str, isi_bool_tup, isi_bool_lst, isi_int_non, isi_int_bl, isi_int_int, isi_int_str, isi_int_tup, isi_int_lst, isi_str_non, isi_str_bl, isi_str_int, isi_str_str, isi_str_tup, isi_str_lst, isi_tuple_non, isi_tuple_bl, isi_tuple_int, isi_tuple_str, isi_tuple_tup, isi_tuple_lst, isi_list_non, isi_list_bl, isi_list_int, isi_list_str, isi_list_tup, isi_list_lst, evw_rng3, eqO_ii, eqO_bb, eqO_ss, eqO_nn, flat_int, flat_str, flat_bl, flat_non, k_v, k_fz, k_mv, k_g, stpO, k_ix3, k_ix2, k_ix, k_fld2, k_fld, k_sl3, k_sl2, k_sl, k_bin2, k_bin, k_neg, bO, k_not, k_cmp2, k_cmp, k_ch4, k_ch3, k_ch2, k_ch, k_and2, k_and, k_or2, k_or, k_ite2, k_ite, k_tup, k_lst, k_ret, k_call2, k_call3, k_call, k_b1, k_b22, k_b2, k_isi, k_mm3, k_mm2, k_mm, cB, cT, cE, cW, k_comp2, k_comp, k_evs2, k_evs, k_eva2, k_eva, k_rng22, k_rng2, k_rng32, k_rng3, k_enm2, k_enm, k_zip4, k_zip3, k_zip2, k_zip, k_seqw, s_asg, s_par22, s_par2, s_aug3, s_aug2, s_aug, s_put3, s_put2, s_put, s_ex, s_ret, s_iff, s_opt, s_unl, s_hO, s_par3, s_for, ixN, liftF, bindT, bindT.bindTs, calmP, qt, isFrz, frzL, canFrz, canL, freeze, freezeL, avDs, avD, avOk, avRoots, Av.isVar, giveA, setE, getE, getS, setS, binD, slD, cmpD, b1D, b2D, trD, ixD, start, behind, parOk, asgS, asgT, callN_has, G_has, f2Ok, items, walkD, walkP, unlend, sizeLine_eq, evh, evhs, putF, itmF, mmD, isLst, partD, par3F, noExc, ownOk, wipeE, backE, Pl.root, e1, e2, hlt]
    · rw [firstQ, if_neg hlt] at h
      cases h
      refine ⟨some (.int ((i : Nat) : Int)), ?_⟩
      rw [forL]
      generalize ((i + 1 : Nat) : Rat) / (L.length : Rat) = v at e1 e2 hlt
      simp [s_step, s_opt, bind_ok, bind_exc, fl_ok, fl_exc, use_none, use_some, use_exc, tmp_ok, tru_ok, tru_exc, liftO_some, slot_0, slot_s, ev_v, ev_fz, ev_mv, ev_g, ev_int, ev_str, ev_bl, ev_non, ev_nop, ev_ix, ev_fld, ev_sl, ev_bin, ev_neg, ev_not, ev_cmp, ev_chain, ev_and, ev_or, ev_itE, ev_tup, ev_lst, ev_call, ev_b1, ev_b2, ev_isi, ev_mm, ev_comp, evs_nIl, evs_cons, eva_nil, eva_cons, evw_rng1, evw_rng2, evw_enm, evw_zip, evw_seq, then_nx, then_ret, then_brk, then_ct, then_exc, env_nx, env_ret, evS_nil, evS_cons, blk_def, evS_asg, evS_par2, evS_par3, evS_aug, evS_puT, evS_ex, evS_ret, evS_retN, evS_iff, evS_whl, evS_foR, evS_brk, evS_cont, evS_pass, evS_raise, evS_try, endC_nx, endC_ret, endC_exc, raise_t, hnd_exc, hnd_nx, hnd_ret, sub_has, isi_bool_non, isi_bool_bl, isi_bool_int, isi_bool_str, isi_bool_tup, isi_bool_lst, isi_int_non, isi_int_bl, isi_int_int, isi_int_str, isi_int_tup, isi_int_lst, isi_str_non, isi_str_bl, isi_str_int, isi_str_str, isi_str_tup, isi_str_lst, isi_tuple_non, isi_tuple_bl, isi_tuple_int, isi_tuple_str, isi_tuple_tup, isi_tuple_lst, isi_list_non, isi_list_bl, isi_list_int, isi_list_str, isi_list_tup, isi_list_lst, evw_rng3, eqO_ii, eqO_bb, eqO_ss, eqO_nn, flat_int, flat_str, flat_bl, flat_non, k_v, k_fz, k_mv, k_g, stpO, k_ix3, k_ix2, k_ix, k_fld2, k_fld, k_sl3, k_sl2, k_sl, k_bin2, k_bin, k_neg, bO, k_not, k_cmp2, k_cmp, k_ch4, k_ch3, k_ch2, k_ch, k_and2, k_and, k_or2, k_or, k_ite2, k_ite, k_tup, k_lst, k_ret, k_call2, k_call3, k_call, k_b1, k_b22, k_b2, k_isi, k_mm3, k_mm2, k_mm, cB, cT, cE, cW, k_comp2, k_comp, k_evs2, k_evs, k_eva2, k_eva, k_rng22, k_rng2, k_rng32, k_rng3, k_enm2, k_enm, k_zip4, k_zip3, k_zip2, k_zip, k_seqw, s_asg, s_par22, s_par2, s_aug3, s_aug2, s_aug, s_put3, s_put2, s_put, s_ex, s_ret, s_iff, s_opt, s_unl, s_hO, s_par3, s_for, ixN, liftF, bindT, bindT.bindTs, calmP, qt, isFrz, frzL, canFrz, canL, freeze, freezeL, avDs, avD, avOk, avRoots, Av.isVar, giveA, setE, getE, getS, setS, binD, slD, cmpD, b1D, b2D, trD, ixD, start, behind, parOk, asgS, asgT, callN_has, G_has, f2Ok, items, walkD, walkP, unlend, sizeLine_eq, evh, evhs, putF, itmF, mmD, isLst, partD, par3F, noExc, ownOk, wipeE, backE, Pl.root, e1, e2, hlt]
theorem t_quantile [HasG P "ZERO" (fr (0, 1))] [Has P "need_some" fd_need_some] [Has P "in_order" fd_in_order] [Has P "ascending" fd_ascending] {L : List Rat} {o : Ow} (ho : Ow.ok o) (hL : ∀ x ∈ L, Q 45 (pr x)) (hn : L.length ≤ 900) (h0 : L.length ≠ 0) {sh : Rat} (hsh : Q 45 (pr sh)) (s0 : 0 ≤ sh) (s1 : sh ≤ 1) {x : Rat} (hx : firstQ sh L.length 0 (upR L) = some x) :
    run P (n + 3) fd_quantile [.lst o (L.map rt), rt sh] = .ok (rt x) [.lst .frz (L.map rt), rt sh] := by
  have e0 := s_need (P := P) (n := n + 2) (o := o) (xs := L.map rt) (by simpa using h0)
  have e1 := t_asc (P := P) (n := n) ho hL hn
  have z0 : rt 0 = fr (0, 1) := rt_int 0
  have f2 := t_fraction (P := P) (n := n + 2) (t := 1) (b := 1) (by decide) (by decide)
  have f3 : ((1 : Int) : Rat) / ((1 : Int) : Rat) = 1 := by grind
  rw [f3] at f2
  have q0 : Q 45 (pr 0) := (Z.nat 0).q (by decide) (by decide) (by decide)
  have q1 : Q 45 (pr 1) := (Z.nat 1).q (by decide) (by decide) (by decide)
  have l0 := t_less (P := P) (n := n + 2) (by decide) (by decide) hsh q0
  have l1 := t_less (P := P) (n := n + 2) (by decide) (by decide) q1 hsh
  have d0 : ¬ sh < 0 := Rat.not_lt.mpr s0
  have d1 : ¬ 1 < sh := Rat.not_lt.mpr s1
  rw [z0] at l0
  obtain ⟨o2', e3⟩ := quant_loop (P := P) (n := n + 2) (L := L) hsh hn h0 (upR L) 0 none none x (by have := (upR_all L).2.2; omega) hx
  rw [run_def rfl]
  rcases ho with rfl | rfl
  · simp [fd_quantile, b_quantile, bind_ok, bind_exc, fl_ok, fl_exc, use_none, use_some, use_exc, tmp_ok, tru_ok, tru_exc, liftO_some, slot_0, slot_s, ev_v, ev_fz, ev_mv, ev_g, ev_int, ev_str, ev_bl, ev_non, ev_nop, ev_ix, ev_fld, ev_sl, ev_bin, ev_neg, ev_not, ev_cmp, ev_chain, ev_and, ev_or, ev_itE, ev_tup, ev_lst, ev_call, ev_b1, ev_b2, ev_isi, ev_mm, ev_comp, evs_nIl, evs_cons, eva_nil, eva_cons, evw_rng1, evw_rng2, evw_enm, evw_zip, evw_seq, then_nx, then_ret, then_brk, then_ct, then_exc, env_nx, env_ret, evS_nil, evS_cons, blk_def, evS_asg, evS_par2, evS_par3, evS_aug, evS_puT, evS_ex, evS_ret, evS_retN, evS_iff, evS_whl, evS_foR, evS_brk, evS_cont, evS_pass, evS_raise, evS_try, endC_nx, endC_ret, endC_exc, raise_t, hnd_exc, hnd_nx, hnd_ret, sub_has, isi_bool_non, isi_bool_bl, isi_bool_int, isi_bool_str, isi_bool_tup, isi_bool_lst, isi_int_non, isi_int_bl, isi_int_int, isi_int_str, isi_int_tup, isi_int_lst, isi_str_non, isi_str_bl, isi_str_int, isi_str_str, isi_str_tup, isi_str_lst, isi_tuple_non, isi_tuple_bl, isi_tuple_int, isi_tuple_str, isi_tuple_tup, isi_tuple_lst, isi_list_non, isi_list_bl, isi_list_int, isi_list_str, isi_list_tup, isi_list_lst, evw_rng3, eqO_ii, eqO_bb, eqO_ss, eqO_nn, flat_int, flat_str, flat_bl, flat_non, k_v, k_fz, k_mv, k_g, stpO, k_ix3, k_ix2, k_ix, k_fld2, k_fld, k_sl3, k_sl2, k_sl, k_bin2, k_bin, k_neg, bO, k_not, k_cmp2, k_cmp, k_ch4, k_ch3, k_ch2, k_ch, k_and2, k_and, k_or2, k_or, k_ite2, k_ite, k_tup, k_lst, k_ret, k_call2, k_call3, k_call, k_b1, k_b22, k_b2, k_isi, k_mm3, k_mm2, k_mm, cB, cT, cE, cW, k_comp2, k_comp, k_evs2, k_evs, k_eva2, k_eva, k_rng22, k_rng2, k_rng32, k_rng3, k_enm2, k_enm, k_zip4, k_zip3, k_zip2, k_zip, k_seqw, s_asg, s_par22, s_par2, s_aug3, s_aug2, s_aug, s_put3, s_put2, s_put, s_ex, s_ret, s_iff, s_opt, s_unl, s_hO, s_par3, s_for, ixN, liftF, bindT, bindT.bindTs, calmP, qt, isFrz, frzL, canFrz, canL, freeze, freezeL, avDs, avD, avOk, avRoots, Av.isVar, giveA, setE, getE, getS, setS, binD, slD, cmpD, b1D, b2D, trD, ixD, start, behind, parOk, asgS, asgT, callN_has, G_has, f2Ok, items, walkD, walkP, unlend, sizeLine_eq, evh, evhs, putF, itmF, mmD, isLst, partD, par3F, noExc, ownOk, wipeE, backE, Pl.root, e0, e1, l0, l1, f2, d0, d1, enum_rt, e3, isTupD]
  · simp [fd_quantile, b_quantile, bind_ok, bind_exc, fl_ok, fl_exc, use_none, use_some, use_exc, tmp_ok, tru_ok, tru_exc, liftO_some, slot_0, slot_s, ev_v, ev_fz, ev_mv, ev_g, ev_int, ev_str, ev_bl, ev_non, ev_nop, ev_ix, ev_fld, ev_sl, ev_bin, ev_neg, ev_not, ev_cmp, ev_chain, ev_and, ev_or, ev_itE, ev_tup, ev_lst, ev_call, ev_b1, ev_b2, ev_isi, ev_mm, ev_comp, evs_nIl, evs_cons, eva_nil, eva_cons, evw_rng1, evw_rng2, evw_enm, evw_zip, evw_seq, then_nx, then_ret, then_brk, then_ct, then_exc, env_nx, env_ret, evS_nil, evS_cons, blk_def, evS_asg, evS_par2, evS_par3, evS_aug, evS_puT, evS_ex, evS_ret, evS_retN, evS_iff, evS_whl, evS_foR, evS_brk, evS_cont, evS_pass, evS_raise, evS_try, endC_nx, endC_ret, endC_exc, raise_t, hnd_exc, hnd_nx, hnd_ret, sub_has, isi_bool_non, isi_bool_bl, isi_bool_int, isi_bool_str, isi_bool_tup, isi_bool_lst, isi_int_non, isi_int_bl, isi_int_int, isi_int_str, isi_int_tup, isi_int_lst, isi_str_non, isi_str_bl, isi_str_int, isi_str_str, isi_str_tup, isi_str_lst, isi_tuple_non, isi_tuple_bl, isi_tuple_int, isi_tuple_str, isi_tuple_tup, isi_tuple_lst, isi_list_non, isi_list_bl, isi_list_int, isi_list_str, isi_list_tup, isi_list_lst, evw_rng3, eqO_ii, eqO_bb, eqO_ss, eqO_nn, flat_int, flat_str, flat_bl, flat_non, k_v, k_fz, k_mv, k_g, stpO, k_ix3, k_ix2, k_ix, k_fld2, k_fld, k_sl3, k_sl2, k_sl, k_bin2, k_bin, k_neg, bO, k_not, k_cmp2, k_cmp, k_ch4, k_ch3, k_ch2, k_ch, k_and2, k_and, k_or2, k_or, k_ite2, k_ite, k_tup, k_lst, k_ret, k_call2, k_call3, k_call, k_b1, k_b22, k_b2, k_isi, k_mm3, k_mm2, k_mm, cB, cT, cE, cW, k_comp2, k_comp, k_evs2, k_evs, k_eva2, k_eva, k_rng22, k_rng2, k_rng32, k_rng3, k_enm2, k_enm, k_zip4, k_zip3, k_zip2, k_zip, k_seqw, s_asg, s_par22, s_par2, s_aug3, s_aug2, s_aug, s_put3, s_put2, s_put, s_ex, s_ret, s_iff, s_opt, s_unl, s_hO, s_par3, s_for, ixN, liftF, bindT, bindT.bindTs, calmP, qt, isFrz, frzL, canFrz, canL, freeze, freezeL, avDs, avD, avOk, avRoots, Av.isVar, giveA, setE, getE, getS, setS, binD, slD, cmpD, b1D, b2D, trD, ixD, start, behind, parOk, asgS, asgT, callN_has, G_has, f2Ok, items, walkD, walkP, unlend, sizeLine_eq, evh, evhs, putF, itmF, mmD, isLst, partD, par3F, noExc, ownOk, wipeE, backE, Pl.root, e0, e1, l0, l1, f2, d0, d1, enum_rt, e3, isTupD]
theorem t_quantile_bad [HasG P "ZERO" (fr (0, 1))] [HasG P (excKey "BadNumber") (.bl true)] [Has P "need_some" fd_need_some] {L : List Rat} {o : Ow} (h0 : L.length ≠ 0) {sh : Rat} (hsh : Q 45 (pr sh)) (hb : sh < 0 ∨ 1 < sh) :
    run P (n + 3) fd_quantile [.lst o (L.map rt), rt sh] = .exc ⟨"BadNumber", []⟩ [.lst o (L.map rt), rt sh] := by
  have e0 := s_need (P := P) (n := n + 2) (o := o) (xs := L.map rt) (by simpa using h0)
  have z0 : rt 0 = fr (0, 1) := rt_int 0
  have f2 := t_fraction (P := P) (n := n + 2) (t := 1) (b := 1) (by decide) (by decide)
  have f3 : ((1 : Int) : Rat) / ((1 : Int) : Rat) = 1 := by grind
  rw [f3] at f2
  have q0 : Q 45 (pr 0) := (Z.nat 0).q (by decide) (by decide) (by decide)
  have q1 : Q 45 (pr 1) := (Z.nat 1).q (by decide) (by decide) (by decide)
  have l0 := t_less (P := P) (n := n + 2) (by decide) (by decide) hsh q0
  have l1 := t_less (P := P) (n := n + 2) (by decide) (by decide) q1 hsh
  rw [z0] at l0
  rw [run_def rfl]
  by_cases h2 : sh < 0
  · by_cases ho : o = .frz
    · subst ho; simp [fd_quantile, b_quantile, bind_ok, bind_exc, fl_ok, fl_exc, use_none, use_some, use_exc, tmp_ok, tru_ok, tru_exc, liftO_some, slot_0, slot_s, ev_v, ev_fz, ev_mv, ev_g, ev_int, ev_str, ev_bl, ev_non, ev_nop, ev_ix, ev_fld, ev_sl, ev_bin, ev_neg, ev_not, ev_cmp, ev_chain, ev_and, ev_or, ev_itE, ev_tup, ev_lst, ev_call, ev_b1, ev_b2, ev_isi, ev_mm, ev_comp, evs_nIl, evs_cons, eva_nil, eva_cons, evw_rng1, evw_rng2, evw_enm, evw_zip, evw_seq, then_nx, then_ret, then_brk, then_ct, then_exc, env_nx, env_ret, evS_nil, evS_cons, blk_def, evS_asg, evS_par2, evS_par3, evS_aug, evS_puT, evS_ex, evS_ret, evS_retN, evS_iff, evS_whl, evS_foR, evS_brk, evS_cont, evS_pass, evS_raise, evS_try, endC_nx, endC_ret, endC_exc, raise_t, hnd_exc, hnd_nx, hnd_ret, sub_has, isi_bool_non, isi_bool_bl, isi_bool_int, isi_bool_str, isi_bool_tup, isi_bool_lst, isi_int_non, isi_int_bl, isi_int_int, isi_int_str, isi_int_tup, isi_int_lst, isi_str_non, isi_str_bl, isi_str_int, isi_str_str, isi_str_tup, isi_str_lst, isi_tuple_non, isi_tuple_bl, isi_tuple_int, isi_tuple_str, isi_tuple_tup, isi_tuple_lst, isi_list_non, isi_list_bl, isi_list_int, isi_list_str, isi_list_tup, isi_list_lst, evw_rng3, eqO_ii, eqO_bb, eqO_ss, eqO_nn, flat_int, flat_str, flat_bl, flat_non, k_v, k_fz, k_mv, k_g, stpO, k_ix3, k_ix2, k_ix, k_fld2, k_fld, k_sl3, k_sl2, k_sl, k_bin2, k_bin, k_neg, bO, k_not, k_cmp2, k_cmp, k_ch4, k_ch3, k_ch2, k_ch, k_and2, k_and, k_or2, k_or, k_ite2, k_ite, k_tup, k_lst, k_ret, k_call2, k_call3, k_call, k_b1, k_b22, k_b2, k_isi, k_mm3, k_mm2, k_mm, cB, cT, cE, cW, k_comp2, k_comp, k_evs2, k_evs, k_eva2, k_eva, k_rng22, k_rng2, k_rng32, k_rng3, k_enm2, k_enm, k_zip4, k_zip3, k_zip2, k_zip, k_seqw, s_asg, s_par22, s_par2, s_aug3, s_aug2, s_aug, s_put3, s_put2, s_put, s_ex, s_ret, s_iff, s_opt, s_unl, s_hO, s_par3, s_for, ixN, liftF, bindT, bindT.bindTs, calmP, qt, isFrz, frzL, canFrz, canL, freeze, freezeL, avDs, avD, avOk, avRoots, Av.isVar, giveA, setE, getE, getS, setS, binD, slD, cmpD, b1D, b2D, trD, ixD, start, behind, parOk, asgS, asgT, callN_has, G_has, f2Ok, items, walkD, walkP, unlend, sizeLine_eq, evh, evhs, putF, itmF, mmD, isLst, partD, par3F, noExc, ownOk, wipeE, backE, Pl.root, e0, l0, l1, f2, h2]
    · simp [fd_quantile, b_quantile, bind_ok, bind_exc, fl_ok, fl_exc, use_none, use_some, use_exc, tmp_ok, tru_ok, tru_exc, liftO_some, slot_0, slot_s, ev_v, ev_fz, ev_mv, ev_g, ev_int, ev_str, ev_bl, ev_non, ev_nop, ev_ix, ev_fld, ev_sl, ev_bin, ev_neg, ev_not, ev_cmp, ev_chain, ev_and, ev_or, ev_itE, ev_tup, ev_lst, ev_call, ev_b1, ev_b2, ev_isi, ev_mm, ev_comp, evs_nIl, evs_cons, eva_nil, eva_cons, evw_rng1, evw_rng2, evw_enm, evw_zip, evw_seq, then_nx, then_ret, then_brk, then_ct, then_exc, env_nx, env_ret, evS_nil, evS_cons, blk_def, evS_asg, evS_par2, evS_par3, evS_aug, evS_puT, evS_ex, evS_ret, evS_retN, evS_iff, evS_whl, evS_foR, evS_brk, evS_cont, evS_pass, evS_raise, evS_try, endC_nx, endC_ret, endC_exc, raise_t, hnd_exc, hnd_nx, hnd_ret, sub_has, isi_bool_non, isi_bool_bl, isi_bool_int, isi_bool_str, isi_bool_tup, isi_bool_lst, isi_int_non, isi_int_bl, isi_int_int, isi_int_str, isi_int_tup, isi_int_lst, isi_str_non, isi_str_bl, isi_str_int, isi_str_str, isi_str_tup, isi_str_lst, isi_tuple_non, isi_tuple_bl, isi_tuple_int, isi_tuple_str, isi_tuple_tup, isi_tuple_lst, isi_list_non, isi_list_bl, isi_list_int, isi_list_str, isi_list_tup, isi_list_lst, evw_rng3, eqO_ii, eqO_bb, eqO_ss, eqO_nn, flat_int, flat_str, flat_bl, flat_non, k_v, k_fz, k_mv, k_g, stpO, k_ix3, k_ix2, k_ix, k_fld2, k_fld, k_sl3, k_sl2, k_sl, k_bin2, k_bin, k_neg, bO, k_not, k_cmp2, k_cmp, k_ch4, k_ch3, k_ch2, k_ch, k_and2, k_and, k_or2, k_or, k_ite2, k_ite, k_tup, k_lst, k_ret, k_call2, k_call3, k_call, k_b1, k_b22, k_b2, k_isi, k_mm3, k_mm2, k_mm, cB, cT, cE, cW, k_comp2, k_comp, k_evs2, k_evs, k_eva2, k_eva, k_rng22, k_rng2, k_rng32, k_rng3, k_enm2, k_enm, k_zip4, k_zip3, k_zip2, k_zip, k_seqw, s_asg, s_par22, s_par2, s_aug3, s_aug2, s_aug, s_put3, s_put2, s_put, s_ex, s_ret, s_iff, s_opt, s_unl, s_hO, s_par3, s_for, ixN, liftF, bindT, bindT.bindTs, calmP, qt, isFrz, frzL, canFrz, canL, freeze, freezeL, avDs, avD, avOk, avRoots, Av.isVar, giveA, setE, getE, getS, setS, binD, slD, cmpD, b1D, b2D, trD, ixD, start, behind, parOk, asgS, asgT, callN_has, G_has, f2Ok, items, walkD, walkP, unlend, sizeLine_eq, evh, evhs, putF, itmF, mmD, isLst, partD, par3F, noExc, ownOk, wipeE, backE, Pl.root, e0, l0, l1, f2, h2, ho]
  · have h3 := hb.resolve_left h2
    by_cases ho : o = .frz
    · subst ho; simp [fd_quantile, b_quantile, bind_ok, bind_exc, fl_ok, fl_exc, use_none, use_some, use_exc, tmp_ok, tru_ok, tru_exc, liftO_some, slot_0, slot_s, ev_v, ev_fz, ev_mv, ev_g, ev_int, ev_str, ev_bl, ev_non, ev_nop, ev_ix, ev_fld, ev_sl, ev_bin, ev_neg, ev_not, ev_cmp, ev_chain, ev_and, ev_or, ev_itE, ev_tup, ev_lst, ev_call, ev_b1, ev_b2, ev_isi, ev_mm, ev_comp, evs_nIl, evs_cons, eva_nil, eva_cons, evw_rng1, evw_rng2, evw_enm, evw_zip, evw_seq, then_nx, then_ret, then_brk, then_ct, then_exc, env_nx, env_ret, evS_nil, evS_cons, blk_def, evS_asg, evS_par2, evS_par3, evS_aug, evS_puT, evS_ex, evS_ret, evS_retN, evS_iff, evS_whl, evS_foR, evS_brk, evS_cont, evS_pass, evS_raise, evS_try, endC_nx, endC_ret, endC_exc, raise_t, hnd_exc, hnd_nx, hnd_ret, sub_has, isi_bool_non, isi_bool_bl, isi_bool_int, isi_bool_str, isi_bool_tup, isi_bool_lst, isi_int_non, isi_int_bl, isi_int_int, isi_int_str, isi_int_tup, isi_int_lst, isi_str_non, isi_str_bl, isi_str_int, isi_str_str, isi_str_tup, isi_str_lst, isi_tuple_non, isi_tuple_bl, isi_tuple_int, isi_tuple_str, isi_tuple_tup, isi_tuple_lst, isi_list_non, isi_list_bl, isi_list_int, isi_list_str, isi_list_tup, isi_list_lst, evw_rng3, eqO_ii, eqO_bb, eqO_ss, eqO_nn, flat_int, flat_str, flat_bl, flat_non, k_v, k_fz, k_mv, k_g, stpO, k_ix3, k_ix2, k_ix, k_fld2, k_fld, k_sl3, k_sl2, k_sl, k_bin2, k_bin, k_neg, bO, k_not, k_cmp2, k_cmp, k_ch4, k_ch3, k_ch2, k_ch, k_and2, k_and, k_or2, k_or, k_ite2, k_ite, k_tup, k_lst, k_ret, k_call2, k_call3, k_call, k_b1, k_b22, k_b2, k_isi, k_mm3, k_mm2, k_mm, cB, cT, cE, cW, k_comp2, k_comp, k_evs2, k_evs, k_eva2, k_eva, k_rng22, k_rng2, k_rng32, k_rng3, k_enm2, k_enm, k_zip4, k_zip3, k_zip2, k_zip, k_seqw, s_asg, s_par22, s_par2, s_aug3, s_aug2, s_aug, s_put3, s_put2, s_put, s_ex, s_ret, s_iff, s_opt, s_unl, s_hO, s_par3, s_for, ixN, liftF, bindT, bindT.bindTs, calmP, qt, isFrz, frzL, canFrz, canL, freeze, freezeL, avDs, avD, avOk, avRoots, Av.isVar, giveA, setE, getE, getS, setS, binD, slD, cmpD, b1D, b2D, trD, ixD, start, behind, parOk, asgS, asgT, callN_has, G_has, f2Ok, items, walkD, walkP, unlend, sizeLine_eq, evh, evhs, putF, itmF, mmD, isLst, partD, par3F, noExc, ownOk, wipeE, backE, Pl.root, e0, l0, l1, f2, h2, h3]
    · simp [fd_quantile, b_quantile, bind_ok, bind_exc, fl_ok, fl_exc, use_none, use_some, use_exc, tmp_ok, tru_ok, tru_exc, liftO_some, slot_0, slot_s, ev_v, ev_fz, ev_mv, ev_g, ev_int, ev_str, ev_bl, ev_non, ev_nop, ev_ix, ev_fld, ev_sl, ev_bin, ev_neg, ev_not, ev_cmp, ev_chain, ev_and, ev_or, ev_itE, ev_tup, ev_lst, ev_call, ev_b1, ev_b2, ev_isi, ev_mm, ev_comp, evs_nIl, evs_cons, eva_nil, eva_cons, evw_rng1, evw_rng2, evw_enm, evw_zip, evw_seq, then_nx, then_ret, then_brk, then_ct, then_exc, env_nx, env_ret, evS_nil, evS_cons, blk_def, evS_asg, evS_par2, evS_par3, evS_aug, evS_puT, evS_ex, evS_ret, evS_retN, evS_iff, evS_whl, evS_foR, evS_brk, evS_cont, evS_pass, evS_raise, evS_try, endC_nx, endC_ret, endC_exc, raise_t, hnd_exc, hnd_nx, hnd_ret, sub_has, isi_bool_non, isi_bool_bl, isi_bool_int, isi_bool_str, isi_bool_tup, isi_bool_lst, isi_int_non, isi_int_bl, isi_int_int, isi_int_str, isi_int_tup, isi_int_lst, isi_str_non, isi_str_bl, isi_str_int, isi_str_str, isi_str_tup, isi_str_lst, isi_tuple_non, isi_tuple_bl, isi_tuple_int, isi_tuple_str, isi_tuple_tup, isi_tuple_lst, isi_list_non, isi_list_bl, isi_list_int, isi_list_str, isi_list_tup, isi_list_lst, evw_rng3, eqO_ii, eqO_bb, eqO_ss, eqO_nn, flat_int, flat_str, flat_bl, flat_non, k_v, k_fz, k_mv, k_g, stpO, k_ix3, k_ix2, k_ix, k_fld2, k_fld, k_sl3, k_sl2, k_sl, k_bin2, k_bin, k_neg, bO, k_not, k_cmp2, k_cmp, k_ch4, k_ch3, k_ch2, k_ch, k_and2, k_and, k_or2, k_or, k_ite2, k_ite, k_tup, k_lst, k_ret, k_call2, k_call3, k_call, k_b1, k_b22, k_b2, k_isi, k_mm3, k_mm2, k_mm, cB, cT, cE, cW, k_comp2, k_comp, k_evs2, k_evs, k_eva2, k_eva, k_rng22, k_rng2, k_rng32, k_rng3, k_enm2, k_enm, k_zip4, k_zip3, k_zip2, k_zip, k_seqw, s_asg, s_par22, s_par2, s_aug3, s_aug2, s_aug, s_put3, s_put2, s_put, s_ex, s_ret, s_iff, s_opt, s_unl, s_hO, s_par3, s_for, ixN, liftF, bindT, bindT.bindTs, calmP, qt, isFrz, frzL, canFrz, canL, freeze, freezeL, avDs, avD, avOk, avRoots, Av.isVar, giveA, setE, getE, getS, setS, binD, slD, cmpD, b1D, b2D, trD, ixD, start, behind, parOk, asgS, asgT, callN_has, G_has, f2Ok, items, walkD, walkP, unlend, sizeLine_eq, evh, evhs, putF, itmF, mmD, isLst, partD, par3F, noExc, ownOk, wipeE, backE, Pl.root, e0, l0, l1, f2, h2, h3, ho]
theorem t_quantile_none [HasG P (excKey "BadNumber") (.bl true)] [Has P "need_some" fd_need_some] {o : Ow} {d : D} :
    run P (n + 1) fd_quantile [.lst o [], d] = .exc ⟨"BadNumber", []⟩ [.lst o [], d] := by
  have e0 := s_need0 (P := P) (n := n) (o := o)
  rw [run_def rfl]
  by_cases ho : o = .frz
  · subst ho; simp [fd_quantile, b_quantile, bind_ok, bind_exc, fl_ok, fl_exc, use_none, use_some, use_exc, tmp_ok, tru_ok, tru_exc, liftO_some, slot_0, slot_s, ev_v, ev_fz, ev_mv, ev_g, ev_int, ev_str, ev_bl, ev_non, ev_nop, ev_ix, ev_fld, ev_sl, ev_bin, ev_neg, ev_not, ev_cmp, ev_chain, ev_and, ev_or, ev_itE, ev_tup, ev_lst, ev_call, ev_b1, ev_b2, ev_isi, ev_mm, ev_comp, evs_nIl, evs_cons, eva_nil, eva_cons, evw_rng1, evw_rng2, evw_enm, evw_zip, evw_seq, then_nx, then_ret, then_brk, then_ct, then_exc, env_nx, env_ret, evS_nil, evS_cons, blk_def, evS_asg, evS_par2, evS_par3, evS_aug, evS_puT, evS_ex, evS_ret, evS_retN, evS_iff, evS_whl, evS_foR, evS_brk, evS_cont, evS_pass, evS_raise, evS_try, endC_nx, endC_ret, endC_exc, raise_t, hnd_exc, hnd_nx, hnd_ret, sub_has, isi_bool_non, isi_bool_bl, isi_bool_int, isi_bool_str, isi_bool_tup, isi_bool_lst, isi_int_non, isi_int_bl, isi_int_int, isi_int_str, isi_int_tup, isi_int_lst, isi_str_non, isi_str_bl, isi_str_int, isi_str_str, isi_str_tup, isi_str_lst, isi_tuple_non, isi_tuple_bl, isi_tuple_int, isi_tuple_str, isi_tuple_tup, isi_tuple_lst, isi_list_non, isi_list_bl, isi_list_int, isi_list_str, isi_list_tup, isi_list_lst, evw_rng3, eqO_ii, eqO_bb, eqO_ss, eqO_nn, flat_int, flat_str, flat_bl, flat_non, k_v, k_fz, k_mv, k_g, stpO, k_ix3, k_ix2, k_ix, k_fld2, k_fld, k_sl3, k_sl2, k_sl, k_bin2, k_bin, k_neg, bO, k_not, k_cmp2, k_cmp, k_ch4, k_ch3, k_ch2, k_ch, k_and2, k_and, k_or2, k_or, k_ite2, k_ite, k_tup, k_lst, k_ret, k_call2, k_call3, k_call, k_b1, k_b22, k_b2, k_isi, k_mm3, k_mm2, k_mm, cB, cT, cE, cW, k_comp2, k_comp, k_evs2, k_evs, k_eva2, k_eva, k_rng22, k_rng2, k_rng32, k_rng3, k_enm2, k_enm, k_zip4, k_zip3, k_zip2, k_zip, k_seqw, s_asg, s_par22, s_par2, s_aug3, s_aug2, s_aug, s_put3, s_put2, s_put, s_ex, s_ret, s_iff, s_opt, s_unl, s_hO, s_par3, s_for, ixN, liftF, bindT, bindT.bindTs, calmP, qt, isFrz, frzL, canFrz, canL, freeze, freezeL, avDs, avD, avOk, avRoots, Av.isVar, giveA, setE, getE, getS, setS, binD, slD, cmpD, b1D, b2D, trD, ixD, start, behind, parOk, asgS, asgT, callN_has, G_has, f2Ok, items, walkD, walkP, unlend, sizeLine_eq, evh, evhs, putF, itmF, mmD, isLst, partD, par3F, noExc, ownOk, wipeE, backE, Pl.root, e0]
  · simp [fd_quantile, b_quantile, bind_ok, bind_exc, fl_ok, fl_exc, use_none, use_some, use_exc, tmp_ok, tru_ok, tru_exc, liftO_some, slot_0, slot_s, ev_v, ev_fz, ev_mv, ev_g, ev_int, ev_str, ev_bl, ev_non, ev_nop, ev_ix, ev_fld, ev_sl, ev_bin, ev_neg, ev_not, ev_cmp, ev_chain, ev_and, ev_or, ev_itE, ev_tup, ev_lst, ev_call, ev_b1, ev_b2, ev_isi, ev_mm, ev_comp, evs_nIl, evs_cons, eva_nil, eva_cons, evw_rng1, evw_rng2, evw_enm, evw_zip, evw_seq, then_nx, then_ret, then_brk, then_ct, then_exc, env_nx, env_ret, evS_nil, evS_cons, blk_def, evS_asg, evS_par2, evS_par3, evS_aug, evS_puT, evS_ex, evS_ret, evS_retN, evS_iff, evS_whl, evS_foR, evS_brk, evS_cont, evS_pass, evS_raise, evS_try, endC_nx, endC_ret, endC_exc, raise_t, hnd_exc, hnd_nx, hnd_ret, sub_has, isi_bool_non, isi_bool_bl, isi_bool_int, isi_bool_str, isi_bool_tup, isi_bool_lst, isi_int_non, isi_int_bl, isi_int_int, isi_int_str, isi_int_tup, isi_int_lst, isi_str_non, isi_str_bl, isi_str_int, isi_str_str, isi_str_tup, isi_str_lst, isi_tuple_non, isi_tuple_bl, isi_tuple_int, isi_tuple_str, isi_tuple_tup, isi_tuple_lst, isi_list_non, isi_list_bl, isi_list_int, isi_list_str, isi_list_tup, isi_list_lst, evw_rng3, eqO_ii, eqO_bb, eqO_ss, eqO_nn, flat_int, flat_str, flat_bl, flat_non, k_v, k_fz, k_mv, k_g, stpO, k_ix3, k_ix2, k_ix, k_fld2, k_fld, k_sl3, k_sl2, k_sl, k_bin2, k_bin, k_neg, bO, k_not, k_cmp2, k_cmp, k_ch4, k_ch3, k_ch2, k_ch, k_and2, k_and, k_or2, k_or, k_ite2, k_ite, k_tup, k_lst, k_ret, k_call2, k_call3, k_call, k_b1, k_b22, k_b2, k_isi, k_mm3, k_mm2, k_mm, cB, cT, cE, cW, k_comp2, k_comp, k_evs2, k_evs, k_eva2, k_eva, k_rng22, k_rng2, k_rng32, k_rng3, k_enm2, k_enm, k_zip4, k_zip3, k_zip2, k_zip, k_seqw, s_asg, s_par22, s_par2, s_aug3, s_aug2, s_aug, s_put3, s_put2, s_put, s_ex, s_ret, s_iff, s_opt, s_unl, s_hO, s_par3, s_for, ixN, liftF, bindT, bindT.bindTs, calmP, qt, isFrz, frzL, canFrz, canL, freeze, freezeL, avDs, avD, avOk, avRoots, Av.isVar, giveA, setE, getE, getS, setS, binD, slD, cmpD, b1D, b2D, trD, ixD, start, behind, parOk, asgS, asgT, callN_has, G_has, f2Ok, items, walkD, walkP, unlend, sizeLine_eq, evh, evhs, putF, itmF, mmD, isLst, partD, par3F, noExc, ownOk, wipeE, backE, Pl.root, e0, ho]
end
/-! ### the plain fact of quantiles -/
theorem firstQ_spec {sh : Rat} {m : Nat} : ∀ (r : List Rat) (i : Nat), (∃ k, k < r.length ∧ ¬ (((i + k + 1 : Nat) : Rat) / (m : Rat) < sh)) →
    ∃ k, ∃ hk : k < r.length, firstQ sh m i r = some r[k] ∧ ¬ (((i + k + 1 : Nat) : Rat) / (m : Rat) < sh) ∧ ∀ j < k, ((i + j + 1 : Nat) : Rat) / (m : Rat) < sh
  | [], i, ⟨k, h, _⟩ => by simp at h
  | x :: r, i, ⟨k, hk, h⟩ => by
    by_cases hc : ((i + 1 : Nat) : Rat) / (m : Rat) < sh
    · have hk0 : k ≠ 0 := by rintro rfl; exact h hc
      have e : i + k + 1 = (i + 1) + (k - 1) + 1 := by omega
      rw [List.length_cons] at hk
      obtain ⟨k', hk', e1, e2, e3⟩ := firstQ_spec r (i + 1) ⟨k - 1, by omega, by rw [← e]; exact h⟩
      refine ⟨k' + 1, by rw [List.length_cons]; omega, ?_, ?_, ?_⟩
      · rw [firstQ, if_pos hc, e1]; rfl
      · rw [show i + (k' + 1) + 1 = i + 1 + k' + 1 by omega]; exact e2
      · intro j hj
        rcases Nat.eq_zero_or_pos j with rfl | h0
        · exact hc
        · have := e3 (j - 1) (by omega)
          rw [show i + 1 + (j - 1) + 1 = i + j + 1 by omega] at this
          exact this
    · exact ⟨0, by simp, by rw [firstQ, if_neg hc]; rfl, hc, fun j hj => by omega⟩
theorem cnt_perm {L s : List Rat} (h : s.Perm L) (a : Rat) : upkR a L = upkR a s := (h.filter _).length_eq.symm
theorem cnt_ge {s : List Rat} (hs : s.Pairwise (· ≤ ·)) {i : Nat} (hi : i < s.length) : i + 1 ≤ upkR s[i] s := by
  unfold upkR
  have h1 : ((s.take (i + 1)).filter fun b => !decide (s[i] < b)) = s.take (i + 1) := by
    rw [List.filter_eq_self]
    intro x hx
    obtain ⟨j, hj, e⟩ := List.getElem_of_mem hx
    rw [List.length_take] at hj
    rw [List.getElem_take] at e
    subst e
    have : s[j] ≤ s[i] := by
      rcases Nat.lt_or_ge j i with h | h
      · exact List.pairwise_iff_getElem.mp hs j i (by omega) hi h
      · have : j = i := by omega
        subst this; exact Rat.le_refl
    simpa [Rat.not_lt] using this
  have h2 : (s.take (i + 1)).length ≤ (s.filter fun b => !decide (s[i] < b)).length := by
    rw [← h1]
    exact (List.Sublist.filter _ (List.take_sublist (i + 1) s)).length_le
  rw [List.length_take] at h2
  omega
theorem cnt_le {s : List Rat} (hs : s.Pairwise (· ≤ ·)) {i : Nat} (hi : i < s.length) {a : Rat} (h : a < s[i]) : upkR a s ≤ i := by
  unfold upkR
  have h1 : (s.drop i).filter (fun b => !decide (a < b)) = [] := by
    rw [List.filter_eq_nil_iff]
    intro x hx
    obtain ⟨j, hj, e⟩ := List.getElem_of_mem hx
    rw [List.length_drop] at hj
    rw [List.getElem_drop] at e
    subst e
    have : s[i] ≤ s[i + j] := by
      rcases Nat.eq_zero_or_pos j with rfl | h0
      · exact Rat.le_refl
      · exact List.pairwise_iff_getElem.mp hs i (i + j) hi (by omega) (by omega)
    have h2 : a < s[i + j] := Std.lt_of_lt_of_le h this
    simp [h2]
  have h2 : s.filter (fun b => !decide (a < b)) = (s.take i).filter (fun b => !decide (a < b)) := by
    conv => lhs; rw [← List.take_append_drop i s]
    rw [List.filter_append, h1, List.append_nil]
  rw [h2]
  exact Nat.le_trans (List.length_filter_le ..) (by rw [List.length_take]; omega)
theorem first_idx {p : Nat → Prop} : ∀ i, p i → ∃ j, j ≤ i ∧ p j ∧ ∀ m < j, ¬ p m := by
  intro i
  induction i using Nat.strongRecOn with
  | ind i ih =>
    intro h
    by_cases h2 : ∃ m, m < i ∧ p m
    · obtain ⟨m, hm, hp⟩ := h2
      obtain ⟨j, h3, h4, h5⟩ := ih m hm hp
      exact ⟨j, by omega, h4, h5⟩
    · exact ⟨i, Nat.le_refl _, h, fun m hm hp => h2 ⟨m, hm, hp⟩⟩
theorem quant_eq {s : List Rat} (hs : s.Pairwise (· ≤ ·)) (h0 : 0 < s.length) {sh : Rat} (h1 : sh ≤ 1) :
    ∃ x, firstQ sh s.length 0 s = some x ∧ (s.filter fun a => !decide ((upkR a s : Rat) < sh * (s.length : Rat))).head? = some x := by
  have hpos : (0 : Rat) < (s.length : Rat) := by
    have : ((0 : Nat) : Rat) < (s.length : Rat) := Rat.natCast_lt_natCast.mpr h0
    simpa using this
  have conv : ∀ k : Nat, ((k : Nat) : Rat) / (s.length : Rat) < sh ↔ (k : Rat) < sh * (s.length : Rat) := fun k => Rat.div_lt_iff hpos
  obtain ⟨i, hi, e1, e2, e3⟩ := firstQ_spec (sh := sh) (m := s.length) s 0 ⟨s.length - 1, by omega, by
    rw [conv, show 0 + (s.length - 1) + 1 = s.length by omega]
    intro h
    have h3 : sh * (s.length : Rat) ≤ 1 * (s.length : Rat) := Rat.mul_le_mul_of_nonneg_right h1 (Rat.le_of_lt hpos)
    grind⟩
  refine ⟨s[i], e1, ?_⟩
  rw [conv] at e2
  rw [List.head?_filter, List.find?_eq_some_iff_getElem]
  have mono : ∀ a b : Nat, a ≤ b → (a : Rat) ≤ (b : Rat) := fun a b h => by
    rcases Nat.lt_or_ge a b with h2 | h2
    · exact Rat.le_of_lt (Rat.natCast_lt_natCast.mpr h2)
    · have : a = b := by omega
      subst this; exact Rat.le_refl
  have hg := cnt_ge hs hi
  have hpi : ¬ ((upkR s[i] s : Rat) < sh * (s.length : Rat)) := by
    have h4 := mono _ _ hg
    rw [show 0 + i + 1 = i + 1 by omega] at e2
    grind
  refine ⟨by simp [hpi], ?_⟩
  obtain ⟨j, hj, ⟨hjl, hje⟩, hjm⟩ := first_idx (p := fun j => ∃ h : j < s.length, s[j] = s[i]) i ⟨hi, rfl⟩
  refine ⟨j, hjl, hje, fun m hm => ?_⟩
  have hms : m < s.length := by omega
  have hlt : s[m] < s[j] := by
    have hle := List.pairwise_iff_getElem.mp hs m j hms hjl hm
    by_cases h : s[m] = s[j]
    · exact absurd ⟨hms, by rw [h, hje]⟩ (hjm m hm)
    · generalize s[m] = u at *
      generalize s[j] = v at *
      grind
  have hc := cnt_le hs hjl hlt
  have h5 := e3 (i - 1) (by omega)
  rw [conv, show 0 + (i - 1) + 1 = i by omega] at h5
  have h6 := mono _ _ (Nat.le_trans hc hj)
  have h7 : ((upkR s[m] s : Rat) < sh * (s.length : Rat)) := by grind
  simp [h7]
end Ev.Fr

namespace Ev.Fr.K04
open PySem PySem.Spec PyProof.Rows L2
def b__law_none : S := (.cons (.tryy (.cons (.ex (.call "quantile" (.cons (.v 0) (.cons (.v 1) .nil)))) .nil) "BadNumber" (.bl true)) (.cons (.ret (.bl false)) .nil))
def fd__law_none : Fd := ⟨2, 2, b__law_none⟩
def b_law : S := (.cons (.asg (.v 1) (.call "_law_tape" (.cons (.v 0) .nil))) (.cons (.asg (.v 2) (.call "_law_row" (.cons (.v 1) (.cons (.bin .add (.int 1) (.call "_law_draw" (.cons (.v 1) (.cons (.int 8) .nil)))) (.cons (.int 10) .nil))))) (.cons (.asg (.v 3) (.call "_law_up" (.cons (.v 2) .nil))) (.cons (.asg (.v 4) (.bin .fdiv (.b1 .len (.v 2)) (.int 2))) (.cons (.asg (.v 5) (.fz (.ix (.v 3) (.v 4)))) (.cons (.iff (.cmp .eq (.call "_law_mod" (.cons (.b1 .len (.v 2)) (.cons (.int 2) .nil))) (.int 0)) (.cons (.asg (.v 5) (.call "_law_div" (.cons (.call "_law_add" (.cons (.ix (.v 3) (.bin .sub (.v 4) (.int 1))) (.cons (.ix (.v 3) (.v 4)) .nil))) (.cons (.tup (.cons (.int 2) (.cons (.int 1) .nil))) .nil)))) .nil) .nil) (.cons (.iff (.not (.call "_law_is" (.cons (.call "median" (.cons (.v 2) .nil)) (.cons (.v 5) .nil)))) (.cons (.ret (.bl false)) .nil) .nil) (.cons (.asg (.v 6) (.call "_law_frac" (.cons (.call "_law_draw" (.cons (.v 1) (.cons (.int 13) .nil))) (.cons (.int 12) .nil)))) (.cons (.asg (.v 7) (.lst .nil)) (.cons (.forr (.v 8) (.seq (.v 3)) (.cons (.asg (.v 9) (.b1 .len (.comp (.v 10) (.seq (.v 2)) (.not (.call "_law_lt" (.cons (.v 8) (.cons (.v 10) .nil)))) (.fz (.v 10)) [10]))) (.cons (.iff (.not (.call "_law_lt" (.cons (.tup (.cons (.fz (.v 9)) (.cons (.int 1) .nil))) (.cons (.call "_law_mul" (.cons (.v 6) (.cons (.tup (.cons (.b1 .len (.v 2)) (.cons (.int 1) .nil))) .nil))) .nil)))) (.cons (.ex (.mm .append (.v 7) (.cons (.fz (.v 8)) .nil))) .nil) .nil) .nil))) (.cons (.iff (.not (.call "_law_is" (.cons (.call "quantile" (.cons (.v 2) (.cons (.v 6) .nil))) (.cons (.ix (.v 7) (.int 0)) .nil)))) (.cons (.ret (.bl false)) .nil) .nil) (.cons (.ret (.and (.call "_law_none" (.cons (.v 2) (.cons (.tup (.cons (.int 13) (.cons (.int 12) .nil))) .nil))) (.and (.call "_law_none" (.cons (.v 2) (.cons (.tup (.cons (.bin .sub (.int 0) (.int 1)) (.cons (.int 12) .nil))) .nil))) (.call "_law_none" (.cons (.lst .nil) (.cons (.v 6) .nil)))))) .nil))))))))))))
def fd_law : Fd := ⟨1, 11, b_law⟩
end Ev.Fr.K04

/-! FrU: k04's law. -/
namespace Ev.Fr.K04
open PySem PySem.Spec PyProof.Rows L2 Rat Ev.Fr
variable {P : Prg} {n : Nat}
section
variable [HasG P "math.gcd" .non] [HasG P "ZERO" (fr (0, 1))] [HasG P (excKey "BadNumber") (.bl true)] [HasSub P "BadNumber" "BadNumber" true]
  [Has P "fraction" fd_fraction] [Has P "add" fd_add] [Has P "over" fd_over] [Has P "less" fd_less] [Has P "in_order" fd_in_order]
  [Has P "need_some" fd_need_some] [Has P "median" fd_median] [Has P "ascending" fd_ascending] [Has P "quantile" fd_quantile]
  [Has P "_law_draw" fd__law_draw] [Has P "_law_tape" fd__law_tape] [Has P "_law_is" fd__law_is]
  [Has P "_law_mod" fd__law_mod] [Has P "_law_gcd" fd__law_gcd] [Has P "_law_frac" fd__law_frac] [Has P "_law_add" fd__law_add] [Has P "_law_mul" fd__law_mul]
  [Has P "_law_div" fd__law_div] [Has P "_law_lt" fd__law_lt] [Has P "_law_up" fd__law_up] [Has P "_law_fraction" fd__law_fraction] [Has P "_law_row" fd__law_row] [Has P "_law_none" fd__law_none]
theorem none_ok {a b : D} (ha : isFrz a = true ∨ True) (hb : isFrz b = true) (h : run P n fd_quantile [a, b] = .exc ⟨"BadNumber", []⟩ [a, b]) : run P (n + 1) fd__law_none [a, b] = .ok (.bl true) [a, b] := by
  rw [run_def rfl]
  by_cases h1 : isFrz a = true
  · simp [fd__law_none, b__law_none, bind_ok, bind_exc, fl_ok, fl_exc, use_none, use_some, use_exc, tmp_ok, tru_ok, tru_exc, liftO_some, slot_0, slot_s, ev_v, ev_fz, ev_mv, ev_g, ev_int, ev_str, ev_bl, ev_non, ev_nop, ev_ix, ev_fld, ev_sl, ev_bin, ev_neg, ev_not, ev_cmp, ev_chain, ev_and, ev_or, ev_itE, ev_tup, ev_lst, ev_call, ev_b1, ev_b2, ev_isi, ev_mm, ev_comp, evs_nIl, evs_cons, eva_nil, eva_cons, evw_rng1, evw_rng2, evw_enm, evw_zip, evw_seq, then_nx, then_ret, then_brk, then_ct, then_exc, env_nx, env_ret, evS_nil, evS_cons, blk_def, evS_asg, evS_par2, evS_par3, evS_aug, evS_puT, evS_ex, evS_ret, evS_retN, evS_iff, evS_whl, evS_foR, evS_brk, evS_cont, evS_pass, evS_raise, evS_try, endC_nx, endC_ret, endC_exc, raise_t, hnd_exc, hnd_nx, hnd_ret, sub_has, isi_bool_non, isi_bool_bl, isi_bool_int, isi_bool_str, isi_bool_tup, isi_bool_lst, isi_int_non, isi_int_bl, isi_int_int, isi_int_str, isi_int_tup, isi_int_lst, isi_str_non, isi_str_bl, isi_str_int, isi_str_str, isi_str_tup, isi_str_lst, isi_tuple_non, isi_tuple_bl, isi_tuple_int, isi_tuple_str, isi_tuple_tup, isi_tuple_lst, isi_list_non, isi_list_bl, isi_list_int, isi_list_str, isi_list_tup, isi_list_lst, evw_rng3, eqO_ii, eqO_bb, eqO_ss, eqO_nn, flat_int, flat_str, flat_bl, flat_non, k_v, k_fz, k_mv, k_g, stpO, k_ix3, k_ix2, k_ix, k_fld2, k_fld, k_sl3, k_sl2, k_sl, k_bin2, k_bin, k_neg, bO, k_not, k_cmp2, k_cmp, k_ch4, k_ch3, k_ch2, k_ch, k_and2, k_and, k_or2, k_or, k_ite2, k_ite, k_tup, k_lst, k_ret, k_call2, k_call3, k_call, k_b1, k_b22, k_b2, k_isi, k_mm3, k_mm2, k_mm, cB, cT, cE, cW, k_comp2, k_comp, k_evs2, k_evs, k_eva2, k_eva, k_rng22, k_rng2, k_rng32, k_rng3, k_enm2, k_enm, k_zip4, k_zip3, k_zip2, k_zip, k_seqw, s_asg, s_par22, s_par2, s_aug3, s_aug2, s_aug, s_put3, s_put2, s_put, s_ex, s_ret, s_iff, s_opt, s_unl, s_hO, s_par3, s_for, ixN, liftF, bindT, bindT.bindTs, calmP, qt, isFrz, frzL, canFrz, canL, freeze, freezeL, avDs, avD, avOk, avRoots, Av.isVar, giveA, setE, getE, getS, setS, binD, slD, cmpD, b1D, b2D, trD, ixD, start, behind, parOk, asgS, asgT, callN_has, G_has, f2Ok, items, walkD, walkP, unlend, sizeLine_eq, evh, evhs, putF, itmF, mmD, isLst, partD, par3F, noExc, ownOk, wipeE, backE, Pl.root, h, h1, hb]
  · simp only [Bool.not_eq_true] at h1
    simp [fd__law_none, b__law_none, bind_ok, bind_exc, fl_ok, fl_exc, use_none, use_some, use_exc, tmp_ok, tru_ok, tru_exc, liftO_some, slot_0, slot_s, ev_v, ev_fz, ev_mv, ev_g, ev_int, ev_str, ev_bl, ev_non, ev_nop, ev_ix, ev_fld, ev_sl, ev_bin, ev_neg, ev_not, ev_cmp, ev_chain, ev_and, ev_or, ev_itE, ev_tup, ev_lst, ev_call, ev_b1, ev_b2, ev_isi, ev_mm, ev_comp, evs_nIl, evs_cons, eva_nil, eva_cons, evw_rng1, evw_rng2, evw_enm, evw_zip, evw_seq, then_nx, then_ret, then_brk, then_ct, then_exc, env_nx, env_ret, evS_nil, evS_cons, blk_def, evS_asg, evS_par2, evS_par3, evS_aug, evS_puT, evS_ex, evS_ret, evS_retN, evS_iff, evS_whl, evS_foR, evS_brk, evS_cont, evS_pass, evS_raise, evS_try, endC_nx, endC_ret, endC_exc, raise_t, hnd_exc, hnd_nx, hnd_ret, sub_has, isi_bool_non, isi_bool_bl, isi_bool_int, isi_bool_str, isi_bool_tup, isi_bool_lst, isi_int_non, isi_int_bl, isi_int_int, isi_int_str, isi_int_tup, isi_int_lst, isi_str_non, isi_str_bl, isi_str_int, isi_str_str, isi_str_tup, isi_str_lst, isi_tuple_non, isi_tuple_bl, isi_tuple_int, isi_tuple_str, isi_tuple_tup, isi_tuple_lst, isi_list_non, isi_list_bl, isi_list_int, isi_list_str, isi_list_tup, isi_list_lst, evw_rng3, eqO_ii, eqO_bb, eqO_ss, eqO_nn, flat_int, flat_str, flat_bl, flat_non, k_v, k_fz, k_mv, k_g, stpO, k_ix3, k_ix2, k_ix, k_fld2, k_fld, k_sl3, k_sl2, k_sl, k_bin2, k_bin, k_neg, bO, k_not, k_cmp2, k_cmp, k_ch4, k_ch3, k_ch2, k_ch, k_and2, k_and, k_or2, k_or, k_ite2, k_ite, k_tup, k_lst, k_ret, k_call2, k_call3, k_call, k_b1, k_b22, k_b2, k_isi, k_mm3, k_mm2, k_mm, cB, cT, cE, cW, k_comp2, k_comp, k_evs2, k_evs, k_eva2, k_eva, k_rng22, k_rng2, k_rng32, k_rng3, k_enm2, k_enm, k_zip4, k_zip3, k_zip2, k_zip, k_seqw, s_asg, s_par22, s_par2, s_aug3, s_aug2, s_aug, s_put3, s_put2, s_put, s_ex, s_ret, s_iff, s_opt, s_unl, s_hO, s_par3, s_for, ixN, liftF, bindT, bindT.bindTs, calmP, qt, isFrz, frzL, canFrz, canL, freeze, freezeL, avDs, avD, avOk, avRoots, Av.isVar, giveA, setE, getE, getS, setS, binD, slD, cmpD, b1D, b2D, trD, ixD, start, behind, parOk, asgS, asgT, callN_has, G_has, f2Ok, items, walkD, walkP, unlend, sizeLine_eq, evh, evhs, putF, itmF, mmD, isLst, partD, par3F, noExc, ownOk, wipeE, backE, Pl.root, h, h1, hb]
section
variable {x0 x1 x2 x3 x4 x5 x6 x7 x9 : Option D} {o2 : Ow} {L0 : List Rat}
theorem cmp4 {a : Rat} (ha : Q 45 (pr a)) : ∀ (L : List Rat) (x10 : Option D), (∀ x ∈ L, Q 45 (pr x)) → ∃ x',
    compL (cB (.v 10)) (cT (callN P 11) P.G (.not (.call "_law_lt" (.cons (.v 8) (.cons (.v 10) .nil))))) (cE (callN P 11) P.G (.fz (.v 10))) (cW [10]) (L.map rt) [x0, x1, x7, x3, x4, x5, x6, x9, some (rt a), x2, x10]
      = .ok ((L.filter fun b => !decide (a < b)).map rt) [x0, x1, x7, x3, x4, x5, x6, x9, some (rt a), x2, x']
  | [], x10, _ => ⟨x10, rfl⟩
  | y :: r, x10, h => by
    have e := t_llt (P := P) (n := 10) (by decide) (by decide) ha (h y (List.mem_cons_self ..))
    obtain ⟨x', e2⟩ := cmp4 ha r (some (rt y)) fun z hz => h z (List.mem_cons_of_mem _ hz)
    refine ⟨x', ?_⟩
    rw [List.map_cons, compL]
    by_cases hlt : a < y
    · simp [bind_ok, bind_exc, fl_ok, fl_exc, use_none, use_some, use_exc, tmp_ok, tru_ok, tru_exc, liftO_some, slot_0, slot_s, ev_v, ev_fz, ev_mv, ev_g, ev_int, ev_str, ev_bl, ev_non, ev_nop, ev_ix, ev_fld, ev_sl, ev_bin, ev_neg, ev_not, ev_cmp, ev_chain, ev_and, ev_or, ev_itE, ev_tup, ev_lst, ev_call, ev_b1, ev_b2, ev_isi, ev_mm, ev_comp, evs_nIl, evs_cons, eva_nil, eva_cons, evw_rng1, evw_rng2, evw_enm, evw_zip, evw_seq, then_nx, then_ret, then_brk, then_ct, then_exc, env_nx, env_ret, evS_nil, evS_cons, blk_def, evS_asg, evS_par2, evS_par3, evS_aug, evS_puT, evS_ex, evS_ret, evS_retN, evS_iff, evS_whl, evS_foR, evS_brk, evS_cont, evS_pass, evS_raise, evS_try, endC_nx, endC_ret, endC_exc, raise_t, hnd_exc, hnd_nx, hnd_ret, sub_has, isi_bool_non, isi_bool_bl, isi_bool_int, isi_bool_str, isi_bool_tup, isi_bool_lst, isi_int_non, isi_int_bl, isi_int_int, isi_int_str, isi_int_tup, isi_int_lst, isi_str_non, isi_str_bl, isi_str_int, isi_str_str, isi_str_tup, isi_str_lst, isi_tuple_non, isi_tuple_bl, isi_tuple_int, isi_tuple_str, isi_tuple_tup, isi_tuple_lst, isi_list_non, isi_list_bl, isi_list_int, isi_list_str, isi_list_tup, isi_list_lst, evw_rng3, eqO_ii, eqO_bb, eqO_ss, eqO_nn, flat_int, flat_str, flat_bl, flat_non, k_v, k_fz, k_mv, k_g, stpO, k_ix3, k_ix2, k_ix, k_fld2, k_fld, k_sl3, k_sl2, k_sl, k_bin2, k_bin, k_neg, bO, k_not, k_cmp2, k_cmp, k_ch4, k_ch3, k_ch2, k_ch, k_and2, k_and, k_or2, k_or, k_ite2, k_ite, k_tup, k_lst, k_ret, k_call2, k_call3, k_call, k_b1, k_b22, k_b2, k_isi, k_mm3, k_mm2, k_mm, cB, cT, cE, cW, k_comp2, k_comp, k_evs2, k_evs, k_eva2, k_eva, k_rng22, k_rng2, k_rng32, k_rng3, k_enm2, k_enm, k_zip4, k_zip3, k_zip2, k_zip, k_seqw, s_asg, s_par22, s_par2, s_aug3, s_aug2, s_aug, s_put3, s_put2, s_put, s_ex, s_ret, s_iff, s_opt, s_unl, s_hO, s_par3, s_for, ixN, liftF, bindT, bindT.bindTs, calmP, qt, isFrz, frzL, canFrz, canL, freeze, freezeL, avDs, avD, avOk, avRoots, Av.isVar, giveA, setE, getE, getS, setS, binD, slD, cmpD, b1D, b2D, trD, ixD, start, behind, parOk, asgS, asgT, callN_has, G_has, f2Ok, items, walkD, walkP, unlend, sizeLine_eq, evh, evhs, putF, itmF, mmD, isLst, partD, par3F, noExc, ownOk, wipeE, backE, Pl.root, e, hlt, e2]
    · simp [bind_ok, bind_exc, fl_ok, fl_exc, use_none, use_some, use_exc, tmp_ok, tru_ok, tru_exc, liftO_some, slot_0, slot_s, ev_v, ev_fz, ev_mv, ev_g, ev_int, ev_str, ev_bl, ev_non, ev_nop, ev_ix, ev_fld, ev_sl, ev_bin, ev_neg, ev_not, ev_cmp, ev_chain, ev_and, ev_or, ev_itE, ev_tup, ev_lst, ev_call, ev_b1, ev_b2, ev_isi, ev_mm, ev_comp, evs_nIl, evs_cons, eva_nil, eva_cons, evw_rng1, evw_rng2, evw_enm, evw_zip, evw_seq, then_nx, then_ret, then_brk, then_ct, then_exc, env_nx, env_ret, evS_nil, evS_cons, blk_def, evS_asg, evS_par2, evS_par3, evS_aug, evS_puT, evS_ex, evS_ret, evS_retN, evS_iff, evS_whl, evS_foR, evS_brk, evS_cont, evS_pass, evS_raise, evS_try, endC_nx, endC_ret, endC_exc, raise_t, hnd_exc, hnd_nx, hnd_ret, sub_has, isi_bool_non, isi_bool_bl, isi_bool_int, isi_bool_str, isi_bool_tup, isi_bool_lst, isi_int_non, isi_int_bl, isi_int_int, isi_int_str, isi_int_tup, isi_int_lst, isi_str_non, isi_str_bl, isi_str_int, isi_str_str, isi_str_tup, isi_str_lst, isi_tuple_non, isi_tuple_bl, isi_tuple_int, isi_tuple_str, isi_tuple_tup, isi_tuple_lst, isi_list_non, isi_list_bl, isi_list_int, isi_list_str, isi_list_tup, isi_list_lst, evw_rng3, eqO_ii, eqO_bb, eqO_ss, eqO_nn, flat_int, flat_str, flat_bl, flat_non, k_v, k_fz, k_mv, k_g, stpO, k_ix3, k_ix2, k_ix, k_fld2, k_fld, k_sl3, k_sl2, k_sl, k_bin2, k_bin, k_neg, bO, k_not, k_cmp2, k_cmp, k_ch4, k_ch3, k_ch2, k_ch, k_and2, k_and, k_or2, k_or, k_ite2, k_ite, k_tup, k_lst, k_ret, k_call2, k_call3, k_call, k_b1, k_b22, k_b2, k_isi, k_mm3, k_mm2, k_mm, cB, cT, cE, cW, k_comp2, k_comp, k_evs2, k_evs, k_eva2, k_eva, k_rng22, k_rng2, k_rng32, k_rng3, k_enm2, k_enm, k_zip4, k_zip3, k_zip2, k_zip, k_seqw, s_asg, s_par22, s_par2, s_aug3, s_aug2, s_aug, s_put3, s_put2, s_put, s_ex, s_ret, s_iff, s_opt, s_unl, s_hO, s_par3, s_for, ixN, liftF, bindT, bindT.bindTs, calmP, qt, isFrz, frzL, canFrz, canL, freeze, freezeL, avDs, avD, avOk, avRoots, Av.isVar, giveA, setE, getE, getS, setS, binD, slD, cmpD, b1D, b2D, trD, ixD, start, behind, parOk, asgS, asgT, callN_has, G_has, f2Ok, items, walkD, walkP, unlend, sizeLine_eq, evh, evhs, putF, itmF, mmD, isLst, partD, par3F, noExc, ownOk, wipeE, backE, Pl.root, e, hlt, e2]
def fitR (L : List Rat) (sh : Rat) (a : Rat) : Bool := !decide ((upkR a L : Rat) < sh * (L.length : Rat))
theorem fits_loop {L : List Rat} (hL : ∀ x ∈ L, Q 45 (pr x)) (hn : L.length ≤ 900) {sh : Rat} (hz : Z 12 1 sh) : ∀ (r fits : List Rat) (o8 o9 : Option D), (∀ x ∈ r, Q 45 (pr x)) → fits.length + r.length ≤ 1000 →
    ∃ o8' o9', forL (s_step (callN P 11) P.G P.isSub nWhile (.v 8) (.cons (.asg (.v 9) (.b1 .len (.comp (.v 10) (.seq (.v 2)) (.not (.call "_law_lt" (.cons (.v 8) (.cons (.v 10) .nil)))) (.fz (.v 10)) [10]))) (.cons (.iff (.not (.call "_law_lt" (.cons (.tup (.cons (.fz (.v 9)) (.cons (.int 1) .nil))) (.cons (.call "_law_mul" (.cons (.v 6) (.cons (.tup (.cons (.b1 .len (.v 2)) (.cons (.int 1) .nil))) .nil))) .nil)))) (.cons (.ex (.mm .append (.v 7) (.cons (.fz (.v 8)) .nil))) .nil) .nil) .nil)))
      (r.map rt) [x0, x1, some (.lst .frz (L.map rt)), x3, x4, x5, some (rt sh), some (.lst .own (fits.map rt)), o8, o9, none]
      = .nx [x0, x1, some (.lst .frz (L.map rt)), x3, x4, x5, some (rt sh), some (.lst .own ((fits ++ r.filter (fitR L sh)).map rt)), o8', o9', none]
  | [], fits, o8, o9, _, _ => ⟨o8, o9, by simp [forL]⟩
  | a :: r, fits, o8, o9, hr, hl => by
    rw [List.length_cons] at hl
    have ha := hr a (List.mem_cons_self ..)
    obtain ⟨x', e1⟩ := cmp4 (P := P) (x0 := x0) (x1 := x1) (x7 := some (.lst .frz (L.map rt))) (x3 := x3) (x4 := x4) (x5 := x5) (x6 := some (rt sh)) (x9 := some (.lst .own (fits.map rt))) (x2 := o9) ha L none hL
    have hc : upkR a L ≤ L.length := List.length_filter_le ..
    have qs : Q 45 (pr sh) := hz.q (by decide) (by decide) (by decide)
    have qn : Q 45 (pr (L.length : Rat)) := (Z.nat L.length).q (by decide) (Nat.lt_of_le_of_lt (show L.length * 1 ≤ 1000 by omega) (by decide)) (by decide)
    have qc : Q 45 (pr (upkR a L : Rat)) := (Z.nat (upkR a L)).q (by decide) (Nat.lt_of_le_of_lt (show upkR a L * 1 ≤ 1000 by omega) (by decide)) (by decide)
    have qm : Q 45 (pr (sh * (L.length : Rat))) := (hz.mul (Z.nat L.length)).q (by decide) (Nat.lt_of_le_of_lt (show 1 * L.length * (12 * 1) ≤ 12000 by omega) (by decide)) (by decide)
    have e2 := t_lmul (P := P) (n := 7) (by decide) (by decide) qs qn
    have e3 := t_llt (P := P) (n := 10) (by decide) (by decide) qc qm
    have i1 : rt (L.length : Rat) = .tup [.int (L.length : Int), .int 1] := by rw [← Rat.intCast_natCast, rt_int]
    have i2 : rt (upkR a L : Rat) = .tup [.int (upkR a L : Int), .int 1] := by rw [← Rat.intCast_natCast, rt_int]
    rw [i1] at e2
    rw [i2] at e3
    have hfl : (L.filter fun b => !decide (a < b)).length = upkR a L := rfl
    have hz1 : upkR a L ≤ 16777216 := by omega
    by_cases hf : (upkR a L : Rat) < sh * (L.length : Rat)
    · obtain ⟨o8', o9', e4⟩ := fits_loop hL hn hz r fits (some (rt a)) (some (.int (upkR a L : Int))) (fun z hz => hr z (List.mem_cons_of_mem _ hz)) (by omega)
      refine ⟨o8', o9', ?_⟩
      have ef : (a :: r).filter (fitR L sh) = r.filter (fitR L sh) := by simp [fitR, hf]
      rw [ef, ← e4, List.map_cons]
      refine forL_nx ?_
      generalize sh * (L.length : Rat) = v at *
      generalize (upkR a L : Rat) = u at *
      simp [s_step, s_opt, bind_ok, bind_exc, fl_ok, fl_exc, use_none, use_some, use_exc, tmp_ok, tru_ok, tru_exc, liftO_some, slot_0, slot_s, ev_v, ev_fz, ev_mv, ev_g, ev_int, ev_str, ev_bl, ev_non, ev_nop, ev_ix, ev_fld, ev_sl, ev_bin, ev_neg, ev_not, ev_cmp, ev_chain, ev_and, ev_or, ev_itE, ev_tup, ev_lst, ev_call, ev_b1, ev_b2, ev_isi, ev_mm, ev_comp, evs_nIl, evs_cons, eva_nil, eva_cons, evw_rng1, evw_rng2, evw_enm, evw_zip, evw_seq, then_nx, then_ret, then_brk, then_ct, then_exc, env_nx, env_ret, evS_nil, evS_cons, blk_def, evS_asg, evS_par2, evS_par3, evS_aug, evS_puT, evS_ex, evS_ret, evS_retN, evS_iff, evS_whl, evS_foR, evS_brk, evS_cont, evS_pass, evS_raise, evS_try, endC_nx, endC_ret, endC_exc, raise_t, hnd_exc, hnd_nx, hnd_ret, sub_has, isi_bool_non, isi_bool_bl, isi_bool_int, isi_bool_str, isi_bool_tup, isi_bool_lst, isi_int_non, isi_int_bl, isi_int_int, isi_int_str, isi_int_tup, isi_int_lst, isi_str_non, isi_str_bl, isi_str_int, isi_str_str, isi_str_tup, isi_str_lst, isi_tuple_non, isi_tuple_bl, isi_tuple_int, isi_tuple_str, isi_tuple_tup, isi_tuple_lst, isi_list_non, isi_list_bl, isi_list_int, isi_list_str, isi_list_tup, isi_list_lst, evw_rng3, eqO_ii, eqO_bb, eqO_ss, eqO_nn, flat_int, flat_str, flat_bl, flat_non, k_v, k_fz, k_mv, k_g, stpO, k_ix3, k_ix2, k_ix, k_fld2, k_fld, k_sl3, k_sl2, k_sl, k_bin2, k_bin, k_neg, bO, k_not, k_cmp2, k_cmp, k_ch4, k_ch3, k_ch2, k_ch, k_and2, k_and, k_or2, k_or, k_ite2, k_ite, k_tup, k_lst, k_ret, k_call2, k_call3, k_call, k_b1, k_b22, k_b2, k_isi, k_mm3, k_mm2, k_mm, cB, cT, cE, cW, k_comp2, k_comp, k_evs2, k_evs, k_eva2, k_eva, k_rng22, k_rng2, k_rng32, k_rng3, k_enm2, k_enm, k_zip4, k_zip3, k_zip2, k_zip, k_seqw, s_asg, s_par22, s_par2, s_aug3, s_aug2, s_aug, s_put3, s_put2, s_put, s_ex, s_ret, s_iff, s_opt, s_unl, s_hO, s_par3, s_for, ixN, liftF, bindT, bindT.bindTs, calmP, qt, isFrz, frzL, canFrz, canL, freeze, freezeL, avDs, avD, avOk, avRoots, Av.isVar, giveA, setE, getE, getS, setS, binD, slD, cmpD, b1D, b2D, trD, ixD, start, behind, parOk, asgS, asgT, callN_has, G_has, f2Ok, items, walkD, walkP, unlend, sizeLine_eq, evh, evhs, putF, itmF, mmD, isLst, partD, par3F, noExc, ownOk, wipeE, backE, Pl.root, e1, hfl, hz1, e2, e3, hf]
    · obtain ⟨o8', o9', e4⟩ := fits_loop hL hn hz r (fits ++ [a]) (some (rt a)) (some (.int (upkR a L : Int))) (fun z hz => hr z (List.mem_cons_of_mem _ hz)) (by simp; omega)
      refine ⟨o8', o9', ?_⟩
      have ef : fits ++ (a :: r).filter (fitR L sh) = fits ++ [a] ++ r.filter (fitR L sh) := by simp [fitR, hf]
      rw [ef, ← e4, List.map_cons]
      refine forL_nx ?_
      have hz2 : fits.length < 16777216 := by omega
      generalize sh * (L.length : Rat) = v at *
      generalize (upkR a L : Rat) = u at *
      simp [s_step, s_opt, bind_ok, bind_exc, fl_ok, fl_exc, use_none, use_some, use_exc, tmp_ok, tru_ok, tru_exc, liftO_some, slot_0, slot_s, ev_v, ev_fz, ev_mv, ev_g, ev_int, ev_str, ev_bl, ev_non, ev_nop, ev_ix, ev_fld, ev_sl, ev_bin, ev_neg, ev_not, ev_cmp, ev_chain, ev_and, ev_or, ev_itE, ev_tup, ev_lst, ev_call, ev_b1, ev_b2, ev_isi, ev_mm, ev_comp, evs_nIl, evs_cons, eva_nil, eva_cons, evw_rng1, evw_rng2, evw_enm, evw_zip, evw_seq, then_nx, then_ret, then_brk, then_ct, then_exc, env_nx, env_ret, evS_nil, evS_cons, blk_def, evS_asg, evS_par2, evS_par3, evS_aug, evS_puT, evS_ex, evS_ret, evS_retN, evS_iff, evS_whl, evS_foR, evS_brk, evS_cont, evS_pass, evS_raise, evS_try, endC_nx, endC_ret, endC_exc, raise_t, hnd_exc, hnd_nx, hnd_ret, sub_has, isi_bool_non, isi_bool_bl, isi_bool_int, isi_bool_str, isi_bool_tup, isi_bool_lst, isi_int_non, isi_int_bl, isi_int_int, isi_int_str, isi_int_tup, isi_int_lst, isi_str_non, isi_str_bl, isi_str_int, isi_str_str, isi_str_tup, isi_str_lst, isi_tuple_non, isi_tuple_bl, isi_tuple_int, isi_tuple_str, isi_tuple_tup, isi_tuple_lst, isi_list_non, isi_list_bl, isi_list_int, isi_list_str, isi_list_tup, isi_list_lst, evw_rng3, eqO_ii, eqO_bb, eqO_ss, eqO_nn, flat_int, flat_str, flat_bl, flat_non, k_v, k_fz, k_mv, k_g, stpO, k_ix3, k_ix2, k_ix, k_fld2, k_fld, k_sl3, k_sl2, k_sl, k_bin2, k_bin, k_neg, bO, k_not, k_cmp2, k_cmp, k_ch4, k_ch3, k_ch2, k_ch, k_and2, k_and, k_or2, k_or, k_ite2, k_ite, k_tup, k_lst, k_ret, k_call2, k_call3, k_call, k_b1, k_b22, k_b2, k_isi, k_mm3, k_mm2, k_mm, cB, cT, cE, cW, k_comp2, k_comp, k_evs2, k_evs, k_eva2, k_eva, k_rng22, k_rng2, k_rng32, k_rng3, k_enm2, k_enm, k_zip4, k_zip3, k_zip2, k_zip, k_seqw, s_asg, s_par22, s_par2, s_aug3, s_aug2, s_aug, s_put3, s_put2, s_put, s_ex, s_ret, s_iff, s_opt, s_unl, s_hO, s_par3, s_for, ixN, liftF, bindT, bindT.bindTs, calmP, qt, isFrz, frzL, canFrz, canL, freeze, freezeL, avDs, avD, avOk, avRoots, Av.isVar, giveA, setE, getE, getS, setS, binD, slD, cmpD, b1D, b2D, trD, ixD, start, behind, parOk, asgS, asgT, callN_has, G_has, f2Ok, items, walkD, walkP, unlend, sizeLine_eq, evh, evhs, putF, itmF, mmD, isLst, partD, par3F, noExc, ownOk, wipeE, backE, Pl.root, e1, hfl, hz1, e2, e3, hf, hz2]
end
theorem s_law (ns : List Int) : ∃ ds', run P 11 fd_law [.lst .frz (ns.map D.int)] = .ok (.bl true) ds' := by
  have e0 : run P 10 fd__law_tape [.lst .frz (ns.map D.int)] = .ok (tp .own ns 0 0) [.lst .frz (ns.map D.int)] := s_tape
  have ht0 := tape0 ns
  generalize tp .own ns 0 0 = t0 at e0 ht0
  obtain ⟨t1, d1, ht1, p1, q1, e1⟩ := s_draw (P := P) (n := 10) (m := 8) ht0 (by decide) (by decide)
  obtain ⟨k, hk⟩ : ∃ k : Nat, 1 + d1 = (k : Int) := ⟨(1 + d1).toNat, by omega⟩
  obtain ⟨t2, L, ht2, hD, hn, e2⟩ := t_lrow (P := P) (n := 6) (k := k) (m := 10) ht1 (by decide) (by omega)
  rw [← hk] at e2
  have e2 : run P 10 fd__law_row [t1, .int (1 + d1), .int 10] = .ok (.lst .own (L.map rt)) [t2, .int (1 + d1), .int 10] := e2
  have hL : ∀ x ∈ L, Q 45 (pr x) := fun x hx => ((hD x hx).q (by decide)).mono (by decide)
  have hL9 : L.length ≤ 900 := by omega
  have hpos : 0 < L.length := by omega
  have ho : Ow.ok .own := .inl rfl
  have hof : Ow.ok .frz := .inr rfl
  have e3 : run P 10 fd__law_up [.lst .own (L.map rt)] = .ok (.lst .own ((upR L).map rt)) [.lst .own (L.map rt)] := t_lup (n := 9) ho hL hL9
  have e4 : run P 10 fd_median [.lst .own (L.map rt)] = .ok (rt (medR (upR L))) [.lst .frz (L.map rt)] := t_median (n := 7) ho hL hL9 (by omega)
  obtain ⟨u1, u2, u3⟩ := upR_all L
  have uq : ∀ x ∈ upR L, Q 45 (pr x) := fun x hx => hL x ((u2 x).mp hx)
  obtain ⟨t3, d3, ht3, p3, q3, e5⟩ := s_draw (P := P) (n := 10) (m := 13) ht2 (by decide) (by decide)
  have e6 := t_lfrac (P := P) (n := 8) (t := d3) (b := 12) (by decide) (Nat.lt_of_lt_of_le (m := 2 ^ 12) (by omega) (pow_le_pow (by decide))) (by decide)
  have hz : Z 12 1 ((d3 : Rat) / ((12 : Int) : Rat)) := ⟨d3, by
    have h12 : ((12 : Int) : Rat) = 12 := by simp
    have h12' : ((12 : Nat) : Rat) = 12 := by simp
    rw [h12, h12']
    grind, by omega⟩
  have s0 : 0 ≤ (d3 : Rat) / ((12 : Int) : Rat) := by
    have h12 : ((12 : Int) : Rat) = 12 := by simp
    have : (0 : Rat) ≤ (d3 : Rat) := by exact_mod_cast p3
    rw [h12]
    grind
  have s1 : (d3 : Rat) / ((12 : Int) : Rat) ≤ 1 := by
    have h12 : ((12 : Int) : Rat) = 12 := by simp
    have : (d3 : Rat) ≤ ((12 : Int) : Rat) := by
      have : d3 ≤ 12 := by omega
      exact_mod_cast this
    rw [h12] at this ⊢
    grind
  generalize (d3 : Rat) / ((12 : Int) : Rat) = sh at e6 hz s0 s1
  have qs : Q 45 (pr sh) := hz.q (by decide) (by decide) (by decide)
  obtain ⟨x, hx1, hx2⟩ := quant_eq u1 (by omega) s1
  rw [u3] at hx1 hx2
  have e7 : run P 10 fd_quantile [.lst .frz (L.map rt), rt sh] = .ok (rt x) [.lst .frz (L.map rt), rt sh] := t_quantile (n := 7) hof hL hL9 (by omega) qs s0 s1 hx1
  have hfit : (upR L).filter (fitR L sh) = (upR L).filter fun a => !decide ((upkR a (upR L) : Rat) < sh * (L.length : Rat)) := by
    congr 1
    funext a
    unfold fitR
    rw [cnt_perm (upR_perm L)]
  rw [← hfit] at hx2
  obtain ⟨o8, o9, e8⟩ := fits_loop (P := P) (x0 := some (.lst .frz (ns.map D.int))) (x1 := some t3) (x3 := none) (x4 := some (.int ((L.length / 2 : Nat) : Int))) (x5 := some (rt (medR (upR L)))) hL hL9 hz (upR L) [] none none uq (by simp; omega)
  have isf : ∀ v : Rat, run P 10 fd__law_is [rt v, rt v] = .ok (.bl true) [rt v, rt v] := fun v => by
    have h := s_is (P := P) (n := 10) (t := rt v) (d := rt v) rfl (by simp [kind, rt]) (okEq_rt v v)
    rw [eqD_rt] at h
    simpa using h
  rw [List.map_nil, List.nil_append] at e8
  generalize hfits : (upR L).filter (fitR L sh) = fits at e8 hx2
  have hf0 : ∃ fr', fits = x :: fr' := by
    cases fits with
    | nil => simp at hx2
    | cons a r => simp at hx2; exact ⟨r, by rw [hx2]⟩
  obtain ⟨fr', rfl⟩ := hf0
  have w1 : rt ((13 : Int) / (12 : Int) : Rat) = .tup [.int 13, .int 12] := by rw [rt_fr, ← nf_rat (by decide), show nf 13 12 = (13, 12) by decide +kernel]
  have w2 : rt ((-1 : Int) / (12 : Int) : Rat) = .tup [.int (-1), .int 12] := by rw [rt_fr, ← nf_rat (by decide), show nf (-1) 12 = (-1, 12) by decide +kernel]
  have v1 : (1 : Rat) < ((13 : Int) / (12 : Int) : Rat) := by
    have h12 : ((12 : Int) : Rat) = 12 := by simp
    have h13 : ((13 : Int) : Rat) = 13 := by simp
    rw [h12, h13]; grind
  have v2 : ((-1 : Int) / (12 : Int) : Rat) < 0 := by
    have h12 : ((12 : Int) : Rat) = 12 := by simp
    have h13 : ((-1 : Int) : Rat) = -1 := by simp
    rw [h12, h13]; grind
  have z1 : Q 45 (pr ((13 : Int) / (12 : Int) : Rat)) := by rw [← nf_rat (by decide)]; exact (nf_le (by decide) (k := 10) (by decide) (by decide)).mono (by decide)
  have z2 : Q 45 (pr ((-1 : Int) / (12 : Int) : Rat)) := by rw [← nf_rat (by decide)]; exact (nf_le (by decide) (k := 10) (by decide) (by decide)).mono (by decide)
  have g1 : run P 10 fd__law_none [.lst .frz (L.map rt), .tup [.int 13, .int 12]] = .ok (.bl true) [.lst .frz (L.map rt), .tup [.int 13, .int 12]] := by
    rw [← w1]; exact none_ok (n := 9) (.inr trivial) rfl (t_quantile_bad (n := 6) (by omega) z1 (.inr v1))
  have g2 : run P 10 fd__law_none [.lst .frz (L.map rt), .tup [.int (-1), .int 12]] = .ok (.bl true) [.lst .frz (L.map rt), .tup [.int (-1), .int 12]] := by
    rw [← w2]; exact none_ok (n := 9) (.inr trivial) rfl (t_quantile_bad (n := 6) (by omega) z2 (.inl v2))
  have g3 : run P 10 fd__law_none [.lst .own [], rt sh] = .ok (.bl true) [.lst .own [], rt sh] := none_ok (n := 9) (.inr trivial) rfl (t_quantile_none (n := 8))
  have hdv : divOk 2 := ⟨by decide, by decide⟩
  obtain ⟨h, hh⟩ : ∃ h, L.length / 2 = h := ⟨_, rfl⟩
  have hd : (L.length : Int) / 2 = (h : Int) := by omega
  rw [hh] at e8
  have hlt : h < (upR L).length := by omega
  have hi : (h : Int) < (upR L).length := by omega
  have em := s_mod (P := P) (n := 10) (i := (L.length : Int)) (j := 2) (k := 20) (by decide) (by omega) (by decide) (by decide) (by omega)
  have i2 : rt (2 : Rat) = .tup [.int 2, .int 1] := by have := rt_int 2; simpa using this
  have q2 : Q 45 (pr 2) := (Z.nat 2).q (by decide) (by decide) (by decide)
  rw [run_def rfl]
  by_cases hm : (L.length : Int) % 2 = 0
  · have h1 : 1 ≤ h := by omega
    have hlt1 : h - 1 < (upR L).length := by omega
    have hi1 : ((h : Int) - 1 < (upR L).length) := by omega
    have hi0 : 0 ≤ (h : Int) - 1 := by omega
    have hn1 : ((h : Int) - 1).toNat = h - 1 := by omega
    have hh1 : 1 ≤ (h : Int) := by omega
    have a1 := uq _ (List.getElem_mem hlt1)
    have a2 := uq _ (List.getElem_mem hlt)
    have a5 : Z 12 80 ((upR L)[h - 1] + (upR L)[h]) := ((hD _ ((u2 _).mp (List.getElem_mem hlt1))).z.add (hD _ ((u2 _).mp (List.getElem_mem hlt))).z)
    have a3 : Q 45 (pr ((upR L)[h - 1] + (upR L)[h])) := a5.q (by decide) (by decide) (by decide)
    have b1 := t_ladd (P := P) (n := 7) (by decide) (by decide) a1 a2
    have b2 := t_ldiv (P := P) (n := 7) (by decide) (by decide) a3 q2 (by decide)
    rw [i2] at b2
    have emd : medR (upR L) = ((upR L)[h - 1] + (upR L)[h]) / 2 := by
      unfold medR
      rw [if_neg (by omega), show (upR L).length / 2 = h by omega, List.getD, List.getD, List.getElem?_eq_getElem hlt, List.getElem?_eq_getElem hlt1]
      rfl
    rw [emd] at e4 e8
    simp [fd_law, b_law, bind_ok, bind_exc, fl_ok, fl_exc, use_none, use_some, use_exc, tmp_ok, tru_ok, tru_exc, liftO_some, slot_0, slot_s, ev_v, ev_fz, ev_mv, ev_g, ev_int, ev_str, ev_bl, ev_non, ev_nop, ev_ix, ev_fld, ev_sl, ev_bin, ev_neg, ev_not, ev_cmp, ev_chain, ev_and, ev_or, ev_itE, ev_tup, ev_lst, ev_call, ev_b1, ev_b2, ev_isi, ev_mm, ev_comp, evs_nIl, evs_cons, eva_nil, eva_cons, evw_rng1, evw_rng2, evw_enm, evw_zip, evw_seq, then_nx, then_ret, then_brk, then_ct, then_exc, env_nx, env_ret, evS_nil, evS_cons, blk_def, evS_asg, evS_par2, evS_par3, evS_aug, evS_puT, evS_ex, evS_ret, evS_retN, evS_iff, evS_whl, evS_foR, evS_brk, evS_cont, evS_pass, evS_raise, evS_try, endC_nx, endC_ret, endC_exc, raise_t, hnd_exc, hnd_nx, hnd_ret, sub_has, isi_bool_non, isi_bool_bl, isi_bool_int, isi_bool_str, isi_bool_tup, isi_bool_lst, isi_int_non, isi_int_bl, isi_int_int, isi_int_str, isi_int_tup, isi_int_lst, isi_str_non, isi_str_bl, isi_str_int, isi_str_str, isi_str_tup, isi_str_lst, isi_tuple_non, isi_tuple_bl, isi_tuple_int, isi_tuple_str, isi_tuple_tup, isi_tuple_lst, isi_list_non, isi_list_bl, isi_list_int, isi_list_str, isi_list_tup, isi_list_lst, evw_rng3, eqO_ii, eqO_bb, eqO_ss, eqO_nn, flat_int, flat_str, flat_bl, flat_non, k_v, k_fz, k_mv, k_g, stpO, k_ix3, k_ix2, k_ix, k_fld2, k_fld, k_sl3, k_sl2, k_sl, k_bin2, k_bin, k_neg, bO, k_not, k_cmp2, k_cmp, k_ch4, k_ch3, k_ch2, k_ch, k_and2, k_and, k_or2, k_or, k_ite2, k_ite, k_tup, k_lst, k_ret, k_call2, k_call3, k_call, k_b1, k_b22, k_b2, k_isi, k_mm3, k_mm2, k_mm, cB, cT, cE, cW, k_comp2, k_comp, k_evs2, k_evs, k_eva2, k_eva, k_rng22, k_rng2, k_rng32, k_rng3, k_enm2, k_enm, k_zip4, k_zip3, k_zip2, k_zip, k_seqw, s_asg, s_par22, s_par2, s_aug3, s_aug2, s_aug, s_put3, s_put2, s_put, s_ex, s_ret, s_iff, s_opt, s_unl, s_hO, s_par3, s_for, ixN, liftF, bindT, bindT.bindTs, calmP, qt, isFrz, frzL, canFrz, canL, freeze, freezeL, avDs, avD, avOk, avRoots, Av.isVar, giveA, setE, getE, getS, setS, binD, slD, cmpD, b1D, b2D, trD, ixD, start, behind, parOk, asgS, asgT, callN_has, G_has, f2Ok, items, walkD, walkP, unlend, sizeLine_eq, evh, evhs, putF, itmF, mmD, isLst, partD, par3F, noExc, ownOk, wipeE, backE, Pl.root, e0, e1, e2, e3, ht0.nf, ht1.nf, ht2.nf, ht3.nf, hdv, hd, hlt, hi, em, hm, hlt1, hi1, hi0, hn1, hh1, b1, b2, e4, isf, e5, e6, e8, s_unl, e7, g1, g2, g3]
  · have emd : medR (upR L) = (upR L)[h] := by
      unfold medR
      rw [if_pos (by omega), show (upR L).length / 2 = h by omega, List.getD, List.getElem?_eq_getElem hlt]
      rfl
    rw [emd] at e4 e8
    simp [fd_law, b_law, bind_ok, bind_exc, fl_ok, fl_exc, use_none, use_some, use_exc, tmp_ok, tru_ok, tru_exc, liftO_some, slot_0, slot_s, ev_v, ev_fz, ev_mv, ev_g, ev_int, ev_str, ev_bl, ev_non, ev_nop, ev_ix, ev_fld, ev_sl, ev_bin, ev_neg, ev_not, ev_cmp, ev_chain, ev_and, ev_or, ev_itE, ev_tup, ev_lst, ev_call, ev_b1, ev_b2, ev_isi, ev_mm, ev_comp, evs_nIl, evs_cons, eva_nil, eva_cons, evw_rng1, evw_rng2, evw_enm, evw_zip, evw_seq, then_nx, then_ret, then_brk, then_ct, then_exc, env_nx, env_ret, evS_nil, evS_cons, blk_def, evS_asg, evS_par2, evS_par3, evS_aug, evS_puT, evS_ex, evS_ret, evS_retN, evS_iff, evS_whl, evS_foR, evS_brk, evS_cont, evS_pass, evS_raise, evS_try, endC_nx, endC_ret, endC_exc, raise_t, hnd_exc, hnd_nx, hnd_ret, sub_has, isi_bool_non, isi_bool_bl, isi_bool_int, isi_bool_str, isi_bool_tup, isi_bool_lst, isi_int_non, isi_int_bl, isi_int_int, isi_int_str, isi_int_tup, isi_int_lst, isi_str_non, isi_str_bl, isi_str_int, isi_str_str, isi_str_tup, isi_str_lst, isi_tuple_non, isi_tuple_bl, isi_tuple_int, isi_tuple_str, isi_tuple_tup, isi_tuple_lst, isi_list_non, isi_list_bl, isi_list_int, isi_list_str, isi_list_tup, isi_list_lst, evw_rng3, eqO_ii, eqO_bb, eqO_ss, eqO_nn, flat_int, flat_str, flat_bl, flat_non, k_v, k_fz, k_mv, k_g, stpO, k_ix3, k_ix2, k_ix, k_fld2, k_fld, k_sl3, k_sl2, k_sl, k_bin2, k_bin, k_neg, bO, k_not, k_cmp2, k_cmp, k_ch4, k_ch3, k_ch2, k_ch, k_and2, k_and, k_or2, k_or, k_ite2, k_ite, k_tup, k_lst, k_ret, k_call2, k_call3, k_call, k_b1, k_b22, k_b2, k_isi, k_mm3, k_mm2, k_mm, cB, cT, cE, cW, k_comp2, k_comp, k_evs2, k_evs, k_eva2, k_eva, k_rng22, k_rng2, k_rng32, k_rng3, k_enm2, k_enm, k_zip4, k_zip3, k_zip2, k_zip, k_seqw, s_asg, s_par22, s_par2, s_aug3, s_aug2, s_aug, s_put3, s_put2, s_put, s_ex, s_ret, s_iff, s_opt, s_unl, s_hO, s_par3, s_for, ixN, liftF, bindT, bindT.bindTs, calmP, qt, isFrz, frzL, canFrz, canL, freeze, freezeL, avDs, avD, avOk, avRoots, Av.isVar, giveA, setE, getE, getS, setS, binD, slD, cmpD, b1D, b2D, trD, ixD, start, behind, parOk, asgS, asgT, callN_has, G_has, f2Ok, items, walkD, walkP, unlend, sizeLine_eq, evh, evhs, putF, itmF, mmD, isLst, partD, par3F, noExc, ownOk, wipeE, backE, Pl.root, e0, e1, e2, e3, ht0.nf, ht1.nf, ht2.nf, ht3.nf, hdv, hd, hlt, hi, em, hm, e4, isf, e5, e6, e8, s_unl, e7, g1, g2, g3]
end
end Ev.Fr.K04

namespace Ev
open PySem PySem.Spec PyProof.Rows L2
def topS (i : Nat) : Stmt := PySem.Challenge.pw_fairmarks_k04_middles_and_quantiles.main.body.getD i (.Pass ⟨0, 0, 0, 0⟩)
def b_fraction : S := (.cons (.iff (.cmp .eq (.v 1) (.int 0)) (.cons (.raise "BadNumber") .nil) .nil) (.cons (.iff (.cmp .lt (.v 1) (.int 0)) (.cons (.par2 0 1 (.neg (.v 0)) (.neg (.v 1))) .nil) .nil) (.cons (.asg (.v 2) (.b2 .gcd (.v 0) (.v 1))) (.cons (.ret (.tup (.cons (.bin .fdiv (.v 0) (.v 2)) (.cons (.bin .fdiv (.v 1) (.v 2)) .nil)))) .nil))))
def i_fraction : DefI := ⟨"fraction", topS 6, ["top", "bottom"], ["top", "bottom", "common"], ⟨2, 3, b_fraction⟩⟩
def b_add : S := (.cons (.ret (.call "fraction" (.cons (.bin .add (.bin .mul (.ix (.v 0) (.int 0)) (.ix (.v 1) (.int 1))) (.bin .mul (.ix (.v 1) (.int 0)) (.ix (.v 0) (.int 1)))) (.cons (.bin .mul (.ix (.v 0) (.int 1)) (.ix (.v 1) (.int 1))) .nil)))) .nil)
def i_add : DefI := ⟨"add", topS 7, ["a", "b"], ["a", "b"], ⟨2, 2, b_add⟩⟩
def b_over : S := (.cons (.ret (.call "fraction" (.cons (.bin .mul (.ix (.v 0) (.int 0)) (.ix (.v 1) (.int 1))) (.cons (.bin .mul (.ix (.v 0) (.int 1)) (.ix (.v 1) (.int 0))) .nil)))) .nil)
def i_over : DefI := ⟨"over", topS 8, ["a", "b"], ["a", "b"], ⟨2, 2, b_over⟩⟩
def b_less : S := (.cons (.ret (.cmp .lt (.bin .mul (.ix (.v 0) (.int 0)) (.ix (.v 1) (.int 1))) (.bin .mul (.ix (.v 1) (.int 0)) (.ix (.v 0) (.int 1))))) .nil)
def i_less : DefI := ⟨"less", topS 9, ["a", "b"], ["a", "b"], ⟨2, 2, b_less⟩⟩
def b_in_order : S := (.cons (.asg (.v 1) (.lst .nil)) (.cons (.forr (.tup (.cons (.v 2) (.cons (.v 3) .nil))) (.enm (.fz (.v 0))) (.cons (.asg (.v 4) (.b1 .len (.v 1))) (.cons (.whl (.and (.cmp .gt (.v 4) (.int 0)) (.call "less" (.cons (.ix (.v 0) (.ix (.v 1) (.bin .sub (.v 4) (.int 1)))) (.cons (.v 3) .nil)))) (.cons (.aug 4 .sub (.int 1)) .nil)) (.cons (.ex (.mm .insert (.v 1) (.cons (.fz (.v 4)) (.cons (.fz (.v 2)) .nil)))) .nil)))) (.cons (.ret (.mv 1)) .nil)))
def i_in_order : DefI := ⟨"in_order", topS 10, ["fractions"], ["fractions", "found", "place", "one", "at"], ⟨1, 5, b_in_order⟩⟩
def b_need_some : S := (.cons (.iff (.cmp .eq (.b1 .len (.v 0)) (.int 0)) (.cons (.raise "BadNumber") .nil) .nil) .nil)
def i_need_some : DefI := ⟨"need_some", topS 12, ["row"], ["row"], ⟨1, 1, b_need_some⟩⟩
def b_median : S := (.cons (.ex (.call "need_some" (.cons (.v 0) .nil))) (.cons (.asg (.v 1) (.call "ascending" (.cons (.v 0) .nil))) (.cons (.asg (.v 2) (.bin .fdiv (.b1 .len (.v 1)) (.int 2))) (.cons (.iff (.cmp .eq (.bin .mod (.b1 .len (.v 1)) (.int 2)) (.int 1)) (.cons (.ret (.fz (.ix (.v 1) (.v 2)))) .nil) .nil) (.cons (.ret (.call "over" (.cons (.call "add" (.cons (.ix (.v 1) (.bin .sub (.v 2) (.int 1))) (.cons (.ix (.v 1) (.v 2)) .nil))) (.cons (.call "fraction" (.cons (.int 2) (.cons (.int 1) .nil))) .nil)))) .nil)))))
def i_median : DefI := ⟨"median", topS 13, ["row"], ["row", "ordered", "half"], ⟨1, 3, b_median⟩⟩
def b_ascending : S := (.cons (.asg (.v 1) (.call "in_order" (.cons (.v 0) .nil))) (.cons (.ret (.comp (.v 2) (.rng3 (.bin .sub (.b1 .len (.v 1)) (.int 1)) (.neg (.int 1)) (.neg (.int 1))) (.bl true) (.fz (.ix (.v 0) (.ix (.v 1) (.v 2)))) [2])) .nil))
def i_ascending : DefI := ⟨"ascending", topS 14, ["row"], ["row", "places", "k"], ⟨1, 3, b_ascending⟩⟩
def b_quantile : S := (.cons (.ex (.call "need_some" (.cons (.v 0) .nil))) (.cons (.iff (.or (.call "less" (.cons (.v 1) (.cons (.g "ZERO") .nil))) (.call "less" (.cons (.call "fraction" (.cons (.int 1) (.cons (.int 1) .nil))) (.cons (.v 1) .nil)))) (.cons (.raise "BadNumber") .nil) .nil) (.cons (.forr (.tup (.cons (.v 2) (.cons (.v 3) .nil))) (.enm (.call "ascending" (.cons (.v 0) .nil))) (.cons (.iff (.not (.call "less" (.cons (.call "fraction" (.cons (.bin .add (.v 2) (.int 1)) (.cons (.b1 .len (.v 0)) .nil))) (.cons (.v 1) .nil)))) (.cons (.ret (.mv 3)) .nil) .nil) .nil)) (.cons (.ret (.ix (.call "ascending" (.cons (.v 0) .nil)) (.neg (.int 1)))) .nil))))
def i_quantile : DefI := ⟨"quantile", topS 15, ["row", "share"], ["row", "share", "place", "number"], ⟨2, 4, b_quantile⟩⟩
def b__law_draw : S := (.cons (.iff (.cmp .lt (.ix (.v 0) (.int 2)) (.v 1)) (.cons (.asg (.v 2) (.fz (.ix (.v 0) (.int 0)))) (.cons (.asg (.v 3) (.fz (.ix (.v 0) (.int 1)))) (.cons (.asg (.v 4) (.int 0)) (.cons (.iff (.cmp .lt (.v 3) (.b1 .len (.v 2))) (.cons (.asg (.v 4) (.fz (.ix (.v 2) (.v 3)))) .nil) .nil) (.cons (.iff (.cmp .lt (.v 4) (.int 0)) (.cons (.asg (.v 4) (.bin .sub (.bin .mul (.neg (.int 2)) (.v 4)) (.int 1))) .nil) .nil) (.cons (.iff (.cmp .lt (.v 4) (.bin .pow (.int 10) (.int 9))) (.cons (.asg (.v 4) (.bin .mod (.b1 .int (.bin .add (.bin .add (.bin .mul (.v 4) (.int 48271)) (.bin .mul (.v 3) (.int 69621))) (.int 12345))) (.int 2147483647))) (.cons (.asg (.v 4) (.bin .mod (.b1 .int (.bin .add (.bin .add (.bin .mul (.v 4) (.int 16807)) (.bin .mul (.v 3) (.int 39373))) (.int 6789))) (.int 2147483629))) .nil)) .nil) (.cons (.put (.v 0) (.int 1) (.bin .add (.v 3) (.int 1))) (.cons (.put (.v 0) (.int 2) (.fz (.v 4))) .nil)))))))) .nil) (.cons (.asg (.v 5) (.bin .mod (.b1 .int (.ix (.v 0) (.int 2))) (.v 1))) (.cons (.put (.v 0) (.int 2) (.bin .fdiv (.ix (.v 0) (.int 2)) (.v 1))) (.cons (.ret (.mv 5)) .nil))))
def i__law_draw : DefI := ⟨"_law_draw", topS 17, ["tape", "many"], ["tape", "many", "cells", "k", "cell", "digit"], ⟨2, 6, b__law_draw⟩⟩
def b__law_tape : S := (.cons (.ret (.lst (.cons (.b1 .list (.v 0)) (.cons (.int 0) (.cons (.int 0) .nil))))) .nil)
def i__law_tape : DefI := ⟨"_law_tape", topS 18, ["script"], ["script"], ⟨1, 1, b__law_tape⟩⟩
def b__law_is : S := (.cons (.iff (.cmp .is (.v 1) .non) (.cons (.ret (.cmp .is (.v 0) .non)) .nil) .nil) (.cons (.iff (.isi (.v 1) "bool") (.cons (.ret (.and (.isi (.v 0) "bool") (.cmp .eq (.v 0) (.v 1)))) .nil) .nil) (.cons (.iff (.isi (.v 1) "int") (.cons (.ret (.and (.isi (.v 0) "int") (.cmp .eq (.v 0) (.v 1)))) .nil) .nil) (.cons (.iff (.isi (.v 1) "str") (.cons (.ret (.and (.isi (.v 0) "str") (.cmp .eq (.v 0) (.v 1)))) .nil) .nil) (.cons (.iff (.isi (.v 1) "tuple") (.cons (.ret (.and (.isi (.v 0) "tuple") (.cmp .eq (.v 0) (.v 1)))) .nil) .nil) (.cons (.ret (.and (.isi (.v 0) "list") (.cmp .eq (.v 0) (.v 1)))) .nil))))))
def i__law_is : DefI := ⟨"_law_is", topS 19, ["told", "due"], ["told", "due"], ⟨2, 2, b__law_is⟩⟩
def b__law_mod : S := (.cons (.ret (.bin .sub (.v 0) (.bin .mul (.bin .fdiv (.v 0) (.v 1)) (.v 1)))) .nil)
def i__law_mod : DefI := ⟨"_law_mod", topS 20, ["a", "n"], ["a", "n"], ⟨2, 2, b__law_mod⟩⟩
def b__law_gcd : S := (.cons (.forr (.v 2) (.rng1 (.int 200)) (.cons (.iff (.cmp .ne (.v 1) (.int 0)) (.cons (.par2 0 1 (.fz (.v 1)) (.call "_law_mod" (.cons (.v 0) (.cons (.v 1) .nil)))) .nil) .nil) .nil)) (.cons (.ret (.fz (.v 0))) .nil))
def i__law_gcd : DefI := ⟨"_law_gcd", topS 21, ["a", "b"], ["a", "b", "k"], ⟨2, 3, b__law_gcd⟩⟩
def b__law_frac : S := (.cons (.iff (.cmp .lt (.v 1) (.int 0)) (.cons (.par2 0 1 (.bin .sub (.int 0) (.v 0)) (.bin .sub (.int 0) (.v 1))) .nil) .nil) (.cons (.asg (.v 2) (.call "_law_gcd" (.cons (.b1 .abs (.v 0)) (.cons (.v 1) .nil)))) (.cons (.ret (.tup (.cons (.bin .fdiv (.v 0) (.v 2)) (.cons (.bin .fdiv (.v 1) (.v 2)) .nil)))) .nil)))
def i__law_frac : DefI := ⟨"_law_frac", topS 22, ["upper", "lower"], ["upper", "lower", "common"], ⟨2, 3, b__law_frac⟩⟩
def b__law_add : S := (.cons (.ret (.call "_law_frac" (.cons (.bin .add (.bin .mul (.ix (.v 0) (.int 0)) (.ix (.v 1) (.int 1))) (.bin .mul (.ix (.v 1) (.int 0)) (.ix (.v 0) (.int 1)))) (.cons (.bin .mul (.ix (.v 0) (.int 1)) (.ix (.v 1) (.int 1))) .nil)))) .nil)
def i__law_add : DefI := ⟨"_law_add", topS 23, ["a", "b"], ["a", "b"], ⟨2, 2, b__law_add⟩⟩
def b__law_mul : S := (.cons (.ret (.call "_law_frac" (.cons (.bin .mul (.ix (.v 0) (.int 0)) (.ix (.v 1) (.int 0))) (.cons (.bin .mul (.ix (.v 0) (.int 1)) (.ix (.v 1) (.int 1))) .nil)))) .nil)
def i__law_mul : DefI := ⟨"_law_mul", topS 24, ["a", "b"], ["a", "b"], ⟨2, 2, b__law_mul⟩⟩
def b__law_div : S := (.cons (.ret (.call "_law_frac" (.cons (.bin .mul (.ix (.v 0) (.int 0)) (.ix (.v 1) (.int 1))) (.cons (.bin .mul (.ix (.v 0) (.int 1)) (.ix (.v 1) (.int 0))) .nil)))) .nil)
def i__law_div : DefI := ⟨"_law_div", topS 25, ["a", "b"], ["a", "b"], ⟨2, 2, b__law_div⟩⟩
def b__law_lt : S := (.cons (.ret (.cmp .lt (.bin .mul (.ix (.v 0) (.int 0)) (.ix (.v 1) (.int 1))) (.bin .mul (.ix (.v 1) (.int 0)) (.ix (.v 0) (.int 1))))) .nil)
def i__law_lt : DefI := ⟨"_law_lt", topS 26, ["a", "b"], ["a", "b"], ⟨2, 2, b__law_lt⟩⟩
def b__law_up : S := (.cons (.asg (.v 1) (.lst .nil)) (.cons (.forr (.v 2) (.seq (.v 0)) (.cons (.asg (.v 3) (.int 0)) (.cons (.forr (.v 4) (.seq (.v 1)) (.cons (.iff (.not (.call "_law_lt" (.cons (.v 2) (.cons (.v 4) .nil)))) (.cons (.asg (.v 3) (.bin .add (.v 3) (.int 1))) .nil) .nil) .nil)) (.cons (.asg (.v 1) (.bin .add (.bin .add (.sl (.v 1) .nop (.v 3)) (.lst (.cons (.fz (.v 2)) .nil))) (.sl (.v 1) (.v 3) .nop))) .nil)))) (.cons (.ret (.mv 1)) .nil)))
def i__law_up : DefI := ⟨"_law_up", topS 27, ["row"], ["row", "found", "a", "k", "b"], ⟨1, 5, b__law_up⟩⟩
def b__law_fraction : S := (.cons (.ret (.ite (.cmp .eq (.call "_law_draw" (.cons (.v 0) (.cons (.int 2) .nil))) (.int 0)) (.call "_law_frac" (.cons (.call "_law_draw" (.cons (.v 0) (.cons (.bin .add (.bin .mul (.int 4) (.v 1)) (.int 1)) .nil))) (.cons (.bin .add (.int 1) (.call "_law_draw" (.cons (.v 0) (.cons (.int 4) .nil)))) .nil))) (.tup (.cons (.call "_law_draw" (.cons (.v 0) (.cons (.bin .add (.v 1) (.int 1)) .nil))) (.cons (.int 1) .nil))))) .nil)
def i__law_fraction : DefI := ⟨"_law_fraction", topS 28, ["tape", "most"], ["tape", "most"], ⟨2, 2, b__law_fraction⟩⟩
def b__law_row : S := (.cons (.ret (.comp (.v 3) (.rng1 (.v 1)) (.bl true) (.call "_law_fraction" (.cons (.v 0) (.cons (.v 2) .nil))) [3])) .nil)
def i__law_row : DefI := ⟨"_law_row", topS 29, ["tape", "many", "most"], ["tape", "many", "most", "k"], ⟨3, 4, b__law_row⟩⟩
def b__law_none : S := (.cons (.tryy (.cons (.ex (.call "quantile" (.cons (.v 0) (.cons (.v 1) .nil)))) .nil) "BadNumber" (.bl true)) (.cons (.ret (.bl false)) .nil))
def i__law_none : DefI := ⟨"_law_none", topS 30, ["row", "share"], ["row", "share"], ⟨2, 2, b__law_none⟩⟩
def b_law : S := (.cons (.asg (.v 1) (.call "_law_tape" (.cons (.v 0) .nil))) (.cons (.asg (.v 2) (.call "_law_row" (.cons (.v 1) (.cons (.bin .add (.int 1) (.call "_law_draw" (.cons (.v 1) (.cons (.int 8) .nil)))) (.cons (.int 10) .nil))))) (.cons (.asg (.v 3) (.call "_law_up" (.cons (.v 2) .nil))) (.cons (.asg (.v 4) (.bin .fdiv (.b1 .len (.v 2)) (.int 2))) (.cons (.asg (.v 5) (.fz (.ix (.v 3) (.v 4)))) (.cons (.iff (.cmp .eq (.call "_law_mod" (.cons (.b1 .len (.v 2)) (.cons (.int 2) .nil))) (.int 0)) (.cons (.asg (.v 5) (.call "_law_div" (.cons (.call "_law_add" (.cons (.ix (.v 3) (.bin .sub (.v 4) (.int 1))) (.cons (.ix (.v 3) (.v 4)) .nil))) (.cons (.tup (.cons (.int 2) (.cons (.int 1) .nil))) .nil)))) .nil) .nil) (.cons (.iff (.not (.call "_law_is" (.cons (.call "median" (.cons (.v 2) .nil)) (.cons (.v 5) .nil)))) (.cons (.ret (.bl false)) .nil) .nil) (.cons (.asg (.v 6) (.call "_law_frac" (.cons (.call "_law_draw" (.cons (.v 1) (.cons (.int 13) .nil))) (.cons (.int 12) .nil)))) (.cons (.asg (.v 7) (.lst .nil)) (.cons (.forr (.v 8) (.seq (.v 3)) (.cons (.asg (.v 9) (.b1 .len (.comp (.v 10) (.seq (.v 2)) (.not (.call "_law_lt" (.cons (.v 8) (.cons (.v 10) .nil)))) (.fz (.v 10)) [10]))) (.cons (.iff (.not (.call "_law_lt" (.cons (.tup (.cons (.fz (.v 9)) (.cons (.int 1) .nil))) (.cons (.call "_law_mul" (.cons (.v 6) (.cons (.tup (.cons (.b1 .len (.v 2)) (.cons (.int 1) .nil))) .nil))) .nil)))) (.cons (.ex (.mm .append (.v 7) (.cons (.fz (.v 8)) .nil))) .nil) .nil) .nil))) (.cons (.iff (.not (.call "_law_is" (.cons (.call "quantile" (.cons (.v 2) (.cons (.v 6) .nil))) (.cons (.ix (.v 7) (.int 0)) .nil)))) (.cons (.ret (.bl false)) .nil) .nil) (.cons (.ret (.and (.call "_law_none" (.cons (.v 2) (.cons (.tup (.cons (.int 13) (.cons (.int 12) .nil))) .nil))) (.and (.call "_law_none" (.cons (.v 2) (.cons (.tup (.cons (.bin .sub (.int 0) (.int 1)) (.cons (.int 12) .nil))) .nil))) (.call "_law_none" (.cons (.lst .nil) (.cons (.v 6) .nil)))))) .nil))))))))))))
def i_law : DefI := ⟨"law", topS 31, ["script"], ["script", "tape", "row", "ordered", "half", "due", "share", "fits", "a", "many", "b"], ⟨1, 11, b_law⟩⟩
def defs0 : List DefI := [i_fraction, i_add, i_over, i_less, i_in_order, i_need_some, i_median, i_ascending, i_quantile, i__law_draw, i__law_tape, i__law_is, i__law_mod, i__law_gcd, i__law_frac, i__law_add, i__law_mul, i__law_div, i__law_lt, i__law_up, i__law_fraction, i__law_row, i__law_none, i_law]
def pd : PD := ⟨defs0, [(("ZERO" : Str), ((.tup [(.int 0), (.int 1)]) : D))], [("MarkError", true), ("BadNumber", true)], [("MarkError", "MarkError"), ("BadNumber", "BadNumber"), ("BadNumber", "MarkError")], true⟩
theorem f_fraction : i_fraction.Fits := ⟨⟨rfl, rfl, rfl, by decide +kernel, rfl, by decide +kernel, by decide +kernel⟩, fun _ _ _ _ _ _ us hl => match us, hl with | [_, _], _ => rfl⟩
theorem f_add : i_add.Fits := ⟨⟨rfl, rfl, rfl, by decide +kernel, rfl, by decide +kernel, by decide +kernel⟩, fun _ _ _ _ _ _ us hl => match us, hl with | [_, _], _ => rfl⟩
theorem f_over : i_over.Fits := ⟨⟨rfl, rfl, rfl, by decide +kernel, rfl, by decide +kernel, by decide +kernel⟩, fun _ _ _ _ _ _ us hl => match us, hl with | [_, _], _ => rfl⟩
theorem f_less : i_less.Fits := ⟨⟨rfl, rfl, rfl, by decide +kernel, rfl, by decide +kernel, by decide +kernel⟩, fun _ _ _ _ _ _ us hl => match us, hl with | [_, _], _ => rfl⟩
theorem f_in_order : i_in_order.Fits := ⟨⟨rfl, rfl, rfl, by decide +kernel, rfl, by decide +kernel, by decide +kernel⟩, fun _ _ _ _ _ _ us hl => match us, hl with | [_], _ => rfl⟩
theorem f_need_some : i_need_some.Fits := ⟨⟨rfl, rfl, rfl, by decide +kernel, rfl, by decide +kernel, by decide +kernel⟩, fun _ _ _ _ _ _ us hl => match us, hl with | [_], _ => rfl⟩
theorem f_median : i_median.Fits := ⟨⟨rfl, rfl, rfl, by decide +kernel, rfl, by decide +kernel, by decide +kernel⟩, fun _ _ _ _ _ _ us hl => match us, hl with | [_], _ => rfl⟩
theorem f_ascending : i_ascending.Fits := ⟨⟨rfl, rfl, rfl, by decide +kernel, rfl, by decide +kernel, by decide +kernel⟩, fun _ _ _ _ _ _ us hl => match us, hl with | [_], _ => rfl⟩
theorem f_quantile : i_quantile.Fits := ⟨⟨rfl, rfl, rfl, by decide +kernel, rfl, by decide +kernel, by decide +kernel⟩, fun _ _ _ _ _ _ us hl => match us, hl with | [_, _], _ => rfl⟩
theorem f__law_draw : i__law_draw.Fits := ⟨⟨rfl, rfl, rfl, by decide +kernel, rfl, by decide +kernel, by decide +kernel⟩, fun _ _ _ _ _ _ us hl => match us, hl with | [_, _], _ => rfl⟩
theorem f__law_tape : i__law_tape.Fits := ⟨⟨rfl, rfl, rfl, by decide +kernel, rfl, by decide +kernel, by decide +kernel⟩, fun _ _ _ _ _ _ us hl => match us, hl with | [_], _ => rfl⟩
theorem f__law_is : i__law_is.Fits := ⟨⟨rfl, rfl, rfl, by decide +kernel, rfl, by decide +kernel, by decide +kernel⟩, fun _ _ _ _ _ _ us hl => match us, hl with | [_, _], _ => rfl⟩
theorem f__law_mod : i__law_mod.Fits := ⟨⟨rfl, rfl, rfl, by decide +kernel, rfl, by decide +kernel, by decide +kernel⟩, fun _ _ _ _ _ _ us hl => match us, hl with | [_, _], _ => rfl⟩
theorem f__law_gcd : i__law_gcd.Fits := ⟨⟨rfl, rfl, rfl, by decide +kernel, rfl, by decide +kernel, by decide +kernel⟩, fun _ _ _ _ _ _ us hl => match us, hl with | [_, _], _ => rfl⟩
theorem f__law_frac : i__law_frac.Fits := ⟨⟨rfl, rfl, rfl, by decide +kernel, rfl, by decide +kernel, by decide +kernel⟩, fun _ _ _ _ _ _ us hl => match us, hl with | [_, _], _ => rfl⟩
theorem f__law_add : i__law_add.Fits := ⟨⟨rfl, rfl, rfl, by decide +kernel, rfl, by decide +kernel, by decide +kernel⟩, fun _ _ _ _ _ _ us hl => match us, hl with | [_, _], _ => rfl⟩
theorem f__law_mul : i__law_mul.Fits := ⟨⟨rfl, rfl, rfl, by decide +kernel, rfl, by decide +kernel, by decide +kernel⟩, fun _ _ _ _ _ _ us hl => match us, hl with | [_, _], _ => rfl⟩
theorem f__law_div : i__law_div.Fits := ⟨⟨rfl, rfl, rfl, by decide +kernel, rfl, by decide +kernel, by decide +kernel⟩, fun _ _ _ _ _ _ us hl => match us, hl with | [_, _], _ => rfl⟩
theorem f__law_lt : i__law_lt.Fits := ⟨⟨rfl, rfl, rfl, by decide +kernel, rfl, by decide +kernel, by decide +kernel⟩, fun _ _ _ _ _ _ us hl => match us, hl with | [_, _], _ => rfl⟩
theorem f__law_up : i__law_up.Fits := ⟨⟨rfl, rfl, rfl, by decide +kernel, rfl, by decide +kernel, by decide +kernel⟩, fun _ _ _ _ _ _ us hl => match us, hl with | [_], _ => rfl⟩
theorem f__law_fraction : i__law_fraction.Fits := ⟨⟨rfl, rfl, rfl, by decide +kernel, rfl, by decide +kernel, by decide +kernel⟩, fun _ _ _ _ _ _ us hl => match us, hl with | [_, _], _ => rfl⟩
theorem f__law_row : i__law_row.Fits := ⟨⟨rfl, rfl, rfl, by decide +kernel, rfl, by decide +kernel, by decide +kernel⟩, fun _ _ _ _ _ _ us hl => match us, hl with | [_, _, _], _ => rfl⟩
theorem f__law_none : i__law_none.Fits := ⟨⟨rfl, rfl, rfl, by decide +kernel, rfl, by decide +kernel, by decide +kernel⟩, fun _ _ _ _ _ _ us hl => match us, hl with | [_, _], _ => rfl⟩
theorem f_law : i_law.Fits := ⟨⟨rfl, rfl, rfl, by decide +kernel, rfl, by decide +kernel, by decide +kernel⟩, fun _ _ _ _ _ _ us hl => match us, hl with | [_], _ => rfl⟩
theorem fits : ∀ e ∈ pd.defs, e.Fits := by
  intro e he
  have he : e ∈ defs0 := he
  simp only [defs0, List.mem_append, List.mem_cons, List.not_mem_nil, or_false] at he
  rcases he with rfl | rfl | rfl | rfl | rfl | rfl | rfl | rfl | rfl | rfl | rfl | rfl | rfl | rfl | rfl | rfl | rfl | rfl | rfl | rfl | rfl | rfl | rfl | rfl
  · exact f_fraction
  · exact f_add
  · exact f_over
  · exact f_less
  · exact f_in_order
  · exact f_need_some
  · exact f_median
  · exact f_ascending
  · exact f_quantile
  · exact f__law_draw
  · exact f__law_tape
  · exact f__law_is
  · exact f__law_mod
  · exact f__law_gcd
  · exact f__law_frac
  · exact f__law_add
  · exact f__law_mul
  · exact f__law_div
  · exact f__law_lt
  · exact f__law_up
  · exact f__law_fraction
  · exact f__law_row
  · exact f__law_none
  · exact f_law
def loose : List PySem.Str := ([("__name__" : PySem.Str), ("MarkError" : PySem.Str), ("BadNumber" : PySem.Str), ("ZERO" : PySem.Str), ("fraction" : PySem.Str), ("add" : PySem.Str), ("over" : PySem.Str), ("less" : PySem.Str), ("in_order" : PySem.Str), ("need_some" : PySem.Str), ("median" : PySem.Str), ("ascending" : PySem.Str), ("quantile" : PySem.Str), ("_law_draw" : PySem.Str), ("_law_tape" : PySem.Str), ("_law_is" : PySem.Str), ("_law_mod" : PySem.Str), ("_law_gcd" : PySem.Str), ("_law_frac" : PySem.Str), ("_law_add" : PySem.Str), ("_law_mul" : PySem.Str), ("_law_div" : PySem.Str), ("_law_lt" : PySem.Str), ("_law_up" : PySem.Str), ("_law_fraction" : PySem.Str), ("_law_row" : PySem.Str), ("_law_none" : PySem.Str)] : List PySem.Str)
abbrev R : PySem.W.OpenRow := PySem.W.OpenLaw.row PySem.Challenge.rw_fairmarks_k04_middles_and_quantiles
abbrev qv : Program := PySem.W.view R.prog [0, 31]
abbrev hk : PySem.W.Hook := He.hookX 6 pd.fa pd.fn [] [] pd.ex
def ob (s : PySem.W.SharedT) : He.AlX := He.obsX 6 pd.fa pd.fn [] [] pd.ex (HandSHeadRun.getT s)
theorem ob_eq (s : PySem.W.SharedT) : ob s = hk.obs s.abs := He.obsX_eq (HandSHeadRun.getT_eq s)
theorem runH (w : World) : HandSHeadRun.RunEqI R qv hk ob 3000 loose w := by
  unfold HandSHeadRun.RunEqI
  kernel_rfl
theorem pd_ok : pd.ok = true := by decide +kernel
theorem only_law : ∀ e ∈ pd.defs, e.name = i_law.name → e = i_law := by
  intro e he hn
  have he : e ∈ defs0 := he
  simp only [defs0, List.mem_append, List.mem_cons, List.not_mem_nil, or_false] at he
  rcases he with rfl | rfl | rfl | rfl | rfl | rfl | rfl | rfl | rfl | rfl | rfl | rfl | rfl | rfl | rfl | rfl | rfl | rfl | rfl | rfl | rfl | rfl | rfl | rfl <;> first | rfl | (exact absurd hn (by decide +kernel))
instance : Has pd.prg "fraction" Fr.fd_fraction := ⟨by kernel_rfl⟩
instance : Has pd.prg "add" Fr.fd_add := ⟨by kernel_rfl⟩
instance : Has pd.prg "over" Fr.fd_over := ⟨by kernel_rfl⟩
instance : Has pd.prg "less" Fr.fd_less := ⟨by kernel_rfl⟩
instance : Has pd.prg "in_order" Fr.fd_in_order := ⟨by kernel_rfl⟩
instance : Has pd.prg "need_some" Fr.fd_need_some := ⟨by kernel_rfl⟩
instance : Has pd.prg "median" Fr.fd_median := ⟨by kernel_rfl⟩
instance : Has pd.prg "ascending" Fr.fd_ascending := ⟨by kernel_rfl⟩
instance : Has pd.prg "quantile" Fr.fd_quantile := ⟨by kernel_rfl⟩
instance : Has pd.prg "_law_draw" Fr.fd__law_draw := ⟨by kernel_rfl⟩
instance : Has pd.prg "_law_tape" Fr.fd__law_tape := ⟨by kernel_rfl⟩
instance : Has pd.prg "_law_is" Fr.fd__law_is := ⟨by kernel_rfl⟩
instance : Has pd.prg "_law_mod" Fr.fd__law_mod := ⟨by kernel_rfl⟩
instance : Has pd.prg "_law_gcd" Fr.fd__law_gcd := ⟨by kernel_rfl⟩
instance : Has pd.prg "_law_frac" Fr.fd__law_frac := ⟨by kernel_rfl⟩
instance : Has pd.prg "_law_add" Fr.fd__law_add := ⟨by kernel_rfl⟩
instance : Has pd.prg "_law_mul" Fr.fd__law_mul := ⟨by kernel_rfl⟩
instance : Has pd.prg "_law_div" Fr.fd__law_div := ⟨by kernel_rfl⟩
instance : Has pd.prg "_law_lt" Fr.fd__law_lt := ⟨by kernel_rfl⟩
instance : Has pd.prg "_law_up" Fr.fd__law_up := ⟨by kernel_rfl⟩
instance : Has pd.prg "_law_fraction" Fr.fd__law_fraction := ⟨by kernel_rfl⟩
instance : Has pd.prg "_law_row" Fr.fd__law_row := ⟨by kernel_rfl⟩
instance : Has pd.prg "_law_none" Fr.K04.fd__law_none := ⟨by kernel_rfl⟩
instance : Has pd.prg "law" Fr.K04.fd_law := ⟨by kernel_rfl⟩
instance : HasG pd.prg "math.gcd" .non := ⟨by kernel_rfl⟩
instance : HasG pd.prg "ZERO" (fr (0, 1)) := ⟨by kernel_rfl⟩
instance : HasG pd.prg (excKey "BadNumber") (.bl true) := ⟨by kernel_rfl⟩
instance : HasSub pd.prg "BadNumber" "BadNumber" true := ⟨by kernel_rfl⟩
theorem the_law : ∃ F, callN pd.prg 12 i_law.name = some F ∧ ∀ ns : List Int, ns.length ≤ 63 → ∃ ds', F [.lst .frz (ns.map D.int)] = .ok (.bl true) ds' :=
  ⟨run pd.prg 11 Fr.K04.fd_law, callN_has (f := "law"), fun ns _ => Fr.K04.s_law ns⟩
end Ev
open PySem PySem.W PySem.Calls PyProof.Rows
theorem PySem.Challenge.cw_fairmarks_k04_middles_and_quantiles_holds : PySem.Challenge.rw_fairmarks_k04_middles_and_quantiles.Holds := by
  w_on; o_law
  refine HandSHeadRun.head_imp (r := OpenLaw.row PySem.Challenge.rw_fairmarks_k04_middles_and_quantiles) (q := Ev.qv) (H := Ev.hk) (ob := Ev.ob) (M := 3000) (loose := Ev.loose) (d := HandSHeadRun.topDef (OpenLaw.row PySem.Challenge.rw_fairmarks_k04_middles_and_quantiles).prog 31) (kwd := []) Ev.ob_eq
    Ev.runH (by kernel_rfl) (by kernel_rfl) (by kernel_rfl) (by rfl) (by first | assumption | decide +kernel) (by decide +kernel) ⟨rfl, rfl, rfl, rfl, rfl, by decide +kernel⟩ ?hw ?hc
  case hw => w_witness2
  case hc =>
    refine Ev.walk_ofEw (l := PySem.Challenge.rw_fairmarks_k04_middles_and_quantiles) (n := 63) (k := 12) (x := "script") (CX := fun w => L2.CX (PySem.Challenge.rw_fairmarks_k04_middles_and_quantiles).prog w) rfl (by decide) (by kernel_rfl) ⟨rfl, by decide, by decide⟩ ?F Ev.noCX
    intro w mg fa h Y G hmg0
    obtain ⟨K, KX, c⟩ := Y
    have hmg : mg Ev.i_law.name = some (.ref fa) := by
      have e : (HandSHeadRun.topDef (OpenLaw.row PySem.Challenge.rw_fairmarks_k04_middles_and_quantiles).prog 31).name = Ev.i_law.name := by kernel_rfl
      rw [← e]
      exact hmg0
    obtain ⟨F, hF, hl⟩ := Ev.the_law
    exact Ev.law_F (d := Ev.i_law) KX G hmg c Ev.pd_ok Ev.fits hF Ev.only_law rfl hl
