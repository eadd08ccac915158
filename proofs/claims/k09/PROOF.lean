import PyProof.Rows.All
import Wide.All
import OpenK.AllK
import Wide.FinOn
import KE.KStateDown
import Lean
import HandS.ForMost
import HandS.Exc
import HandS.TryOnly
import HandS.ExcOwn
import HandS.WordsExc
import HandS.Defaults
import HandS.IsInst
import HandS.OwnEq
import HandS.Gcd
import HandS.Wide
import HandS.Style
import HandS.SlotsOwn
import HandS.TupAny
import KE.OsHead
import KE.HD0
import KE.HD1
import KE.HD2
import KE.HD3
import HandS.HeadEnd
import HandS.HeadHook1
import HandS.HeadHook2
import HandS.Walk
import PySem.Challenge.RW_similarforms_k09_whole_common_divisors
set_option Elab.async false
set_option linter.all false
set_option maxRecDepth 100000
set_option maxHeartbeats 4000000
/-! the grounds: the rationals, the numbers modulo 2, 3, 5, 7, as fields -/
namespace K9
class Fld (K : Type) extends Lean.Grind.CommRing K where
  inv : K → K
  deq : DecidableEq K
  ok : K → Prop
  ok_zero : ok 0
  ok_neg : ∀ a : K, ok (-a) → ok a
  mul_inv : ∀ a : K, a ≠ 0 → a * inv a = 1
  one_ne : (1 : K) ≠ 0
instance fldDec (K : Type) [Fld K] : DecidableEq K := Fld.deq
/-- the bound below which the model's // goes by plain long division -/
def bnd : Nat := 4400
def okQ (r : Rat) : Prop := r.num.natAbs < 2 ^ bnd ∧ r.den < 2 ^ bnd
theorem one_lt_bnd : 1 < 2 ^ bnd := Nat.one_lt_two_pow (by decide)
instance fldQ : Fld Rat where
  inv := fun r => r⁻¹
  deq := inferInstance
  ok := okQ
  ok_zero := ⟨Nat.lt_trans Nat.zero_lt_one one_lt_bnd, one_lt_bnd⟩
  ok_neg := fun a h => ⟨by have := h.1; rw [Rat.neg_num, Int.natAbs_neg] at this; exact this, h.2⟩
  mul_inv := fun a h => Rat.mul_inv_cancel a h
  one_ne := by decide
instance fld2 : Fld (Fin 2) where
  inv := fun a => a
  deq := inferInstance
  ok := fun _ => True
  ok_zero := trivial
  ok_neg := fun _ _ => trivial
  mul_inv := by decide
  one_ne := by decide
instance fld3 : Fld (Fin 3) where
  inv := fun a => a
  deq := inferInstance
  ok := fun _ => True
  ok_zero := trivial
  ok_neg := fun _ _ => trivial
  mul_inv := by decide
  one_ne := by decide
instance fld5 : Fld (Fin 5) where
  inv := fun a => a * a * a
  deq := inferInstance
  ok := fun _ => True
  ok_zero := trivial
  ok_neg := fun _ _ => trivial
  mul_inv := by decide
  one_ne := by decide
instance fld7 : Fld (Fin 7) where
  inv := fun a => a * a * a * a * a
  deq := inferInstance
  ok := fun _ => True
  ok_zero := trivial
  ok_neg := fun _ _ => trivial
  mul_inv := by decide
  one_ne := by decide
/-- the grounds of this law -/
inductive Gd where
  | q | p2 | p3 | p5 | p7
  deriving DecidableEq
def Gd.p : Gd → Nat
  | .q => 0 | .p2 => 2 | .p3 => 3 | .p5 => 5 | .p7 => 7
def El : Gd → Type
  | .q => Rat | .p2 => Fin 2 | .p3 => Fin 3 | .p5 => Fin 5 | .p7 => Fin 7
instance fldEl : (g : Gd) → Fld (El g)
  | .q => fldQ | .p2 => fld2 | .p3 => fld3 | .p5 => fld5 | .p7 => fld7
/-- an int, taken into the ground -/
def ofI : (g : Gd) → Int → El g
  | .q, n => (Rat.ofInt n : Rat)
  | .p2, n => (⟨(n % 2).toNat, by omega⟩ : Fin 2)
  | .p3, n => (⟨(n % 3).toNat, by omega⟩ : Fin 3)
  | .p5, n => (⟨(n % 5).toNat, by omega⟩ : Fin 5)
  | .p7, n => (⟨(n % 7).toNat, by omega⟩ : Fin 7)
theorem ofI_zero (g : Gd) : ofI g 0 = 0 := by cases g <;> rfl
theorem ofI_one (g : Gd) : ofI g 1 = 1 := by cases g <;> rfl
theorem Gd.p_inj {g g' : Gd} (h : g.p = g'.p) : g = g' := by cases g <;> cases g' <;> first | rfl | cases h
section
variable {K : Type} [Fld K]
theorem inv_mul (a : K) (h : a ≠ 0) : Fld.inv a * a = 1 := by
  have := Fld.mul_inv a h
  grind
theorem mul_ne {a b : K} (ha : a ≠ 0) (hb : b ≠ 0) : a * b ≠ 0 := fun e => by
  have h1 := Fld.mul_inv a ha
  apply hb
  have : Fld.inv a * (a * b) = b := by grind
  rw [e] at this
  grind
end
end K9

/-! the mirror: what the program's defs compute, over rows of a field -/
namespace K9
section
variable {K : Type} [Fld K]
/-- without zeros at the end -/
def trim : List K → List K
  | [] => []
  | a :: l => match trim l with
    | [] => if a = 0 then [] else [a]
    | b :: t => a :: b :: t
def Tr (l : List K) : Prop := trim l = l
def lst (l : List K) : K := l.getD (l.length - 1) 0
def padTo (l : List K) (n : Nat) : List K := l ++ List.replicate (n - l.length) 0
def addRow (a b : List K) : List K := List.zipWith (· + ·) (padTo a (max a.length b.length)) (padTo b (max a.length b.length))
/-- n terms of the k-th coefficient of a product, from i = lo on -/
def psum (a b : List K) (k lo : Nat) : Nat → K
  | 0 => 0
  | n + 1 => psum a b k lo n + a.getD (lo + n) 0 * b.getD (k - (lo + n)) 0
def mulC (a b : List K) (k : Nat) : K := psum a b k (k + 1 - b.length) (min (k + 1) a.length - (k + 1 - b.length))
def mulRow (a b : List K) : List K := (List.range (a.length + b.length - 1)).map (mulC a b)
/-- one turn of the division at place j: rest, factor -/
def divRest (b r : List K) (fac : K) (j : Nat) : List K := r.take j ++ (List.range (b.length - 1)).map fun i => r.getD (j + i) 0 - fac * b.getD i 0
def divGo (b : List K) (h : K) : Nat → List K → List K → List K × List K
  | 0, r, q => (q, r)
  | j + 1, r, q => divGo b h j (divRest b r (lst r * h) j) (lst r * h :: q)
def divRow (a b : List K) : List K × List K := divGo b (Fld.inv (lst b)) (a.length + 1 - b.length) a []
def padd (a b : List K) : List K := trim (addRow a b)
def negR (a : List K) : List K := a.map fun x => -x
def psub (a b : List K) : List K := trim (addRow a (negR b))
def pmul (a b : List K) : List K := trim (mulRow a b)
def pdiv (a b : List K) : List K := trim (divRow a b).1
def pmod (a b : List K) : List K := trim (divRow a b).2
def scaled (c : K) (l : List K) : List K := trim (l.map fun x => c * x)
def monic (l : List K) : List K := if l = [] then [] else scaled (Fld.inv (lst l)) l
def gcdF : Nat → List K → List K → List K
  | 0, f, _ => f
  | n + 1, f, g => if g = [] then f else gcdF n g (pmod f g)
def cdiv (f g : List K) : List K := monic (gcdF g.length f g)
def cmul (f g : List K) : List K := if f = [] ∨ g = [] then [] else monic (pdiv (pmul f g) (cdiv f g))
structure Cof (K : Type) where
  f : List K
  g : List K
  u : List K
  s : List K
  v : List K
  t : List K
def Cof.next (c : Cof K) : Cof K := ⟨c.g, pmod c.f c.g, c.s, psub c.u (pmul (pdiv c.f c.g) c.s), c.t, psub c.v (pmul (pdiv c.f c.g) c.t)⟩
def cofF : Nat → Cof K → Cof K
  | 0, c => c
  | n + 1, c => if c.g = [] then c else cofF n c.next
def cof0 (f g : List K) : Cof K := ⟨f, g, [1], [], [], [1]⟩
def cofEnd (c : Cof K) : List K × List K × List K := if c.f = [] then (c.f, [], []) else (scaled (Fld.inv (lst c.f)) c.f, scaled (Fld.inv (lst c.f)) c.u, scaled (Fld.inv (lst c.f)) c.v)
def cofs (f g : List K) : List K × List K × List K := cofEnd (cofF g.length (cof0 f g))

/-! ### where the program's numbers stay small enough -/
def OkL (l : List K) : Prop := ∀ x ∈ l, Fld.ok x
structure MulOk (a b : List K) : Prop where
  oa : OkL a
  ob : OkL b
  prod : ∀ i j, Fld.ok (a.getD i 0 * b.getD j 0)
  sum : ∀ k lo n, Fld.ok (psum a b k lo n)
structure StepOk (b r : List K) (h : K) (j : Nat) : Prop where
  or : OkL r
  fac : Fld.ok (lst r * h)
  prod : ∀ i, Fld.ok (lst r * h * b.getD i 0)
def DivGoOk (b : List K) (h : K) : Nat → List K → Prop
  | 0, _ => True
  | j + 1, r => StepOk b r h j ∧ DivGoOk b h j (divRest b r (lst r * h) j)
structure DivOk (a b : List K) : Prop where
  ob : OkL b
  oinv : Fld.ok (Fld.inv (lst b))
  go : DivGoOk b (Fld.inv (lst b)) (a.length + 1 - b.length) a
structure AddOk (a b : List K) : Prop where
  oa : OkL a
  ob : OkL b
structure ScOk (c : K) (l : List K) : Prop where
  oc : Fld.ok c
  ol : OkL l
structure MonOk (l : List K) : Prop where
  ol : OkL l
  sc : ScOk (Fld.inv (lst l)) l
def EuOk : Nat → List K → List K → Prop
  | 0, f, _ => MonOk f
  | n + 1, f, g => if g = [] then MonOk f else DivOk f g ∧ EuOk n g (pmod f g)
structure CofStepOk (c : Cof K) : Prop where
  div : DivOk c.f c.g
  qg : MulOk (pdiv c.f c.g) c.g
  f_ : AddOk c.f (negR (pmul (pdiv c.f c.g) c.g))
  qs : MulOk (pdiv c.f c.g) c.s
  u_ : AddOk c.u (negR (pmul (pdiv c.f c.g) c.s))
  qt : MulOk (pdiv c.f c.g) c.t
  v_ : AddOk c.v (negR (pmul (pdiv c.f c.g) c.t))
structure CofEndOk (c : Cof K) : Prop where
  of : OkL c.f
  oinv : Fld.ok (Fld.inv (lst c.f))
  ou : OkL c.u
  ov : OkL c.v
def CofOk : Nat → Cof K → Prop
  | 0, c => CofEndOk c
  | n + 1, c => if c.g = [] then CofEndOk c else CofStepOk c ∧ CofOk n c.next
end
end K9

namespace K9
section
variable {K : Type} [Fld K]
theorem trim_nil : trim ([] : List K) = [] := rfl
theorem trim_cons0 {a : K} {l : List K} (h : trim l = []) : trim (a :: l) = if a = 0 then [] else [a] := by
  show (match trim l with | [] => if a = 0 then [] else [a] | b :: t => a :: b :: t) = _
  rw [h]
theorem trim_cons1 {a : K} {l : List K} (h : trim l ≠ []) : trim (a :: l) = a :: trim l := by
  show (match trim l with | [] => if a = 0 then [] else [a] | b :: t => a :: b :: t) = _
  cases e : trim l with
  | nil => exact absurd e h
  | cons b t => rfl
theorem trim_snoc0 : ∀ l : List K, trim (l ++ [0]) = trim l
  | [] => by
    show trim [(0 : K)] = []
    rw [trim_cons0 (l := []) rfl, if_pos rfl]
  | a :: l => by
    show trim (a :: (l ++ [0])) = trim (a :: l)
    by_cases h : trim l = []
    · rw [trim_cons0 h, trim_cons0 (by rw [trim_snoc0 l]; exact h)]
    · rw [trim_cons1 h, trim_cons1 (by rw [trim_snoc0 l]; exact h), trim_snoc0 l]
theorem trim_snoc {a : K} (ha : a ≠ 0) : ∀ l : List K, trim (l ++ [a]) = l ++ [a]
  | [] => by
    show trim [a] = [a]
    rw [trim_cons0 (l := []) rfl, if_neg ha]
  | b :: l => by
    show trim (b :: (l ++ [a])) = b :: (l ++ [a])
    have ih := trim_snoc ha l
    rw [trim_cons1 (by rw [ih]; simp), ih]
theorem take_get {α : Type} {l : List α} {n : Nat} {a : α} (h : l[n]? = some a) : l.take (n + 1) = l.take n ++ [a] := by
  obtain ⟨h1, h2⟩ := List.getElem?_eq_some_iff.mp h
  rw [List.take_succ_eq_append_getElem h1, h2]
theorem getD_of {l : List K} {n : Nat} {a : K} (h : l[n]? = some a) : l.getD n 0 = a := by
  rw [List.getD_eq_getElem?_getD, h]; rfl
theorem getD_out {l : List K} {n : Nat} (h : l.length ≤ n) : l.getD n 0 = 0 := by
  rw [List.getD_eq_getElem?_getD, List.getElem?_eq_none h]; rfl
theorem trim_idem : ∀ l : List K, trim (trim l) = trim l
  | [] => rfl
  | a :: l => by
    by_cases h : trim l = []
    · rw [trim_cons0 h]
      by_cases ha : a = 0
      · rw [if_pos ha]; rfl
      · rw [if_neg ha, trim_cons0 (l := []) rfl, if_neg ha]
    · rw [trim_cons1 h, trim_cons1 (by rw [trim_idem l]; exact h), trim_idem l]
theorem tr_trim (l : List K) : Tr (trim l) := trim_idem l
theorem tr_nil : Tr ([] : List K) := rfl
theorem trim_len : ∀ l : List K, (trim l).length ≤ l.length
  | [] => Nat.le_refl _
  | a :: l => by
    have ih := trim_len l
    by_cases h : trim l = []
    · rw [trim_cons0 h]
      by_cases ha : a = 0
      · rw [if_pos ha]; exact Nat.zero_le _
      · rw [if_neg ha]; exact Nat.succ_le_succ (Nat.zero_le _)
    · rw [trim_cons1 h]; exact Nat.succ_le_succ ih
theorem trim_sub : ∀ (l : List K) (x : K), x ∈ trim l → x ∈ l
  | [], x, h => h
  | a :: l, x, h => by
    by_cases h0 : trim l = []
    · rw [trim_cons0 h0] at h
      by_cases ha : a = 0
      · rw [if_pos ha] at h; cases h
      · rw [if_neg ha] at h
        rw [List.mem_singleton.mp h]
        exact List.mem_cons_self
    · rw [trim_cons1 h0] at h
      rcases List.mem_cons.mp h with e | e
      · rw [e]; exact List.mem_cons_self
      · exact List.mem_cons_of_mem _ (trim_sub l x e)
/-- the last of a trimmed row is not zero -/
theorem tr_lst {l : List K} (h : Tr l) (hn : l ≠ []) : lst l ≠ 0 := by
  intro e
  obtain ⟨m, a, rfl⟩ : ∃ m a, l = m ++ [a] := ⟨l.dropLast, l.getLast hn, (List.dropLast_concat_getLast hn).symm⟩
  have ea : lst (m ++ [a]) = a := by
    unfold lst
    apply getD_of
    simp
  rw [ea] at e
  subst e
  have h1 : trim (m ++ [0]) = m ++ [0] := h
  rw [trim_snoc0] at h1
  have h2 := trim_len m
  rw [h1] at h2
  simp at h2
  omega
theorem lst_get {l : List K} (hn : l ≠ []) : l[l.length - 1]? = some (lst l) := by
  have h0 : 0 < l.length := List.length_pos_iff.mpr hn
  have h1 : l.length - 1 < l.length := by omega
  have e : l[l.length - 1]? = some l[l.length - 1] := List.getElem?_eq_getElem h1
  rw [e]
  unfold lst
  rw [getD_of e]
end
end K9

/-! rows as power series: a commutative ring -/
namespace K9
section
variable {K : Type} [Fld K]
instance fldNC : NatCast K := Lean.Grind.Semiring.natCast
instance fldIC : IntCast K := Lean.Grind.Ring.intCast
def cc (c : K) : Nat → K := fun i => if i = 0 then c else 0
def tl (f : Nat → K) : Nat → K := fun i => f (i + 1)
def cv : (Nat → K) → (Nat → K) → Nat → K
  | f, g, 0 => f 0 * g 0
  | f, g, n + 1 => f 0 * g (n + 1) + cv (tl f) g n
theorem cv_succ (f g : Nat → K) (n : Nat) : cv f g (n + 1) = f 0 * g (n + 1) + cv (tl f) g n := rfl
theorem cv_right : ∀ (n : Nat) (f g : Nat → K), cv f g (n + 1) = f (n + 1) * g 0 + cv f (tl g) n
  | 0, f, g => by
    show f 0 * g 1 + f 1 * g 0 = f 1 * g 0 + f 0 * g 1
    grind
  | n + 1, f, g => by
    rw [cv_succ, cv_right n (tl f) g, cv_succ f (tl g)]
    show f 0 * g (n + 2) + (f (n + 2) * g 0 + cv (tl f) (tl g) n) = f (n + 2) * g 0 + (f 0 * g (n + 2) + cv (tl f) (tl g) n)
    grind
theorem cv_comm : ∀ (n : Nat) (f g : Nat → K), cv f g n = cv g f n
  | 0, f, g => by
    show f 0 * g 0 = g 0 * f 0
    grind
  | n + 1, f, g => by
    rw [cv_succ, cv_right n g f, cv_comm n (tl f) g]
    grind
theorem cv_add : ∀ (n : Nat) (f f' g : Nat → K), cv (fun i => f i + f' i) g n = cv f g n + cv f' g n
  | 0, f, f', g => by
    show (f 0 + f' 0) * g 0 = f 0 * g 0 + f' 0 * g 0
    grind
  | n + 1, f, f', g => by
    rw [cv_succ, cv_succ, cv_succ]
    show (f 0 + f' 0) * g (n + 1) + cv (fun i => tl f i + tl f' i) g n = _
    rw [cv_add n]
    grind
theorem cv_smul : ∀ (n : Nat) (c : K) (f g : Nat → K), cv (fun i => c * f i) g n = c * cv f g n
  | 0, c, f, g => by
    show c * f 0 * g 0 = c * (f 0 * g 0)
    grind
  | n + 1, c, f, g => by
    rw [cv_succ, cv_succ]
    show c * f 0 * g (n + 1) + cv (fun i => c * tl f i) g n = _
    rw [cv_smul n]
    grind
theorem cv_assoc : ∀ (n : Nat) (f g h : Nat → K), cv (cv f g) h n = cv f (cv g h) n
  | 0, f, g, h => by
    show f 0 * g 0 * h 0 = f 0 * (g 0 * h 0)
    grind
  | n + 1, f, g, h => by
    rw [cv_succ, cv_succ]
    have e : tl (cv f g) = fun i => (fun j => f 0 * tl g j) i + cv (tl f) g i := funext fun i => rfl
    rw [e, cv_add, cv_smul, cv_assoc n]
    show f 0 * g 0 * h (n + 1) + (f 0 * cv (tl g) h n + cv (tl f) (cv g h) n) = f 0 * (g 0 * h (n + 1) + cv (tl g) h n) + cv (tl f) (cv g h) n
    grind
theorem cv_zero : ∀ (n : Nat) (g : Nat → K), cv (fun _ => 0) g n = 0
  | 0, g => by
    show 0 * g 0 = 0
    grind
  | n + 1, g => by
    rw [cv_succ]
    show 0 * g (n + 1) + cv (fun _ => 0) g n = 0
    rw [cv_zero n]
    grind
theorem cv_cc (c : K) (g : Nat → K) : ∀ n : Nat, cv (cc c) g n = c * g n
  | 0 => rfl
  | n + 1 => by
    rw [cv_succ]
    have e : tl (cc c) = fun _ => (0 : K) := funext fun i => (if_neg (Nat.succ_ne_zero i) : (if i + 1 = 0 then c else 0) = 0)
    rw [e, cv_zero]
    show c * g (n + 1) + 0 = _
    grind
structure PS (K : Type) where
  at_ : Nat → K
theorem PS.ext {f g : PS K} (h : ∀ i, f.at_ i = g.at_ i) : f = g := by
  obtain ⟨f⟩ := f
  obtain ⟨g⟩ := g
  exact congrArg PS.mk (funext h)
instance : Add (PS K) := ⟨fun f g => ⟨fun i => f.at_ i + g.at_ i⟩⟩
instance : Mul (PS K) := ⟨fun f g => ⟨cv f.at_ g.at_⟩⟩
instance : Neg (PS K) := ⟨fun f => ⟨fun i => - f.at_ i⟩⟩
instance : Sub (PS K) := ⟨fun f g => ⟨fun i => f.at_ i - g.at_ i⟩⟩
instance : NatCast (PS K) := ⟨fun n => ⟨cc (n : K)⟩⟩
instance : IntCast (PS K) := ⟨fun n => ⟨cc (n : K)⟩⟩
instance (n : Nat) : OfNat (PS K) n := ⟨⟨cc (OfNat.ofNat n)⟩⟩
instance : SMul Nat (PS K) := ⟨fun n f => ⟨cv (cc (n : K)) f.at_⟩⟩
instance : SMul Int (PS K) := ⟨fun n f => ⟨cv (cc (n : K)) f.at_⟩⟩
def pw (f : PS K) : Nat → PS K
  | 0 => ⟨cc 1⟩
  | n + 1 => pw f n * f
instance : HPow (PS K) Nat (PS K) := ⟨pw⟩
/-- a constant -/
def kc (c : K) : PS K := ⟨cc c⟩
theorem zero_at (i : Nat) : (0 : PS K).at_ i = 0 := by
  show (if i = 0 then (0 : K) else 0) = 0
  split <;> rfl
theorem zero_fn : (0 : PS K).at_ = fun _ => 0 := funext zero_at
theorem add_at (f g : PS K) (i : Nat) : (f + g).at_ i = f.at_ i + g.at_ i := rfl
theorem sub_at (f g : PS K) (i : Nat) : (f - g).at_ i = f.at_ i - g.at_ i := rfl
theorem neg_at (f : PS K) (i : Nat) : (-f).at_ i = - f.at_ i := rfl
theorem mul_at (f g : PS K) (i : Nat) : (f * g).at_ i = cv f.at_ g.at_ i := rfl
theorem kc_mul (c : K) (f : PS K) (i : Nat) : (kc c * f).at_ i = c * f.at_ i := cv_cc c f.at_ i
theorem one_eq : (1 : PS K) = kc 1 := rfl
instance psRing : Lean.Grind.CommRing (PS K) where
  add_zero f := PS.ext fun i => by rw [add_at, zero_at]; grind
  add_comm f g := PS.ext fun i => by rw [add_at, add_at]; grind
  add_assoc f g h := PS.ext fun i => by rw [add_at, add_at, add_at, add_at]; grind
  mul_assoc f g h := PS.ext fun i => cv_assoc i f.at_ g.at_ h.at_
  mul_comm f g := PS.ext fun i => cv_comm i f.at_ g.at_
  mul_one f := PS.ext fun i => by
    show cv f.at_ (cc 1) i = f.at_ i
    rw [cv_comm, cv_cc]
    grind
  one_mul f := PS.ext fun i => by
    show cv (cc 1) f.at_ i = f.at_ i
    rw [cv_cc]
    grind
  left_distrib f g h := PS.ext fun i => by
    show cv f.at_ (fun i => g.at_ i + h.at_ i) i = cv f.at_ g.at_ i + cv f.at_ h.at_ i
    rw [cv_comm, cv_add, cv_comm i g.at_, cv_comm i h.at_]
  right_distrib f g h := PS.ext fun i => cv_add i f.at_ g.at_ h.at_
  zero_mul f := PS.ext fun i => by rw [mul_at, zero_fn, cv_zero]
  mul_zero f := PS.ext fun i => by rw [mul_at, zero_fn, cv_comm, cv_zero]
  pow_zero f := rfl
  pow_succ f n := rfl
  ofNat_succ n := PS.ext fun i => by
    show (if i = 0 then (OfNat.ofNat (n + 1) : K) else 0) = (if i = 0 then (OfNat.ofNat n : K) else 0) + (if i = 0 then (1 : K) else 0)
    split
    · exact Lean.Grind.Semiring.ofNat_succ n
    · grind
  ofNat_eq_natCast n := PS.ext fun i => by
    show (if i = 0 then (OfNat.ofNat n : K) else 0) = (if i = 0 then (n : K) else 0)
    have e : (OfNat.ofNat n : K) = (n : K) := Lean.Grind.Semiring.ofNat_eq_natCast n
    rw [e]
  nsmul_eq_natCast_mul n f := rfl
  neg_add_cancel f := PS.ext fun i => by rw [add_at, neg_at, zero_at]; grind
  sub_eq_add_neg f g := PS.ext fun i => by rw [sub_at, add_at, neg_at]; grind
  neg_zsmul n f := PS.ext fun i => by
    show cv (cc ((-n : Int) : K)) f.at_ i = - cv (cc (n : K)) f.at_ i
    have e : ((-n : Int) : K) = - (n : K) := Lean.Grind.Ring.intCast_neg n
    rw [cv_cc, cv_cc, e]
    grind
  zsmul_natCast_eq_nsmul n f := PS.ext fun i => by
    show cv (cc (((n : Nat) : Int) : K)) f.at_ i = cv (cc (n : K)) f.at_ i
    have e : (((n : Nat) : Int) : K) = (n : K) := Lean.Grind.Ring.intCast_natCast n
    rw [e]
  intCast_ofNat n := PS.ext fun i => by
    show (if i = 0 then ((OfNat.ofNat n : Int) : K) else 0) = (if i = 0 then (OfNat.ofNat n : K) else 0)
    have e : ((OfNat.ofNat n : Int) : K) = (OfNat.ofNat n : K) := Lean.Grind.Ring.intCast_ofNat n
    rw [e]
  intCast_neg n := PS.ext fun i => by
    show (if i = 0 then ((-n : Int) : K) else 0) = - (if i = 0 then (n : K) else 0)
    have e : ((-n : Int) : K) = - (n : K) := Lean.Grind.Ring.intCast_neg n
    rw [e]
    split
    · rfl
    · grind
end
end K9

/-! rows and their series -/
namespace K9
section
variable {K : Type} [Fld K]
def co (l : List K) : PS K := ⟨fun i => l.getD i 0⟩
theorem co_at (l : List K) (i : Nat) : (co l).at_ i = l.getD i 0 := rfl
theorem co_nil : co ([] : List K) = 0 := PS.ext fun i => by rw [zero_at]; rfl
theorem trim_getD : ∀ (l : List K) (i : Nat), (trim l).getD i 0 = l.getD i 0
  | [], i => rfl
  | a :: l, i => by
    by_cases h : trim l = []
    · have ih := trim_getD l
      rw [h] at ih
      rw [trim_cons0 h]
      by_cases ha : a = 0
      · rw [if_pos ha]
        cases i with
        | zero => exact ha.symm
        | succ i => exact ih i
      · rw [if_neg ha]
        cases i with
        | zero => rfl
        | succ i => exact ih i
    · rw [trim_cons1 h]
      cases i with
      | zero => rfl
      | succ i => exact trim_getD l i
theorem co_trim (l : List K) : co (trim l) = co l := PS.ext fun i => trim_getD l i
theorem pad_get {l : List K} {n i : Nat} (hl : l.length ≤ n) (hi : i < n) : (padTo l n)[i]? = some (l.getD i 0) := by
  unfold padTo
  by_cases h : i < l.length
  · rw [List.getElem?_append_left h, List.getD_eq_getElem?_getD, List.getElem?_eq_getElem h]
    rfl
  · rw [List.getElem?_append_right (by omega), List.getElem?_replicate, if_pos (by omega), getD_out (by omega)]
theorem pad_len {l : List K} {n : Nat} (hl : l.length ≤ n) : (padTo l n).length = n := by
  unfold padTo
  rw [List.length_append, List.length_replicate]
  omega
theorem co_add (a b : List K) : co (addRow a b) = co a + co b := PS.ext fun i => by
  show (addRow a b).getD i 0 = a.getD i 0 + b.getD i 0
  unfold addRow
  by_cases h : i < max a.length b.length
  · rw [List.getD_eq_getElem?_getD, List.getElem?_zipWith, pad_get (by omega) h, pad_get (by omega) h]
    rfl
  · rw [getD_out (by rw [List.length_zipWith, pad_len (by omega), pad_len (by omega)]; omega), getD_out (by omega), getD_out (by omega)]
    grind
theorem map_getD {f : K → K} (h0 : f 0 = 0) (l : List K) (i : Nat) : (l.map f).getD i 0 = f (l.getD i 0) := by
  rw [List.getD_eq_getElem?_getD, List.getD_eq_getElem?_getD, List.getElem?_map]
  cases l[i]? with
  | none => exact h0.symm
  | some a => rfl
theorem co_neg (a : List K) : co (negR a) = - co a := PS.ext fun i => map_getD (f := fun x => -x) (by grind) a i
theorem co_scal (c : K) (a : List K) : co (a.map fun x => c * x) = kc c * co a := PS.ext fun i => by
  rw [kc_mul]
  exact map_getD (f := fun x => c * x) (by grind) a i
/-! ### products -/
def fs (f g : Nat → K) (k : Nat) : Nat → K
  | 0 => 0
  | n + 1 => fs f g k n + f n * g (k - n)
theorem fs_shift (f g : Nat → K) (k : Nat) : ∀ n, fs f g (k + 1) (n + 1) = f 0 * g (k + 1) + fs (tl f) g k n
  | 0 => by
    show 0 + f 0 * g (k + 1 - 0) = f 0 * g (k + 1) + 0
    rw [Nat.sub_zero]
    grind
  | n + 1 => by
    have ih := fs_shift f g k n
    show fs f g (k + 1) (n + 1) + f (n + 1) * g (k + 1 - (n + 1)) = f 0 * g (k + 1) + (fs (tl f) g k n + f (n + 1) * g (k - n))
    rw [ih, Nat.add_sub_add_right]
    grind
theorem cv_fs : ∀ (k : Nat) (f g : Nat → K), cv f g k = fs f g k (k + 1)
  | 0, f, g => by
    show f 0 * g 0 = 0 + f 0 * g (0 - 0)
    grind
  | k + 1, f, g => by rw [cv_succ, cv_fs k, fs_shift]
theorem fs_zero {f g : Nat → K} {k : Nat} : ∀ n, (∀ i, i < n → f i * g (k - i) = 0) → fs f g k n = 0
  | 0, _ => rfl
  | n + 1, h => by
    show fs f g k n + f n * g (k - n) = 0
    rw [fs_zero n fun i hi => h i (Nat.lt_succ_of_lt hi), h n (Nat.lt_succ_self n)]
    grind
theorem fs_more {f g : Nat → K} {k m : Nat} : ∀ d, (∀ i, m ≤ i → i < m + d → f i * g (k - i) = 0) → fs f g k (m + d) = fs f g k m
  | 0, _ => rfl
  | d + 1, h => by
    show fs f g k (m + d) + f (m + d) * g (k - (m + d)) = fs f g k m
    rw [fs_more d fun i h1 h2 => h i h1 (Nat.lt_succ_of_lt h2), h (m + d) (Nat.le_add_right _ _) (Nat.lt_succ_self _)]
    grind
theorem fs_psum (a b : List K) (k lo : Nat) : ∀ n, fs (co a).at_ (co b).at_ k (lo + n) = fs (co a).at_ (co b).at_ k lo + psum a b k lo n
  | 0 => by
    show fs (co a).at_ (co b).at_ k lo = fs (co a).at_ (co b).at_ k lo + 0
    grind
  | n + 1 => by
    have ih := fs_psum a b k lo n
    show fs (co a).at_ (co b).at_ k (lo + n) + a.getD (lo + n) 0 * b.getD (k - (lo + n)) 0 = fs (co a).at_ (co b).at_ k lo + (psum a b k lo n + a.getD (lo + n) 0 * b.getD (k - (lo + n)) 0)
    rw [ih]
    grind
theorem mulC_cv (a b : List K) (k : Nat) : mulC a b k = cv (co a).at_ (co b).at_ k := by
  rw [cv_fs]
  have h1 : fs (co a).at_ (co b).at_ k (k + 1 - b.length) = 0 := fs_zero _ fun i hi => by
    show a.getD i 0 * b.getD (k - i) 0 = 0
    rw [getD_out (l := b) (by omega)]
    grind
  have h2 := fs_psum a b k (k + 1 - b.length) (min (k + 1) a.length - (k + 1 - b.length))
  have h3 : fs (co a).at_ (co b).at_ k ((k + 1 - b.length) + (min (k + 1) a.length - (k + 1 - b.length)) + (k + 1 - ((k + 1 - b.length) + (min (k + 1) a.length - (k + 1 - b.length))))) = _ := fs_more _ fun i hi hj => by
    show a.getD i 0 * b.getD (k - i) 0 = 0
    rw [getD_out (l := a) (by omega)]
    grind
  have e : (k + 1 - b.length) + (min (k + 1) a.length - (k + 1 - b.length)) + (k + 1 - ((k + 1 - b.length) + (min (k + 1) a.length - (k + 1 - b.length)))) = k + 1 := by omega
  rw [e] at h3
  rw [h3, h2, h1]
  show mulC a b k = 0 + mulC a b k
  grind
theorem co_mul (a b : List K) : co (mulRow a b) = co a * co b := PS.ext fun k => by
  show (mulRow a b).getD k 0 = cv (co a).at_ (co b).at_ k
  by_cases h : k < a.length + b.length - 1
  · rw [← mulC_cv]
    apply getD_of
    unfold mulRow
    rw [List.getElem?_map, List.getElem?_range h]
    rfl
  · rw [getD_out (by unfold mulRow; rw [List.length_map, List.length_range]; omega), cv_fs]
    refine (fs_zero _ fun i hi => ?_).symm
    show a.getD i 0 * b.getD (k - i) 0 = 0
    by_cases hi : i < a.length
    · rw [getD_out (l := b) (by omega)]
      grind
    · rw [getD_out (l := a) (by omega)]
      grind
/-! ### shifts, division -/
def sh (j : Nat) (f : PS K) : PS K := ⟨fun i => if i < j then 0 else f.at_ (i - j)⟩
theorem sh_at (j : Nat) (f : PS K) (i : Nat) : (sh j f).at_ i = if i < j then 0 else f.at_ (i - j) := rfl
theorem sh_zero (f : PS K) : sh 0 f = f := PS.ext fun i => by rw [sh_at, if_neg (Nat.not_lt_zero i), Nat.sub_zero]
theorem sh_add (j : Nat) (f g : PS K) : sh j (f + g) = sh j f + sh j g := PS.ext fun i => by
  rw [add_at, sh_at, sh_at, sh_at, add_at]
  split
  · grind
  · rfl
theorem sh_kc (j : Nat) (c : K) (f : PS K) : sh j (kc c * f) = kc c * sh j f := PS.ext fun i => by
  rw [kc_mul, sh_at, sh_at, kc_mul]
  split
  · grind
  · rfl
theorem sh_sh (j : Nat) (f : PS K) : sh j (sh 1 f) = sh (j + 1) f := PS.ext fun i => by
  rw [sh_at, sh_at, sh_at]
  by_cases h : i < j
  · rw [if_pos h, if_pos (by omega)]
  · rw [if_neg h]
    by_cases h2 : i - j < 1
    · rw [if_pos h2, if_pos (by omega)]
    · rw [if_neg h2, if_neg (by omega)]
      congr 1
theorem sh_mul (f g : PS K) : sh 1 f * g = sh 1 (f * g) := PS.ext fun i => by
  rw [mul_at, sh_at]
  cases i with
  | zero =>
    rw [if_pos (by decide)]
    show 0 * g.at_ 0 = 0
    grind
  | succ i =>
    rw [if_neg (by omega), cv_succ]
    have e : tl (sh 1 f).at_ = f.at_ := funext fun j => by
      show (if j + 1 < 1 then 0 else f.at_ (j + 1 - 1)) = f.at_ j
      rw [if_neg (by omega), Nat.add_sub_cancel]
    rw [e]
    show 0 * g.at_ (i + 1) + cv f.at_ g.at_ i = (f * g).at_ (i + 1 - 1)
    rw [Nat.add_sub_cancel, mul_at]
    grind
theorem co_cons (c : K) (l : List K) : co (c :: l) = kc c + sh 1 (co l) := PS.ext fun i => by
  rw [add_at, sh_at]
  cases i with
  | zero =>
    rw [if_pos (by decide)]
    show c = c + 0
    grind
  | succ i =>
    rw [if_neg (by omega)]
    show l.getD i 0 = 0 + l.getD (i + 1 - 1) 0
    rw [Nat.add_sub_cancel]
    grind
theorem co_rest {b r : List K} {c : K} {j : Nat} (hr : r.length = j + b.length) (hb : 0 < b.length) (hc : c * lst b = lst r) : co r = kc c * sh j (co b) + co (divRest b r c j) := PS.ext fun i => by
  rw [add_at, kc_mul, sh_at]
  show r.getD i 0 = c * (if i < j then 0 else b.getD (i - j) 0) + (divRest b r c j).getD i 0
  have hl : (r.take j).length = j := by rw [List.length_take]; omega
  unfold divRest
  by_cases h1 : i < j
  · rw [if_pos h1, List.getD_eq_getElem?_getD (l := r.take j ++ _), List.getElem?_append_left (by omega), List.getElem?_take_of_lt h1, ← List.getD_eq_getElem?_getD]
    grind
  · rw [if_neg h1, List.getD_eq_getElem?_getD (l := r.take j ++ _), List.getElem?_append_right (by omega), hl, List.getElem?_map]
    by_cases h2 : i - j < b.length - 1
    · rw [List.getElem?_range h2]
      show r.getD i 0 = c * b.getD (i - j) 0 + (r.getD (j + (i - j)) 0 - c * b.getD (i - j) 0)
      rw [show j + (i - j) = i by omega]
      grind
    · rw [List.getElem?_eq_none (by rw [List.length_range]; omega)]
      show r.getD i 0 = c * b.getD (i - j) 0 + 0
      by_cases h3 : i = j + b.length - 1
      · have e1 : r.getD i 0 = lst r := by unfold lst; congr 1; omega
        have e2 : b.getD (i - j) 0 = lst b := by unfold lst; congr 1; omega
        rw [e1, e2, hc]
        grind
      · rw [getD_out (l := r) (by omega), getD_out (l := b) (by omega)]
        grind
theorem divRest_len' {b r : List K} {c : K} {j : Nat} (h : j ≤ r.length) (hb : 0 < b.length) : (divRest b r c j).length + 1 = j + b.length := by
  unfold divRest
  rw [List.length_append, List.length_take, List.length_map, List.length_range]
  omega
theorem co_divGo {b : List K} {h : K} (hb : 0 < b.length) (hh : lst b * h = 1) : ∀ (j : Nat) (r q : List K), (0 < j → r.length + 1 = j + b.length) → sh j (co q * co b) + co r = co (divGo b h j r q).1 * co b + co (divGo b h j r q).2
  | 0, r, q, _ => by rw [sh_zero]; rfl
  | j + 1, r, q, hl => by
    have h1 := hl (Nat.succ_pos _)
    have hr : r.length = j + b.length := by omega
    have ih := co_divGo hb hh j (divRest b r (lst r * h) j) (lst r * h :: q) fun _ => divRest_len' (by omega) hb
    show _ = co (divGo b h j (divRest b r (lst r * h) j) (lst r * h :: q)).1 * co b + co (divGo b h j (divRest b r (lst r * h) j) (lst r * h :: q)).2
    rw [← ih]
    have hc := co_rest (c := lst r * h) hr hb (by grind)
    have e : sh j (co (lst r * h :: q) * co b) = kc (lst r * h) * sh j (co b) + sh (j + 1) (co q * co b) := by
      rw [co_cons, Lean.Grind.Semiring.right_distrib, sh_mul, sh_add, sh_kc, sh_sh]
    rw [e, hc]
    grind
theorem co_divRow {a b : List K} (hb : b ≠ []) (hz : lst b ≠ 0) : co a = co (divRow a b).1 * co b + co (divRow a b).2 := by
  have h0 : 0 < b.length := List.length_pos_iff.mpr hb
  have := co_divGo h0 (Fld.mul_inv _ hz) (a.length + 1 - b.length) a [] fun _ => by omega
  have e : sh (a.length + 1 - b.length) (co ([] : List K) * co b) + co a = co a := by
    rw [co_nil, Lean.Grind.Semiring.zero_mul]
    refine PS.ext fun i => ?_
    rw [add_at, sh_at, zero_at]
    split <;> grind
  rw [e] at this
  exact this
theorem co_div {a b : List K} (hb : b ≠ []) (hz : lst b ≠ 0) : co a = co (pdiv a b) * co b + co (pmod a b) := by
  unfold pdiv pmod
  rw [co_trim, co_trim]
  exact co_divRow hb hz
theorem co_padd (a b : List K) : co (padd a b) = co a + co b := by unfold padd; rw [co_trim, co_add]
theorem co_psub (a b : List K) : co (psub a b) = co a - co b := by
  unfold psub
  rw [co_trim, co_add, co_neg]
  grind
theorem co_pmul (a b : List K) : co (pmul a b) = co a * co b := by unfold pmul; rw [co_trim, co_mul]
theorem co_scaled (c : K) (a : List K) : co (scaled c a) = kc c * co a := by unfold scaled; rw [co_trim, co_scal]
end
end K9

/-! division is unique, the gcd: exists, is unique -/
namespace K9
section
variable {K : Type} [Fld K]
theorem co_get {a b : List K} (h : co a = co b) (i : Nat) : a.getD i 0 = b.getD i 0 := congrArg (fun f : PS K => f.at_ i) h
theorem tr_lt {a b : List K} (hb : Tr b) (h : co a = co b) : ¬ a.length < b.length := fun hl => by
  have hn : b ≠ [] := fun e => by rw [e] at hl; exact Nat.not_lt_zero _ hl
  apply tr_lst hb hn
  unfold lst
  rw [← co_get h]
  exact getD_out (by omega)
theorem tr_inj {a b : List K} (ha : Tr a) (hb : Tr b) (h : co a = co b) : a = b := by
  have h1 := tr_lt hb h
  have h2 := tr_lt ha h.symm
  refine List.ext_getElem (by omega) fun i hi hj => ?_
  have := co_get h i
  rw [List.getD_eq_getElem?_getD, List.getD_eq_getElem?_getD, List.getElem?_eq_getElem hi, List.getElem?_eq_getElem hj] at this
  exact this
theorem tr_co0 {a : List K} (ha : Tr a) (h : co a = 0) : a = [] := tr_inj ha tr_nil (h.trans co_nil.symm)
theorem lst_snoc (m : List K) (a : K) : lst (m ++ [a]) = a := by
  unfold lst
  apply getD_of
  simp
theorem tr_of {l : List K} (h : lst l ≠ 0) : Tr l := by
  by_cases hn : l = []
  · subst hn; exact tr_nil
  · obtain ⟨m, a, rfl⟩ : ∃ m a, l = m ++ [a] := ⟨l.dropLast, l.getLast hn, (List.dropLast_concat_getLast hn).symm⟩
    rw [lst_snoc] at h
    exact trim_snoc h m
theorem mulRow_lst {a b : List K} (ha : a ≠ []) (hb : b ≠ []) : lst (mulRow a b) = lst a * lst b := by
  have h1 : 0 < a.length := List.length_pos_iff.mpr ha
  have h2 : 0 < b.length := List.length_pos_iff.mpr hb
  have hl : (mulRow a b).length = a.length + b.length - 1 := by unfold mulRow; rw [List.length_map, List.length_range]
  have e : (mulRow a b)[a.length + b.length - 1 - 1]? = some (mulC a b (a.length + b.length - 1 - 1)) := by
    unfold mulRow
    rw [List.getElem?_map, List.getElem?_range (by omega)]
    rfl
  unfold lst
  rw [hl, getD_of e]
  unfold mulC
  have e1 : a.length + b.length - 1 - 1 + 1 - b.length = a.length - 1 := by omega
  have e2 : min (a.length + b.length - 1 - 1 + 1) a.length - (a.length - 1) = 1 := by omega
  rw [e1, e2]
  show 0 + a.getD (a.length - 1 + 0) 0 * b.getD (a.length + b.length - 1 - 1 - (a.length - 1 + 0)) 0 = _
  have e3 : a.length + b.length - 1 - 1 - (a.length - 1 + 0) = b.length - 1 := by omega
  rw [e3, Nat.add_zero]
  grind
theorem pmul_row {a b : List K} (ha : a ≠ []) (hb : b ≠ []) (za : lst a ≠ 0) (zb : lst b ≠ 0) : pmul a b = mulRow a b :=
  tr_of (by rw [mulRow_lst ha hb]; exact mul_ne za zb)
theorem pmul_lenE {a b : List K} (ha : a ≠ []) (hb : b ≠ []) (za : lst a ≠ 0) (zb : lst b ≠ 0) : (pmul a b).length = a.length + b.length - 1 := by
  rw [pmul_row ha hb za zb]
  unfold mulRow
  rw [List.length_map, List.length_range]
theorem pmul_lst {a b : List K} (ha : a ≠ []) (hb : b ≠ []) (za : lst a ≠ 0) (zb : lst b ≠ 0) : lst (pmul a b) = lst a * lst b := by
  rw [pmul_row ha hb za zb, mulRow_lst ha hb]
theorem tr_pmul (a b : List K) : Tr (pmul a b) := tr_trim _
theorem tr_psub (a b : List K) : Tr (psub a b) := tr_trim _
theorem psub_len' (a b : List K) : (psub a b).length ≤ max a.length b.length := by
  have := trim_len (addRow a (negR b))
  have e : (addRow a (negR b)).length = max a.length b.length := by
    unfold addRow negR
    rw [List.length_zipWith, pad_len (by omega), pad_len (by omega), List.length_map]
    omega
  rw [e] at this
  exact this
theorem pmod_len' {a b : List K} (hb : b ≠ []) (hz : lst b ≠ 0) : (pmod a b).length < b.length := by
  have h0 : 0 < b.length := List.length_pos_iff.mpr hb
  have key : ∀ (j : Nat) (r q : List K), j ≤ r.length → (0 < j → r.length + 1 = j + b.length) → (j = 0 → r.length < b.length) → (divGo b (Fld.inv (lst b)) j r q).2.length < b.length := by
    intro j
    induction j with
    | zero => intro r q _ _ h; exact h rfl
    | succ j ih =>
      intro r q h1 h2 _
      have hl := h2 (Nat.succ_pos _)
      have l2 := divRest_len' (b := b) (r := r) (c := lst r * Fld.inv (lst b)) (j := j) (by omega) h0
      exact ih (divRest b r (lst r * Fld.inv (lst b)) j) (lst r * Fld.inv (lst b) :: q) (by omega) (fun _ => l2) (fun e => by omega)
  have := key (a.length + 1 - b.length) a [] (by omega) (fun _ => by omega) (fun _ => by omega)
  exact Nat.lt_of_le_of_lt (trim_len _) this
theorem div_uniq {a b q r : List K} (hb : b ≠ []) (hz : lst b ≠ 0) (h : co a = co q * co b + co r) (hr : r.length < b.length) (tq : Tr q) (tr : Tr r) : pdiv a b = q ∧ pmod a b = r := by
  have h1 := co_div (a := a) hb hz
  have hl := pmod_len' (a := a) hb hz
  have e : co (psub q (pdiv a b)) * co b = co (psub (pmod a b) r) := by
    rw [co_psub, co_psub]
    rw [h1] at h
    grind
  have hs : psub q (pdiv a b) = [] := by
    apply Classical.byContradiction
    intro hn
    have e2 : pmul (psub q (pdiv a b)) b = psub (pmod a b) r := tr_inj (tr_pmul _ _) (tr_psub _ _) (by rw [co_pmul]; exact e)
    have l1 := pmul_lenE hn hb (tr_lst (tr_psub _ _) hn) hz
    have l2 := psub_len' (pmod a b) r
    rw [← e2, l1] at l2
    have : 0 < (psub q (pdiv a b)).length := List.length_pos_iff.mpr hn
    omega
  have e3 : co q - co (pdiv a b) = 0 := by rw [← co_psub, hs, co_nil]
  have e4 : co (pdiv a b) = co q := by grind
  have e5 : co (pmod a b) = co r := by
    rw [e4, h] at h1
    grind
  exact ⟨tr_inj (tr_trim _) tq e4, tr_inj (tr_trim _) tr e5⟩
def Dv (b a : List K) : Prop := ∃ q, co a = co q * co b
theorem dv_div {a b : List K} (hb : b ≠ []) (hz : lst b ≠ 0) (d : Dv b a) : pmod a b = [] ∧ co a = co (pdiv a b) * co b := by
  obtain ⟨q, e⟩ := d
  have := div_uniq (a := a) (q := trim q) (r := []) hb hz (by rw [co_trim, co_nil, e]; grind) (List.length_pos_iff.mpr hb) (tr_trim _) tr_nil
  refine ⟨this.2, ?_⟩
  rw [this.1, co_trim]
  exact e
theorem co_one : co [(1 : K)] = 1 := by
  rw [co_cons, co_nil, one_eq]
  refine PS.ext fun i => ?_
  rw [add_at, sh_at, zero_at]
  split <;> grind
theorem kc_kc (a b : K) : kc a * kc b = kc (a * b) := PS.ext fun i => by
  rw [kc_mul]
  show a * (if i = 0 then b else 0) = if i = 0 then a * b else 0
  split
  · rfl
  · grind
theorem dv_refl (a : List K) : Dv a a := ⟨[1], by rw [co_one]; grind⟩
theorem dv_nil (a : List K) : Dv a [] := ⟨[], by rw [co_nil]; grind⟩
theorem dv_trans {a b c : List K} (h : Dv a b) (g : Dv b c) : Dv a c := by
  obtain ⟨q, e⟩ := h
  obtain ⟨p, e2⟩ := g
  exact ⟨mulRow p q, by rw [co_mul, e2, e]; grind⟩
theorem dv_lin {d f g : List K} {x : PS K} {u v : List K} (h1 : Dv d f) (h2 : Dv d g) (h : x = co u * co f + co v * co g) : ∃ q, x = co q * co d := by
  obtain ⟨q, e⟩ := h1
  obtain ⟨p, e2⟩ := h2
  exact ⟨addRow (mulRow u q) (mulRow v p), by rw [co_add, co_mul, co_mul, h, e, e2]; grind⟩
structure GcdP (f g d : List K) : Prop where
  tr : Tr d
  df : Dv d f
  dg : Dv d g
  bz : ∃ u v, co d = co u * co f + co v * co g
theorem gcdP0 {f : List K} (hf : Tr f) : GcdP f [] f := ⟨hf, dv_refl f, dv_nil f, [1], [], by rw [co_one, co_nil]; grind⟩
theorem gcdF_ok : ∀ (n : Nat) (f g : List K), g.length ≤ n → Tr f → Tr g → GcdP f g (gcdF n f g)
  | 0, f, g, hl, hf, hg => by
    have : g = [] := List.length_eq_zero_iff.mp (Nat.le_zero.mp hl)
    subst this
    exact gcdP0 hf
  | n + 1, f, g, hl, hf, hg => by
    show GcdP f g (if g = [] then f else gcdF n g (pmod f g))
    by_cases e : g = []
    · rw [if_pos e, e]
      exact gcdP0 hf
    · rw [if_neg e]
      have hz := tr_lst hg e
      have hm := pmod_len' (a := f) e hz
      have ih := gcdF_ok n g (pmod f g) (by omega) hg (tr_trim _)
      have hd := co_div (a := f) e hz
      obtain ⟨u, v, hb⟩ := ih.bz
      refine ⟨ih.tr, ?_, ih.df, v, psub u (mulRow v (pdiv f g)), ?_⟩
      · exact dv_lin (u := pdiv f g) (v := [1]) ih.df ih.dg (by rw [co_one, hd]; grind)
      · rw [hb, co_psub, co_mul, hd]
        grind
theorem map_lst {l : List K} (h : l ≠ []) (f : K → K) : lst (l.map f) = f (lst l) := by
  obtain ⟨m, a, rfl⟩ : ∃ m a, l = m ++ [a] := ⟨l.dropLast, l.getLast h, (List.dropLast_concat_getLast h).symm⟩
  rw [List.map_append, List.map_singleton, lst_snoc, lst_snoc]
theorem scaled_row {c : K} {l : List K} (hl : l ≠ []) (h : c * lst l ≠ 0) : scaled c l = l.map fun x => c * x := tr_of (by rw [map_lst hl]; exact h)
theorem inv_ne {c : K} (h : c ≠ 0) : Fld.inv c ≠ 0 := fun e => by
  have := Fld.mul_inv c h
  rw [e] at this
  apply Fld.one_ne (K := K)
  grind
theorem monic_nil : monic ([] : List K) = [] := by
  unfold monic
  rw [if_pos rfl]
theorem monic_row {d : List K} (td : Tr d) (hd : d ≠ []) : monic d = d.map fun x => Fld.inv (lst d) * x := by
  unfold monic
  rw [if_neg hd]
  have hz := tr_lst td hd
  exact scaled_row hd (by rw [inv_mul _ hz]; exact Fld.one_ne)
theorem monic_lst {d : List K} (td : Tr d) (hd : d ≠ []) : lst (monic d) = 1 := by
  rw [monic_row td hd, map_lst hd]
  exact inv_mul _ (tr_lst td hd)
theorem monic_lenE {d : List K} (td : Tr d) (hd : d ≠ []) : (monic d).length = d.length := by rw [monic_row td hd, List.length_map]
theorem monic_ne {d : List K} (td : Tr d) (hd : d ≠ []) : monic d ≠ [] := fun e => by
  have := monic_lenE td hd
  rw [e] at this
  exact hd (List.length_eq_zero_iff.mp this.symm)
theorem co_monic {d : List K} (hd : d ≠ []) : co (monic d) = kc (Fld.inv (lst d)) * co d := by
  unfold monic
  rw [if_neg hd, co_scaled]
theorem tr_monic (d : List K) : Tr (monic d) := by
  unfold monic
  split
  · exact tr_nil
  · exact tr_trim _
theorem kc_inv {c : K} (h : c ≠ 0) : kc c * kc (Fld.inv c) = 1 := by rw [kc_kc, Fld.mul_inv c h, one_eq]
theorem monic_ok {f g d : List K} (h : GcdP f g d) : GcdP f g (monic d) := by
  by_cases e : d = []
  · subst e
    rw [monic_nil]
    exact h
  · have hz := tr_lst h.tr e
    have hk := kc_inv hz
    have dd : Dv (monic d) d := ⟨[lst d], by
      rw [co_monic e]
      have : co [lst d] = kc (lst d) := by
        have := co_scal (lst d) [(1 : K)]
        rw [co_one] at this
        have e2 : [(1 : K)].map (fun x => lst d * x) = [lst d] := by
          show [lst d * 1] = [lst d]
          congr 1
          grind
        rw [e2] at this
        rw [this]
        grind
      rw [this]
      grind⟩
    obtain ⟨u, v, hb⟩ := h.bz
    refine ⟨tr_monic d, dv_trans dd h.df, dv_trans dd h.dg, u.map fun x => Fld.inv (lst d) * x, v.map fun x => Fld.inv (lst d) * x, ?_⟩
    rw [co_monic e, co_scal, co_scal, hb]
    grind
theorem dv_ne {d e : List K} (h : Dv e d) (td : Tr d) (hd : d ≠ []) : e ≠ [] := fun z => by
  obtain ⟨q, h⟩ := h
  rw [z, co_nil] at h
  exact hd (tr_co0 td (by rw [h]; grind))
/-- a divisor of a row that is not zero: the quotient, trimmed -/
theorem dv_row {d e : List K} (h : Dv e d) (td : Tr d) (te : Tr e) (hd : d ≠ []) : ∃ q, Tr q ∧ q ≠ [] ∧ d = pmul q e ∧ d.length = q.length + e.length - 1 ∧ lst d = lst q * lst e := by
  have he := dv_ne h td hd
  obtain ⟨q, h⟩ := h
  have hq : trim q ≠ [] := fun z => by
    rw [← co_trim q, z, co_nil] at h
    exact hd (tr_co0 td (by rw [h]; grind))
  have e1 : d = pmul (trim q) e := tr_inj td (tr_pmul _ _) (by rw [co_pmul, co_trim]; exact h)
  have zq := tr_lst (tr_trim q) hq
  have ze := tr_lst te he
  refine ⟨trim q, tr_trim q, hq, e1, ?_, ?_⟩
  · rw [← pmul_lenE hq he zq ze, ← e1]
  · rw [← pmul_lst hq he zq ze, ← e1]
theorem gcd_uniq {f g d e : List K} (hd : GcdP f g d) (he : GcdP f g e) (md : d ≠ [] → lst d = 1) (me : e ≠ [] → lst e = 1) : d = e := by
  obtain ⟨u, v, h1⟩ := hd.bz
  obtain ⟨u2, v2, h2⟩ := he.bz
  have de : Dv e d := dv_lin he.df he.dg h1
  have ed : Dv d e := dv_lin hd.df hd.dg h2
  by_cases z : d = []
  · apply Classical.byContradiction
    intro hn
    exact dv_ne ed he.tr (fun z2 => hn (z.trans z2.symm)) z
  · have z2 := dv_ne de hd.tr z
    obtain ⟨q, tq, hq, e1, l1, t1⟩ := dv_row de hd.tr he.tr z
    obtain ⟨p, tp, hp, _, l2, _⟩ := dv_row ed he.tr hd.tr z2
    have p1 : 0 < q.length := List.length_pos_iff.mpr hq
    have p2 : 0 < p.length := List.length_pos_iff.mpr hp
    have p3 : 0 < e.length := List.length_pos_iff.mpr z2
    have lq : q.length = 1 := by omega
    rw [md z, me z2] at t1
    obtain ⟨c, rfl⟩ : ∃ c, q = [c] := by
      match q, lq with
      | [c], _ => exact ⟨c, rfl⟩
    have hc : c = 1 := by
      have : lst [c] = c := rfl
      rw [this] at t1
      grind
    subst hc
    refine tr_inj hd.tr he.tr ?_
    rw [e1, co_pmul, co_one]
    grind
theorem cdiv_ok {f g : List K} (hf : Tr f) (hg : Tr g) : GcdP f g (cdiv f g) := monic_ok (gcdF_ok _ f g (Nat.le_refl _) hf hg)
theorem cdiv_monic {f g : List K} (hf : Tr f) (hg : Tr g) (h : cdiv f g ≠ []) : lst (cdiv f g) = 1 := by
  have h0 := gcdF_ok _ f g (Nat.le_refl _) hf hg
  refine monic_lst h0.tr fun e => h ?_
  unfold cdiv
  rw [e, monic_nil]
theorem gcdP_swap {f g d : List K} (h : GcdP f g d) : GcdP g f d := by
  obtain ⟨u, v, e⟩ := h.bz
  exact ⟨h.tr, h.dg, h.df, v, u, by rw [e]; grind⟩
theorem cdiv_swap {f g : List K} (hf : Tr f) (hg : Tr g) : cdiv g f = cdiv f g :=
  gcd_uniq (gcdP_swap (cdiv_ok hg hf)) (cdiv_ok hf hg) (cdiv_monic hg hf) (cdiv_monic hf hg)
theorem cdiv_ne {f g : List K} (hf : Tr f) (hg : Tr g) (h : ¬ (f = [] ∧ g = [])) : cdiv f g ≠ [] := by
  have h0 := cdiv_ok hf hg
  intro e
  rw [e] at h0
  exact h ⟨Classical.byContradiction fun hn => dv_ne h0.df hf hn rfl, Classical.byContradiction fun hn => dv_ne h0.dg hg hn rfl⟩
theorem sub_mod {x y : List K} (hx : Tr x) (hy : Tr y) (h : y ≠ []) : psub x (pmul (pdiv x y) y) = pmod x y := by
  refine tr_inj (tr_psub _ _) (tr_trim _) ?_
  have := co_div (a := x) h (tr_lst hy h)
  have e : co (trim (divRow x y).2) = co (pmod x y) := rfl
  rw [co_psub, co_pmul]
  grind
end
end K9

/-! what the law asks of the mirror, but for the sizes -/
namespace K9
section
variable {K : Type} [Fld K]
theorem cof_gcd : ∀ (n : Nat) (c : Cof K), (cofF n c).f = gcdF n c.f c.g
  | 0, c => rfl
  | n + 1, c => by
    show (if c.g = [] then c else cofF n c.next).f = if c.g = [] then c.f else gcdF n c.g (pmod c.f c.g)
    by_cases e : c.g = []
    · rw [if_pos e, if_pos e]
    · rw [if_neg e, if_neg e]
      exact cof_gcd n c.next
theorem cof_inv (F H : PS K) : ∀ (n : Nat) (c : Cof K), Tr c.f → Tr c.g → co c.f = co c.u * F + co c.v * H → co c.g = co c.s * F + co c.t * H → co (cofF n c).f = co (cofF n c).u * F + co (cofF n c).v * H
  | 0, c, _, _, h1, _ => h1
  | n + 1, c, tf, tg, h1, h2 => by
    show co (if c.g = [] then c else cofF n c.next).f = co (if c.g = [] then c else cofF n c.next).u * F + co (if c.g = [] then c else cofF n c.next).v * H
    by_cases e : c.g = []
    · rw [if_pos e]
      exact h1
    · rw [if_neg e]
      refine cof_inv F H n c.next tg (tr_trim _) h2 ?_
      have hd := co_div (a := c.f) e (tr_lst tg e)
      show co (pmod c.f c.g) = co (psub c.u (pmul (pdiv c.f c.g) c.s)) * F + co (psub c.v (pmul (pdiv c.f c.g) c.t)) * H
      rw [co_psub, co_psub, co_pmul, co_pmul]
      have e1 : co (pmod c.f c.g) = co c.f - co (pdiv c.f c.g) * co c.g := by grind
      rw [e1, h1, h2]
      grind
theorem divGo_q {b : List K} {h : K} : ∀ (j : Nat) (r q : List K), (divGo b h j r q).1.length = j + q.length
  | 0, r, q => (Nat.zero_add _).symm
  | j + 1, r, q => by
    have := divGo_q (b := b) (h := h) j (divRest b r (lst r * h) j) (lst r * h :: q)
    show (divGo b h j (divRest b r (lst r * h) j) (lst r * h :: q)).1.length = _
    rw [this, List.length_cons]
    omega
theorem pdiv_len' (a b : List K) : (pdiv a b).length ≤ a.length + 1 - b.length := by
  have h := trim_len (divRow a b).1
  have h2 : (divRow a b).1.length = a.length + 1 - b.length + 0 := divGo_q _ _ _
  unfold pdiv
  omega
theorem pmul_len' (a b : List K) : (pmul a b).length ≤ a.length + b.length - 1 := by
  have h := trim_len (mulRow a b)
  have e : (mulRow a b).length = a.length + b.length - 1 := by unfold mulRow; rw [List.length_map, List.length_range]
  rw [e] at h
  exact h
structure CofLen (B : Nat) (c : Cof K) : Prop where
  tf : Tr c.f
  tg : Tr c.g
  u : c.u.length + max c.f.length c.g.length ≤ B
  s : c.s.length + max c.f.length c.g.length ≤ B
  v : c.v.length + max c.f.length c.g.length ≤ B
  t : c.t.length + max c.f.length c.g.length ≤ B
theorem CofLen.next {B : Nat} {c : Cof K} (h : CofLen B c) (e : c.g ≠ []) : CofLen B c.next := by
  obtain ⟨tf, tg, u, s, v, t⟩ := h
  have hl := pmod_len' (a := c.f) e (tr_lst tg e)
  have hpos : 0 < c.g.length := List.length_pos_iff.mpr e
  have hql := pdiv_len' c.f c.g
  have hm2 := pmul_len' (pdiv c.f c.g) c.s
  have hm3 := pmul_len' (pdiv c.f c.g) c.t
  have hs2 := psub_len' c.u (pmul (pdiv c.f c.g) c.s)
  have hs3 := psub_len' c.v (pmul (pdiv c.f c.g) c.t)
  have n1 : c.next.f.length = c.g.length := rfl
  have n2 : c.next.g.length = (pmod c.f c.g).length := rfl
  have n3 : c.next.u.length = c.s.length := rfl
  have n4 : c.next.v.length = c.t.length := rfl
  have n5 : c.next.s.length = (psub c.u (pmul (pdiv c.f c.g) c.s)).length := rfl
  have n6 : c.next.t.length = (psub c.v (pmul (pdiv c.f c.g) c.t)).length := rfl
  exact ⟨tg, tr_trim _, by omega, by omega, by omega, by omega⟩
theorem cof_len {B : Nat} : ∀ (n : Nat) (c : Cof K), CofLen B c → CofLen B (cofF n c)
  | 0, c, h => h
  | n + 1, c, h => by
    show CofLen B (if c.g = [] then c else cofF n c.next)
    by_cases e : c.g = []
    · rw [if_pos e]
      exact h
    · rw [if_neg e]
      exact cof_len n c.next (h.next e)
theorem scaled_len' (c : K) (a : List K) : (scaled c a).length ≤ a.length := by
  have := trim_len (a.map fun x => c * x)
  rw [List.length_map] at this
  exact this
section
variable {f h : List K} (tf : Tr f) (th : Tr h)
include tf th
theorem cof0_len (l1 : f.length ≤ 10) (l2 : h.length ≤ 10) : CofLen 11 (cof0 f h) := by
  refine ⟨tf, th, ?_, ?_, ?_, ?_⟩
  · show 1 + max f.length h.length ≤ 11; omega
  · show 0 + max f.length h.length ≤ 11; omega
  · show 0 + max f.length h.length ≤ 11; omega
  · show 1 + max f.length h.length ≤ 11; omega
theorem alg_len (l1 : f.length ≤ 10) (l2 : h.length ≤ 10) : (cofs f h).2.1.length ≤ 11 ∧ (cofs f h).2.2.length ≤ 11 := by
  obtain ⟨_, _, u, _, v, _⟩ := cof_len h.length _ (cof0_len tf th l1 l2)
  unfold cofs cofEnd
  split
  · exact ⟨Nat.zero_le _, Nat.zero_le _⟩
  · exact ⟨Nat.le_trans (scaled_len' _ _) (by omega), Nat.le_trans (scaled_len' _ _) (by omega)⟩
theorem alg_cd : (cofs f h).1 = cdiv f h := by
  have e : (cofF h.length (cof0 f h)).f = gcdF h.length f h := cof_gcd _ _
  unfold cofs cofEnd cdiv
  rw [e]
  by_cases z : gcdF h.length f h = []
  · rw [if_pos z, z, monic_nil]
  · rw [if_neg z]
    unfold monic
    rw [if_neg z]
theorem alg_bz : padd (pmul (cofs f h).2.1 f) (pmul (cofs f h).2.2 h) = cdiv f h := by
  refine tr_inj (tr_trim _) (tr_monic _) ?_
  rw [co_padd, co_pmul, co_pmul, ← alg_cd tf th]
  have e := cof_inv (co f) (co h) h.length (cof0 f h) tf th (by
    show co f = co [1] * co f + co [] * co h
    rw [co_one, co_nil]
    grind) (by
    show co h = co [] * co f + co [1] * co h
    rw [co_one, co_nil]
    grind)
  unfold cofs cofEnd
  by_cases z : (cofF h.length (cof0 f h)).f = []
  · rw [if_pos z, z]
    show co [] * co f + co [] * co h = co []
    rw [co_nil]
    grind
  · rw [if_neg z]
    show co (scaled _ _) * co f + co (scaled _ _) * co h = co (scaled _ _)
    rw [co_scaled, co_scaled, co_scaled, e]
    grind
theorem alg_mods (hn : ¬ (f = [] ∧ h = [])) : pmod f (cdiv f h) = [] ∧ pmod h (cdiv f h) = [] := by
  have hd := cdiv_ok tf th
  have ne := cdiv_ne tf th hn
  have z := tr_lst hd.tr ne
  exact ⟨(dv_div ne z hd.df).1, (dv_div ne z hd.dg).1⟩
end
theorem cdiv_nil : cdiv ([] : List K) [] = [] := by
  unfold cdiv
  show monic [] = []
  exact monic_nil
theorem tr_padd (a b : List K) : Tr (padd a b) := tr_trim _
theorem padd_nil {f : List K} (tf : Tr f) : padd f [] = f := tr_inj (tr_padd _ _) tf (by rw [co_padd, co_nil]; grind)
theorem nil_padd {f : List K} (tf : Tr f) : padd [] f = f := tr_inj (tr_padd _ _) tf (by rw [co_padd, co_nil]; grind)
theorem alg_one {f h : List K} (tf : Tr f) (th : Tr h) (ho : f = [] ∨ h = []) (hn : ¬ (f = [] ∧ h = [])) : monic (padd f h) = cdiv f h := by
  have key : ∀ g : List K, Tr g → g ≠ [] → monic g = cdiv g [] := fun g tg hg =>
    gcd_uniq (monic_ok (gcdP0 tg)) (cdiv_ok tg tr_nil) (fun _ => monic_lst tg hg) (cdiv_monic tg tr_nil)
  rcases ho with e | e
  · subst e
    have hh : h ≠ [] := fun z => hn ⟨rfl, z⟩
    rw [nil_padd th, key h th hh, cdiv_swap tr_nil th]
  · subst e
    have hh : f ≠ [] := fun z => hn ⟨z, rfl⟩
    rw [padd_nil tf, key f tf hh]
theorem pmul_nil (b : List K) : pmul [] b = [] := tr_co0 (tr_pmul _ _) (by rw [co_pmul, co_nil]; grind)
theorem dv_pmul (a b : List K) : Dv a (pmul a b) := ⟨b, by rw [co_pmul]; grind⟩
theorem dv_gcd {a f h d : List K} (g : GcdP f h d) (h1 : Dv a f) (h2 : Dv a h) : Dv a d := by
  obtain ⟨u, v, e⟩ := g.bz
  exact dv_lin h1 h2 e
theorem cancel {D : List K} {x : List K} (hD : D ≠ []) (z : lst D ≠ 0) (h : co x * co D = co D) : co x = 1 := by
  have e : co (psub x [1]) * co D = 0 := by
    rw [co_psub, co_one]
    grind
  have hs : psub x [1] = [] := by
    apply Classical.byContradiction
    intro hn
    have e2 : pmul (psub x [1]) D = [] := tr_co0 (tr_pmul _ _) (by rw [co_pmul]; exact e)
    have l1 := pmul_lenE hn hD (tr_lst (tr_psub _ _) hn) z
    rw [e2] at l1
    have p1 : 0 < (psub x [1]).length := List.length_pos_iff.mpr hn
    have p2 : 0 < D.length := List.length_pos_iff.mpr hD
    have l2 : ([] : List K).length = 0 := rfl
    omega
  have e3 : co x - 1 = 0 := by rw [← co_one, ← co_psub, hs, co_nil]
  grind
section
variable {f h : List K} (tf : Tr f) (th : Tr h) (hf : f ≠ []) (hh : h ≠ [])
include tf th hf hh
theorem alg_rest : (cdiv (pdiv f (cdiv f h)) (pdiv h (cdiv f h))).length = 1 := by
  have hd := cdiv_ok tf th
  have ne := cdiv_ne tf th fun z => hf z.1
  have z := tr_lst hd.tr ne
  have e1 := (dv_div ne z hd.df).2
  have e2 := (dv_div ne z hd.dg).2
  obtain ⟨u, v, hb⟩ := hd.bz
  have hx : co (addRow (mulRow u (pdiv f (cdiv f h))) (mulRow v (pdiv h (cdiv f h)))) = 1 := by
    refine cancel ne z ?_
    rw [co_add, co_mul, co_mul]
    generalize pdiv f (cdiv f h) = f1 at *
    generalize pdiv h (cdiv f h) = h1 at *
    rw [e1, e2] at hb
    grind
  have hg := cdiv_ok (f := pdiv f (cdiv f h)) (g := pdiv h (cdiv f h)) (tr_trim _) (tr_trim _)
  have d1 : Dv (cdiv (pdiv f (cdiv f h)) (pdiv h (cdiv f h))) [1] := by
    refine dv_lin (u := u) (v := v) hg.df hg.dg ?_
    rw [co_one, ← hx, co_add, co_mul, co_mul]
  have t1 : Tr [(1 : K)] := tr_of Fld.one_ne
  obtain ⟨q, _, hq, _, l1, _⟩ := dv_row d1 t1 hg.tr (fun z => by cases z)
  have p1 : 0 < q.length := List.length_pos_iff.mpr hq
  have p2 : 0 < (cdiv (pdiv f (cdiv f h)) (pdiv h (cdiv f h))).length := List.length_pos_iff.mpr (dv_ne d1 t1 (fun z => by cases z))
  have l2 : [(1 : K)].length = 1 := rfl
  omega
theorem alg_lcm : pmul (cmul f h) (cdiv f h) = monic (pmul f h) := by
  have hd := cdiv_ok tf th
  have ne := cdiv_ne tf th fun z => hf z.1
  have z := tr_lst hd.tr ne
  have zf := tr_lst tf hf
  have zh := tr_lst th hh
  have hp : pmul f h ≠ [] := fun e => by
    have := pmul_lenE hf hh zf zh
    rw [e] at this
    have p1 : 0 < f.length := List.length_pos_iff.mpr hf
    have p2 : 0 < h.length := List.length_pos_iff.mpr hh
    have l2 : ([] : List K).length = 0 := rfl
    omega
  have dp : Dv (cdiv f h) (pmul f h) := dv_trans hd.df (dv_pmul f h)
  obtain ⟨q, tq, hq, e1, _, t1⟩ := dv_row dp (tr_pmul _ _) hd.tr hp
  have e2 : pdiv (pmul f h) (cdiv f h) = q := (div_uniq ne z (r := []) (by rw [e1, co_pmul, co_nil]; grind) (List.length_pos_iff.mpr ne) tq tr_nil).1
  rw [cdiv_monic tf th ne] at t1
  have t2 : lst (pmul f h) = lst q := by rw [t1]; grind
  have e3 : cmul f h = monic q := by
    unfold cmul
    rw [if_neg (by intro w; rcases w with w | w; exact hf w; exact hh w), e2]
  refine tr_inj (tr_pmul _ _) (tr_monic _) ?_
  rw [co_pmul, e3, co_monic hq, co_monic hp, t2]
  have e4 : co (pmul f h) = co q * co (cdiv f h) := by
    have := congrArg co e1
    rw [co_pmul q] at this
    exact this
  rw [e4]
  grind
end
end
end K9

/-! sizes: a common denominator -/
namespace K9
section
variable {K : Type} [Fld K]
theorem icm (a b : Int) : ((a * b : Int) : K) = (a : K) * (b : K) := Lean.Grind.Ring.intCast_mul a b
theorem ica (a b : Int) : ((a + b : Int) : K) = (a : K) + (b : K) := Lean.Grind.Ring.intCast_add a b
theorem ics (a b : Int) : ((a - b : Int) : K) = (a : K) - (b : K) := Lean.Grind.Ring.intCast_sub a b
theorem icn (a : Int) : ((-a : Int) : K) = -(a : K) := Lean.Grind.Ring.intCast_neg a
theorem ic0 : ((0 : Int) : K) = 0 := Lean.Grind.Ring.intCast_zero
theorem ic1 : ((1 : Int) : K) = 1 := Lean.Grind.Ring.intCast_one
def Bd (K : Type) [Fld K] : Prop := Fld.ok (Fld.inv (0 : K)) ∧ ∀ (x : K) (D z : Int), (D : K) ≠ 0 → D.natAbs < 2 ^ bnd → z.natAbs < 2 ^ bnd → x * (D : K) = (z : K) → Fld.ok x
/-- x is z over D, both below half of 2^c -/
def Qz (D : Int) (c : Nat) (x : K) : Prop := ∃ z : Int, 2 * z.natAbs < 2 ^ c ∧ x * (D : K) = (z : K)
structure SzD (D : Int) (c : Nat) (l : List K) : Prop where
  d0 : (D : K) ≠ 0
  dc : 2 * D.natAbs < 2 ^ c
  z : ∀ x ∈ l, Qz D c x
def Sz (c : Nat) (l : List K) : Prop := ∃ D, SzD D c l
theorem two_le {c d : Nat} (h : c ≤ d) : 2 ^ c ≤ 2 ^ d := Nat.pow_le_pow_right (by decide) h
theorem pw2 {a b c d : Nat} (h1 : 2 * a < 2 ^ c) (h2 : 2 * b < 2 ^ d) : 4 * (a * b) < 2 ^ (c + d) := by
  have := Nat.mul_lt_mul'' h1 h2
  rw [← Nat.pow_add] at this
  have e : 2 * a * (2 * b) = 4 * (a * b) := by
    rw [Nat.mul_mul_mul_comm]
  omega
theorem Qz.mono {D : Int} {c d : Nat} {x : K} (h : Qz D c x) (hc : c ≤ d) : Qz D d x := let ⟨z, h1, h2⟩ := h; ⟨z, Nat.lt_of_lt_of_le h1 (two_le hc), h2⟩
theorem Sz.mono {c d : Nat} {l : List K} (h : Sz c l) (hc : c ≤ d) : Sz d l :=
  let ⟨D, h⟩ := h; ⟨D, h.d0, Nat.lt_of_lt_of_le h.dc (two_le hc), fun x hx => (h.z x hx).mono hc⟩
theorem Sz.sub {c : Nat} {l m : List K} (h : Sz c l) (hs : ∀ x ∈ m, x ∈ l) : Sz c m := let ⟨D, h⟩ := h; ⟨D, h.d0, h.dc, fun x hx => h.z x (hs x hx)⟩
theorem Sz.trim {c : Nat} {l : List K} (h : Sz c l) : Sz c (trim l) := h.sub (trim_sub l)
theorem qz0 (D : Int) (c : Nat) : Qz D c (0 : K) := ⟨0, Nat.pow_pos (by decide), by rw [ic0]; grind⟩
theorem SzD.get {D : Int} {c : Nat} {l : List K} (h : SzD D c l) (i : Nat) : Qz D c (l.getD i 0) := by
  rw [List.getD_eq_getElem?_getD]
  cases e : l[i]? with
  | none => exact qz0 D c
  | some x => exact h.z x (List.mem_of_getElem? e)
theorem mem_get {l : List K} {x : K} (h : x ∈ l) : ∃ i, x = l.getD i 0 := by
  obtain ⟨i, hi, e⟩ := List.mem_iff_getElem.mp h
  exact ⟨i, by rw [List.getD_eq_getElem?_getD, List.getElem?_eq_getElem hi, e]; rfl⟩
theorem szd_of {D : Int} {c : Nat} {l : List K} (h0 : (D : K) ≠ 0) (h1 : 2 * D.natAbs < 2 ^ c) (h : ∀ i, Qz D c (l.getD i 0)) : SzD D c l := ⟨h0, h1, fun x hx => by
  obtain ⟨i, rfl⟩ := mem_get hx
  exact h i⟩
section
variable (bd : Bd K)
include bd
theorem ok_q {D : Int} {c : Nat} {x : K} (h0 : (D : K) ≠ 0) (h1 : 2 * D.natAbs < 2 ^ c) (h : Qz D c x) (hc : c ≤ bnd + 1) : Fld.ok x := by
  obtain ⟨z, h2, h3⟩ := h
  have e := two_le hc
  rw [Nat.pow_succ] at e
  exact bd.2 x D z h0 (by omega) (by omega) h3
theorem SzD.ok {D : Int} {c : Nat} {l : List K} (h : SzD D c l) (hc : c ≤ bnd + 1) : OkL l := fun x hx => ok_q bd h.d0 h.dc (h.z x hx) hc
theorem Sz.ok {c : Nat} {l : List K} (h : Sz c l) (hc : c ≤ bnd + 1) : OkL l := let ⟨_, h⟩ := h; SzD.ok bd h hc
end
theorem inz {D B : Int} (h1 : (D : K) ≠ 0) (h2 : (B : K) ≠ 0) : ((D * B : Int) : K) ≠ 0 := by
  rw [icm]
  exact mul_ne h1 h2
theorem abs_mul2 {a b : Int} {c d : Nat} (h1 : 2 * a.natAbs < 2 ^ c) (h2 : 2 * b.natAbs < 2 ^ d) : 4 * (a * b).natAbs < 2 ^ (c + d) := by
  rw [Int.natAbs_mul]
  exact pw2 h1 h2
theorem abs_sub4 {x y : Int} {P : Nat} (h1 : 4 * x.natAbs < P) (h2 : 4 * y.natAbs < P) : 2 * (x - y).natAbs < P := by omega
theorem abs_add4 {x y : Int} {P : Nat} (h1 : 4 * x.natAbs < P) (h2 : 4 * y.natAbs < P) : 2 * (x + y).natAbs < P := by omega
/-! ### division -/
section
variable (bd : Bd K)
include bd
theorem step_sz {D E B zr : Int} {c d : Nat} {q r b : List K} {j : Nat} (hb : SzD E d b) (hB : lst b * (E : K) = (B : K)) (hBc : 2 * B.natAbs < 2 ^ d) (hB0 : (B : K) ≠ 0) (hz : lst b ≠ 0) (h : SzD D c (q ++ r)) (hzr : lst r * (D : K) = (zr : K)) (hzc : 2 * zr.natAbs < 2 ^ c) (hc : c + d ≤ bnd + 1) :
    StepOk b r (Fld.inv (lst b)) j ∧ SzD (D * B) (c + d) ((lst r * Fld.inv (lst b) :: q) ++ divRest b r (lst r * Fld.inv (lst b)) j) := by
  have hi := inv_mul _ hz
  generalize hw : lst r * Fld.inv (lst b) = w
  have hr : SzD D c r := ⟨h.d0, h.dc, fun x hx => h.z x (List.mem_append_right _ hx)⟩
  have d0 := inz h.d0 hB0
  have dc : 4 * (D * B).natAbs < 2 ^ (c + d) := abs_mul2 h.dc hBc
  have ew : w * ((D * B : Int) : K) = ((zr * E : Int) : K) := by
    rw [icm, icm, ← hw, ← hB, ← hzr]
    grind
  have qw : Qz (D * B) (c + d) w := ⟨zr * E, by have := abs_mul2 hzc hb.dc; omega, ew⟩
  have qp : ∀ i, Qz (D * B) (c + d) (w * b.getD i 0) := fun i => by
    obtain ⟨z, h1, h2⟩ := hb.get i
    refine ⟨zr * z, by have := abs_mul2 hzc h1; omega, ?_⟩
    rw [icm zr z, ← h2]
    rw [icm zr E] at ew
    grind
  have old : ∀ x : K, Qz D c x → Qz (D * B) (c + d) x := fun x ⟨z, h1, h2⟩ => ⟨z * B, by have := abs_mul2 h1 hBc; omega, by rw [icm, icm, ← h2]; grind⟩
  refine ⟨⟨SzD.ok bd hr (by omega), ?_, fun i => ?_⟩, d0, by omega, fun x hx => ?_⟩
  · rw [hw]
    exact ok_q bd d0 (by omega) qw hc
  · rw [hw]
    exact ok_q bd d0 (by omega) (qp i) hc
  · rcases List.mem_append.mp hx with hx | hx
    · rcases List.mem_cons.mp hx with e | hx
      · rw [e]; exact qw
      · exact old x (h.z x (List.mem_append_left _ hx))
    · unfold divRest at hx
      rcases List.mem_append.mp hx with hx | hx
      · exact old x (hr.z x (List.mem_of_mem_take hx))
      · obtain ⟨i, _, rfl⟩ := List.mem_map.mp hx
        obtain ⟨z1, h1, h2⟩ := hr.get (j + i)
        obtain ⟨z2, h3, h4⟩ := hb.get i
        refine ⟨z1 * B - zr * z2, abs_sub4 (abs_mul2 h1 hBc) (abs_mul2 hzc h3), ?_⟩
        rw [ics, icm, icm, icm, ← h2, ← h4]
        rw [icm, icm] at ew
        grind
theorem go_sz {E B : Int} {d : Nat} {b : List K} (hb : SzD E d b) (hB : lst b * (E : K) = (B : K)) (hBc : 2 * B.natAbs < 2 ^ d) (hB0 : (B : K) ≠ 0) (hz : lst b ≠ 0) :
    ∀ (j c : Nat) (r q : List K), Sz c (q ++ r) → c + j * d ≤ bnd + 1 → DivGoOk b (Fld.inv (lst b)) j r ∧ Sz (c + j * d) ((divGo b (Fld.inv (lst b)) j r q).1 ++ (divGo b (Fld.inv (lst b)) j r q).2)
  | 0, c, r, q, h, hc => ⟨trivial, by
    show Sz (c + 0 * d) (q ++ r)
    rw [Nat.zero_mul]
    exact h⟩
  | j + 1, c, r, q, ⟨D, h⟩, hc => by
    have e : (j + 1) * d = j * d + d := Nat.succ_mul j d
    have hr : SzD D c r := ⟨h.d0, h.dc, fun x hx => h.z x (List.mem_append_right _ hx)⟩
    obtain ⟨zr, h1, h2⟩ := hr.get (r.length - 1)
    obtain ⟨so, h3⟩ := step_sz bd (j := j) hb hB hBc hB0 hz h h2 h1 (by omega)
    obtain ⟨i1, i2⟩ := go_sz hb hB hBc hB0 hz j (c + d) (divRest b r (lst r * Fld.inv (lst b)) j) (lst r * Fld.inv (lst b) :: q) ⟨_, h3⟩ (by omega)
    refine ⟨⟨so, i1⟩, ?_⟩
    have e2 : c + (j + 1) * d = c + d + j * d := by omega
    rw [e2]
    exact i2
theorem div_sz {a b : List K} {c d j : Nat} (ha : Sz c a) (hb : Sz d b) (hn : b ≠ []) (hz : lst b ≠ 0) (hj : a.length + 1 - b.length ≤ j) (hc : c + j * d ≤ bnd + 1) (hd : d ≤ bnd + 1) : DivOk a b ∧ Sz (c + j * d) (pdiv a b) ∧ Sz (c + j * d) (pmod a b) := by
  obtain ⟨E, hb⟩ := hb
  obtain ⟨B, h1, h2⟩ := hb.get (b.length - 1)
  have h2' : lst b * (E : K) = (B : K) := h2
  have hB0 : (B : K) ≠ 0 := by rw [← h2']; exact mul_ne hz hb.d0
  have hj2 : (a.length + 1 - b.length) * d ≤ j * d := Nat.mul_le_mul_right d hj
  obtain ⟨g1, g2⟩ := go_sz bd hb h2' h1 hB0 hz (a.length + 1 - b.length) c a [] ha (by omega)
  have g3 := g2.mono (d := c + j * d) (by omega)
  refine ⟨⟨SzD.ok bd hb hd, ok_q bd hB0 h1 ⟨E, hb.dc, ?_⟩ hd, g1⟩, (g3.sub fun x hx => List.mem_append_left _ hx).trim, (g3.sub fun x hx => List.mem_append_right _ hx).trim⟩
  have hi := inv_mul _ hz
  rw [← h2']
  grind
end
/-! ### products, sums -/
theorem psum_sz {D E : Int} {c d : Nat} {a b : List K} (ha : SzD D c a) (hb : SzD E d b) (k lo : Nat) : ∀ n, ∃ Z : Int, psum a b k lo n * ((D * E : Int) : K) = (Z : K) ∧ 4 * Z.natAbs ≤ (min (lo + n) a.length - min lo a.length) * 2 ^ (c + d)
  | 0 => ⟨0, by rw [ic0]; show 0 * _ = _; grind, Nat.zero_le _⟩
  | n + 1 => by
    obtain ⟨Z, h1, h2⟩ := psum_sz ha hb k lo n
    have e : psum a b k lo (n + 1) = psum a b k lo n + a.getD (lo + n) 0 * b.getD (k - (lo + n)) 0 := rfl
    by_cases hl : lo + n < a.length
    · obtain ⟨z1, g1, g2⟩ := ha.get (lo + n)
      obtain ⟨z2, g3, g4⟩ := hb.get (k - (lo + n))
      refine ⟨Z + z1 * z2, ?_, ?_⟩
      · rw [e, ica, icm z1, ← h1, ← g2, ← g4, icm]
        grind
      · have e1 : min (lo + (n + 1)) a.length - min lo a.length = (min (lo + n) a.length - min lo a.length) + 1 := by omega
        rw [e1, Nat.add_mul, Nat.one_mul]
        have t1 := abs_mul2 g1 g3
        have t2 := Int.natAbs_add_le Z (z1 * z2)
        generalize (z1 * z2).natAbs = y at *
        generalize (Z + z1 * z2).natAbs = x at *
        omega
    · refine ⟨Z, ?_, ?_⟩
      · rw [e, getD_out (l := a) (by omega), ← h1]
        grind
      · have e1 : min (lo + (n + 1)) a.length - min lo a.length = min (lo + n) a.length - min lo a.length := by omega
        rw [e1]
        exact h2
theorem mul_sz (bd : Bd K) {a b : List K} {c d k : Nat} (ha : Sz c a) (hb : Sz d b) (hk : a.length ≤ 2 ^ k) (hc : c + d + k ≤ bnd + 1) : MulOk a b ∧ Sz (c + d + k) (pmul a b) := by
  obtain ⟨D, ha⟩ := ha
  obtain ⟨E, hb⟩ := hb
  have d0 := inz ha.d0 hb.d0
  have dc := abs_mul2 ha.dc hb.dc
  have hm : 2 ^ (c + d) ≤ 2 ^ (c + d + k) := two_le (by omega)
  have qs : ∀ m lo n, Qz (D * E) (c + d + k) (psum a b m lo n) := fun m lo n => by
    obtain ⟨Z, h1, h2⟩ := psum_sz ha hb m lo n
    refine ⟨Z, ?_, h1⟩
    have h3 : (min (lo + n) a.length - min lo a.length) * 2 ^ (c + d) ≤ 2 ^ k * 2 ^ (c + d) := Nat.mul_le_mul_right _ (by omega)
    rw [← Nat.pow_add, Nat.add_comm k] at h3
    have h4 : 0 < 2 ^ (c + d + k) := Nat.pow_pos (by decide)
    omega
  refine ⟨⟨SzD.ok bd ha (by omega), SzD.ok bd hb (by omega), fun i j => ?_, fun m lo n => ok_q bd d0 (by omega) (qs m lo n) hc⟩, ?_⟩
  · obtain ⟨z1, g1, g2⟩ := ha.get i
    obtain ⟨z2, g3, g4⟩ := hb.get j
    refine ok_q bd (c := c + d) d0 (by omega) ⟨z1 * z2, by have := abs_mul2 g1 g3; omega, ?_⟩ (by omega)
    rw [icm, icm, ← g2, ← g4]
    grind
  · refine Sz.trim ⟨D * E, d0, by omega, fun x hx => ?_⟩
    obtain ⟨m, _, rfl⟩ := List.mem_map.mp hx
    exact qs m _ _
theorem padd_sz {a b : List K} {c d : Nat} (ha : Sz c a) (hb : Sz d b) : Sz (c + d) (padd a b) := by
  obtain ⟨D, ha⟩ := ha
  obtain ⟨E, hb⟩ := hb
  refine Sz.trim ⟨D * E, szd_of (inz ha.d0 hb.d0) (by have := abs_mul2 ha.dc hb.dc; omega) fun i => ?_⟩
  obtain ⟨z1, g1, g2⟩ := ha.get i
  obtain ⟨z2, g3, g4⟩ := hb.get i
  have e : (addRow a b).getD i 0 = a.getD i 0 + b.getD i 0 := by
    have := co_get (b := addRow a b) (a := addRow a b) rfl i
    exact congrArg (fun f : PS K => f.at_ i) (co_add a b)
  rw [e]
  refine ⟨z1 * E + z2 * D, abs_add4 (abs_mul2 g1 hb.dc) (by have := abs_mul2 g3 ha.dc; rw [Nat.add_comm d] at this; exact this), ?_⟩
  rw [ica, icm, icm, icm, ← g2, ← g4]
  grind
theorem neg_sz {a : List K} {c : Nat} (ha : Sz c a) : Sz c (negR a) := by
  obtain ⟨D, ha⟩ := ha
  refine ⟨D, ha.d0, ha.dc, fun x hx => ?_⟩
  obtain ⟨y, hy, rfl⟩ := List.mem_map.mp hx
  obtain ⟨z, h1, h2⟩ := ha.z y hy
  exact ⟨-z, by rw [Int.natAbs_neg]; exact h1, by rw [icn, ← h2]; grind⟩
theorem psub_sz {a b : List K} {c d : Nat} (ha : Sz c a) (hb : Sz d b) : Sz (c + d) (psub a b) := padd_sz ha (neg_sz hb)
theorem add_ok (bd : Bd K) {a b : List K} {c : Nat} (ha : Sz c a) (hb : Sz c b) (hc : c ≤ bnd + 1) : AddOk a b := ⟨Sz.ok bd ha hc, Sz.ok bd hb hc⟩
theorem inv_ok (bd : Bd K) {l : List K} {c : Nat} (h : Sz c l) (hc : c ≤ bnd + 1) : Fld.ok (Fld.inv (lst l)) := by
  by_cases hz : lst l = 0
  · rw [hz]
    exact bd.1
  · obtain ⟨D, h⟩ := h
    obtain ⟨B, h1, h2⟩ := h.get (l.length - 1)
    have h2' : lst l * (D : K) = (B : K) := h2
    have hi := inv_mul _ hz
    exact ok_q bd (by rw [← h2']; exact mul_ne hz h.d0) h1 ⟨D, h.dc, by rw [← h2']; grind⟩ hc
theorem mon_ok (bd : Bd K) {l : List K} {c : Nat} (h : Sz c l) (hc : c ≤ bnd + 1) : MonOk l := ⟨Sz.ok bd h hc, inv_ok bd h hc, Sz.ok bd h hc⟩
theorem scal_sz {l u : List K} {c d : Nat} (h : Sz c l) (hu : Sz d u) (hz : lst l ≠ 0) : Sz (c + d) (scaled (Fld.inv (lst l)) u) := by
  obtain ⟨D, h⟩ := h
  obtain ⟨E, hu⟩ := hu
  obtain ⟨B, h1, h2⟩ := h.get (l.length - 1)
  have h2' : lst l * (D : K) = (B : K) := h2
  have hi := inv_mul _ hz
  have hB0 : (B : K) ≠ 0 := by rw [← h2']; exact mul_ne hz h.d0
  refine Sz.trim ⟨B * E, inz hB0 hu.d0, by have := abs_mul2 h1 hu.dc; omega, fun x hx => ?_⟩
  obtain ⟨y, hy, rfl⟩ := List.mem_map.mp hx
  obtain ⟨z, g1, g2⟩ := hu.z y hy
  refine ⟨D * z, by have := abs_mul2 h.dc g1; omega, ?_⟩
  rw [icm, icm, ← g2, ← h2']
  grind
theorem monic_sz {l : List K} {c : Nat} (h : Sz c l) (tl : Tr l) : Sz c (monic l) := by
  unfold monic
  by_cases hn : l = []
  · rw [if_pos hn, ← hn]
    exact h
  · rw [if_neg hn]
    have hz := tr_lst tl hn
    obtain ⟨D, h⟩ := h
    obtain ⟨B, h1, h2⟩ := h.get (l.length - 1)
    have h2' : lst l * (D : K) = (B : K) := h2
    have hi := inv_mul _ hz
    refine Sz.trim ⟨B, by rw [← h2']; exact mul_ne hz h.d0, h1, fun x hx => ?_⟩
    obtain ⟨y, hy, rfl⟩ := List.mem_map.mp hx
    obtain ⟨z, g1, g2⟩ := h.z y hy
    exact ⟨z, g1, by rw [← g2, ← h2']; grind⟩
end
end K9

/-! sizes over the runs of Euclid -/
namespace K9
section
variable {K : Type} [Fld K]
theorem dv_mod2 {a f g : List K} (h1 : Dv a f) (h2 : Dv a g) (hg : g ≠ []) (hz : lst g ≠ 0) : Dv a (pmod f g) := by
  have hd := co_div (a := f) hg hz
  refine dv_lin (u := [1]) (v := negR (pdiv f g)) h1 h2 ?_
  rw [co_one, co_neg]
  grind
theorem dv_lenle {a g : List K} (ta : Tr a) (tg : Tr g) (hg : g ≠ []) (h : Dv a g) : a.length ≤ g.length := by
  obtain ⟨q, _, hq, _, l, _⟩ := dv_row h tg ta hg
  have : 0 < q.length := List.length_pos_iff.mpr hq
  omega
theorem eu_nil {n : Nat} {f : List K} (h : MonOk f) : EuOk n f [] := by
  cases n with
  | zero => exact h
  | succ n =>
    unfold EuOk
    rw [if_pos rfl]
    exact h
theorem eu_cons {n : Nat} {f g : List K} (hg : g ≠ []) (h1 : DivOk f g) (h2 : EuOk n g (pmod f g)) : EuOk (n + 1) f g := by
  unfold EuOk
  rw [if_neg hg]
  exact ⟨h1, h2⟩
theorem gcdF_nil (n : Nat) (f : List K) : gcdF n f [] = f := by cases n <;> rfl
theorem gcdF_cons {n : Nat} {f g : List K} (hg : g ≠ []) : gcdF (n + 1) f g = gcdF n g (pmod f g) := by
  show (if g = [] then f else gcdF n g (pmod f g)) = _
  rw [if_neg hg]
structure Eu (a f g : List K) (c : Nat) : Prop where
  tf : Tr f
  tg : Tr g
  df : Dv a f
  dg : Dv a g
  lf : f.length ≤ a.length + 2
  sf : Sz c f
  sg : Sz c g
theorem Eu.mono {a f g : List K} {c d : Nat} (h : Eu a f g c) (hc : c ≤ d) : Eu a f g d := ⟨h.tf, h.tg, h.df, h.dg, h.lf, h.sf.mono hc, h.sg.mono hc⟩
section
variable (bd : Bd K) {a : List K} (ta : Tr a)
include bd ta
theorem eu_step {f g : List K} {c j n : Nat} (h : Eu a f g c) (hg : g ≠ []) (hl : g.length ≤ a.length + 2) (hj : f.length + 1 - g.length ≤ j) (hc : c + j * c ≤ bnd + 1) : DivOk f g ∧ Eu a g (pmod f g) (c + j * c) ∧ (pmod f g).length < g.length := by
  have hz := tr_lst h.tg hg
  obtain ⟨h1, _, h2⟩ := div_sz bd h.sf h.sg hg hz hj hc (by omega)
  exact ⟨h1, ⟨h.tg, tr_trim _, h.dg, dv_mod2 h.df h.dg hg hz, hl, h.sg.mono (by omega), h2⟩, pmod_len' hg hz⟩
theorem eu1 {f g : List K} {c n : Nat} (h : Eu a f g c) (hl : g.length ≤ a.length) (hn : g.length ≤ n) (hc : 4 * c ≤ bnd + 1) : EuOk n f g ∧ Sz c (gcdF n f g) := by
  by_cases hg : g = []
  · subst hg
    rw [gcdF_nil]
    exact ⟨eu_nil (mon_ok bd h.sf (by omega)), h.sf⟩
  · have hge := dv_lenle ta h.tg hg h.dg
    have hlf := h.lf
    obtain ⟨h1, h2, h3⟩ := eu_step bd ta (j := 3) (n := n) h hg (by omega) (by omega) (by omega)
    have hr : pmod f g = [] := Classical.byContradiction fun hr => by
      have := dv_lenle ta h2.tg hr h2.dg
      omega
    obtain ⟨m, rfl⟩ : ∃ m, n = m + 1 := ⟨n - 1, by have := List.length_pos_iff.mpr hg; omega⟩
    rw [gcdF_cons hg, hr, gcdF_nil]
    refine ⟨eu_cons hg h1 ?_, h.sg⟩
    rw [hr]
    exact eu_nil (mon_ok bd h.sg (by omega))
theorem eu2 {f g : List K} {c n : Nat} (h : Eu a f g c) (hl : g.length ≤ a.length + 1) (hn : g.length ≤ n) (hc : 12 * c ≤ bnd + 1) : EuOk n f g ∧ Sz (3 * c) (gcdF n f g) := by
  by_cases hg : g.length ≤ a.length
  · have := eu1 bd ta h hg hn (by omega)
    exact ⟨this.1, this.2.mono (by omega)⟩
  · have hg0 : g ≠ [] := fun e => by rw [e] at hg; exact hg (Nat.zero_le _)
    have hlf := h.lf
    obtain ⟨h1, h2, h3⟩ := eu_step bd ta (j := 2) (n := n) h hg0 (by omega) (by omega) (by omega)
    obtain ⟨m, rfl⟩ : ∃ m, n = m + 1 := ⟨n - 1, by have := List.length_pos_iff.mpr hg0; omega⟩
    have h4 := eu1 bd ta (n := m) (h2.mono (d := 3 * c) (by omega)) (by omega) (by omega) (by omega)
    rw [gcdF_cons hg0]
    exact ⟨eu_cons hg0 h1 h4.1, h4.2⟩
theorem eu3 {f g : List K} {c n : Nat} (h : Eu a f g c) (hl : g.length ≤ a.length + 2) (hn : g.length ≤ n) (hc : 24 * c ≤ bnd + 1) : EuOk n f g ∧ Sz (6 * c) (gcdF n f g) := by
  by_cases hg : g.length ≤ a.length + 1
  · have := eu2 bd ta h hg hn (by omega)
    exact ⟨this.1, this.2.mono (by omega)⟩
  · have hg0 : g ≠ [] := fun e => by rw [e] at hg; exact hg (Nat.zero_le _)
    have hlf := h.lf
    obtain ⟨h1, h2, h3⟩ := eu_step bd ta (j := 1) (n := n) h hg0 (by omega) (by omega) (by omega)
    obtain ⟨m, rfl⟩ : ∃ m, n = m + 1 := ⟨n - 1, by have := List.length_pos_iff.mpr hg0; omega⟩
    have h4 := eu2 bd ta (n := m) (h2.mono (d := 2 * c) (by omega)) (by omega) (by omega) (by omega)
    rw [gcdF_cons hg0]
    exact ⟨eu_cons hg0 h1 h4.1, h4.2.mono (by omega)⟩
theorem eu_cdiv {f g : List K} {c : Nat} (h : Eu a f g c) (hl : g.length ≤ a.length + 2) (hc : 24 * c ≤ bnd + 1) : EuOk g.length f g ∧ Sz (6 * c) (cdiv f g) := by
  have := eu3 bd ta h hl (Nat.le_refl _) hc
  exact ⟨this.1, monic_sz this.2 (gcdF_ok _ f g (Nat.le_refl _) h.tf h.tg).tr⟩
/-! ### the cofactors' run -/
structure Cs (a : List K) (c e : Nat) (s : Cof K) : Prop where
  eu : Eu a s.f s.g c
  su : Sz e s.u
  ss : Sz e s.s
  sv : Sz e s.v
  st : Sz e s.t
omit bd ta in
theorem Cs.mono {s : Cof K} {c d e e' : Nat} (h : Cs a c e s) (h1 : c ≤ d) (h2 : e ≤ e') : Cs a d e' s := ⟨h.eu.mono h1, h.su.mono h2, h.ss.mono h2, h.sv.mono h2, h.st.mono h2⟩
theorem cs_end {s : Cof K} {c e : Nat} (h : Cs a c e s) (h1 : c ≤ bnd + 1) (h2 : e ≤ bnd + 1) : CofEndOk s := ⟨Sz.ok bd h.eu.sf h1, inv_ok bd h.eu.sf h1, Sz.ok bd h.su h2, Sz.ok bd h.sv h2⟩
theorem cs_step {s : Cof K} {c e j : Nat} (h : Cs a c e s) (hg : s.g ≠ []) (hl : s.g.length ≤ a.length + 2) (hj : s.f.length + 1 - s.g.length ≤ j) (hj3 : j ≤ 16) (hc : (c + j * c) + c + e + e + 4 ≤ bnd + 1) :
    CofStepOk s ∧ Cs a (c + j * c) (e + (c + j * c + e + 4)) s.next ∧ (pmod s.f s.g).length < s.g.length := by
  obtain ⟨h1, h2, h3⟩ := eu_step bd ta (j := j) (n := 0) h.eu hg hl hj (by omega)
  have hz := tr_lst h.eu.tg hg
  obtain ⟨_, hq, _⟩ := div_sz bd h.eu.sf h.eu.sg hg hz hj (by omega : c + j * c ≤ bnd + 1) (by omega)
  have lq := pdiv_len' s.f s.g
  have lq2 : (pdiv s.f s.g).length ≤ 2 ^ 4 := by
    show _ ≤ 16
    omega
  obtain ⟨m1, z1⟩ := mul_sz bd hq h.eu.sg lq2 (by omega)
  obtain ⟨m2, z2⟩ := mul_sz bd hq h.ss lq2 (by omega)
  obtain ⟨m3, z3⟩ := mul_sz bd hq h.st lq2 (by omega)
  refine ⟨⟨h1, m1, ⟨Sz.ok bd h.eu.sf (by omega), Sz.ok bd (neg_sz z1) (by omega)⟩, m2, ⟨Sz.ok bd h.su (by omega), Sz.ok bd (neg_sz z2) (by omega)⟩, m3, ⟨Sz.ok bd h.sv (by omega), Sz.ok bd (neg_sz z3) (by omega)⟩⟩, ?_, h3⟩
  exact ⟨h2, h.ss.mono (by omega), psub_sz h.su z2, h.st.mono (by omega), psub_sz h.sv z3⟩
theorem co_nil' {s : Cof K} {n : Nat} (h : s.g = []) (h2 : CofEndOk s) : CofOk n s ∧ cofF n s = s := by
  cases n with
  | zero => exact ⟨h2, rfl⟩
  | succ n =>
    constructor
    · unfold CofOk
      rw [if_pos h]
      exact h2
    · show (if s.g = [] then s else cofF n s.next) = s
      rw [if_pos h]
theorem co_cons' {s : Cof K} {n : Nat} (h : s.g ≠ []) (h1 : CofStepOk s) (h2 : CofOk n s.next) : CofOk (n + 1) s := by
  unfold CofOk
  rw [if_neg h]
  exact ⟨h1, h2⟩
omit bd ta in
theorem cofF_cons {s : Cof K} {n : Nat} (h : s.g ≠ []) : cofF (n + 1) s = cofF n s.next := by
  show (if s.g = [] then s else cofF n s.next) = _
  rw [if_neg h]
theorem cs1 {s : Cof K} {n : Nat} (h : Cs a 48 100 s) (hl : s.g.length ≤ a.length) (hn : s.g.length ≤ n) : CofOk n s ∧ Cs a 192 400 (cofF n s) := by
  have hb : bnd = 4400 := rfl
  by_cases hg : s.g = []
  · obtain ⟨h1, h2⟩ := co_nil' bd ta (n := n) hg (cs_end bd ta h (by omega) (by omega))
    rw [h2]
    exact ⟨h1, h.mono (by omega) (by omega)⟩
  · have hge := dv_lenle ta h.eu.tg hg h.eu.dg
    have hlf := h.eu.lf
    obtain ⟨h1, h2, h3⟩ := cs_step bd ta (j := 3) h hg (by omega) (by omega) (by omega) (by omega)
    have hr : s.next.g = [] := Classical.byContradiction fun hr => by
      have := dv_lenle ta h2.eu.tg hr h2.eu.dg
      have e : s.next.g = pmod s.f s.g := rfl
      rw [e] at this
      omega
    obtain ⟨m, rfl⟩ : ∃ m, n = m + 1 := ⟨n - 1, by have := List.length_pos_iff.mpr hg; omega⟩
    obtain ⟨h4, h5⟩ := co_nil' bd ta (n := m) hr (cs_end bd ta h2 (by omega) (by omega))
    rw [cofF_cons hg, h5]
    exact ⟨co_cons' bd ta hg h1 h4, h2.mono (by omega) (by omega)⟩
theorem cs2 {s : Cof K} {n : Nat} (h : Cs a 16 24 s) (hl : s.g.length ≤ a.length + 1) (hn : s.g.length ≤ n) : CofOk n s ∧ Cs a 192 400 (cofF n s) := by
  have hb : bnd = 4400 := rfl
  by_cases hg : s.g.length ≤ a.length
  · exact cs1 bd ta (h.mono (by omega) (by omega)) hg hn
  · have hg0 : s.g ≠ [] := fun e => by rw [e] at hg; exact hg (Nat.zero_le _)
    have hlf := h.eu.lf
    obtain ⟨h1, h2, h3⟩ := cs_step bd ta (j := 2) h hg0 (by omega) (by omega) (by omega) (by omega)
    obtain ⟨m, rfl⟩ : ∃ m, n = m + 1 := ⟨n - 1, by have := List.length_pos_iff.mpr hg0; omega⟩
    have e : s.next.g.length = (pmod s.f s.g).length := rfl
    obtain ⟨h4, h5⟩ := cs1 bd ta (n := m) (h2.mono (d := 48) (e' := 100) (by omega) (by omega)) (by omega) (by omega)
    rw [cofF_cons hg0]
    exact ⟨co_cons' bd ta hg0 h1 h4, h5⟩
theorem cs3 {s : Cof K} {n : Nat} (h : Cs a 8 2 s) (hl : s.g.length ≤ a.length + 2) (hn : s.g.length ≤ n) : CofOk n s ∧ Cs a 192 400 (cofF n s) := by
  have hb : bnd = 4400 := rfl
  by_cases hg : s.g.length ≤ a.length + 1
  · exact cs2 bd ta (h.mono (by omega) (by omega)) hg hn
  · have hg0 : s.g ≠ [] := fun e => by rw [e] at hg; exact hg (Nat.zero_le _)
    have hlf := h.eu.lf
    obtain ⟨h1, h2, h3⟩ := cs_step bd ta (j := 1) h hg0 (by omega) (by omega) (by omega) (by omega)
    obtain ⟨m, rfl⟩ : ∃ m, n = m + 1 := ⟨n - 1, by have := List.length_pos_iff.mpr hg0; omega⟩
    have e : s.next.g.length = (pmod s.f s.g).length := rfl
    obtain ⟨h4, h5⟩ := cs2 bd ta (n := m) (h2.mono (d := 16) (e' := 24) (by omega) (by omega)) (by omega) (by omega)
    rw [cofF_cons hg0]
    exact ⟨co_cons' bd ta hg0 h1 h4, h5⟩
end
end
end K9

namespace K9
open PySem PySem.Spec PyProof.Rows L2
/-! ### the text by places -/
def top (i : Nat) : Stmt := PySem.Challenge.pw_similarforms_k09_whole_common_divisors.main.body.getD i (.Pass ⟨0, 0, 0, 0⟩)
abbrev sIsInt : Stmt := top 10
abbrev sRInit : Stmt := inClass (top 11) 0
abbrev sREq : Stmt := inClass (top 11) 1
abbrev sRAdd : Stmt := inClass (top 11) 2
abbrev sRSub : Stmt := inClass (top 11) 3
abbrev sRMul : Stmt := inClass (top 11) 4
abbrev sRNeg : Stmt := inClass (top 11) 5
abbrev sRZer : Stmt := inClass (top 11) 7
abbrev sRInv : Stmt := inClass (top 11) 8
abbrev sIsPr : Stmt := top 14
abbrev sZInit : Stmt := inClass (top 15) 0
abbrev sZEq : Stmt := inClass (top 15) 1
abbrev sZAdd : Stmt := inClass (top 15) 2
abbrev sZSub : Stmt := inClass (top 15) 3
abbrev sZMul : Stmt := inClass (top 15) 4
abbrev sZNeg : Stmt := inClass (top 15) 5
abbrev sZZer : Stmt := inClass (top 15) 7
abbrev sZInv : Stmt := inClass (top 15) 8
abbrev sZOver : Stmt := inClass (top 15) 9
abbrev sGInit : Stmt := inClass (top 20) 0
abbrev sGEq : Stmt := inClass (top 20) 1
abbrev sGNum : Stmt := inClass (top 20) 2
abbrev sGZero : Stmt := inClass (top 20) 3
abbrev sGOne : Stmt := inClass (top 20) 4
abbrev sGMem : Stmt := inClass (top 20) 5
abbrev sTaken : Stmt := top 21
abbrev sTrim : Stmt := top 23
abbrev sSumR : Stmt := top 24
abbrev sProdR : Stmt := top 25
abbrev sDiv : Stmt := top 26
abbrev sPInit : Stmt := inClass (top 27) 0
abbrev sPEq : Stmt := inClass (top 27) 1
abbrev sPAdd : Stmt := inClass (top 27) 2
abbrev sPSub : Stmt := inClass (top 27) 4
abbrev sPMul : Stmt := inClass (top 27) 5
abbrev sPFdiv : Stmt := inClass (top 27) 6
abbrev sPMod : Stmt := inClass (top 27) 7
abbrev sPDeg : Stmt := inClass (top 27) 10
abbrev sPZer : Stmt := inClass (top 27) 11
abbrev sPScal : Stmt := inClass (top 27) 13
abbrev sPMon : Stmt := inClass (top 27) 14
abbrev sChk : Stmt := top 28
abbrev sGcd : Stmt := top 30
abbrev sLcm : Stmt := top 31
abbrev sCop : Stmt := top 32
abbrev sCof : Stmt := top 33
abbrev sLNums : Stmt := top 35
abbrev sLNext : Stmt := top 36
abbrev sLPrime : Stmt := top 37
abbrev sLGround : Stmt := top 38
abbrev sLRest : Stmt := top 39
abbrev sLTrim : Stmt := top 40
abbrev sLRow : Stmt := top 41
abbrev sLPoly : Stmt := top 42
abbrev sLMix : Stmt := top 43
abbrev sLaw : Stmt := top 44
/-! ### the defs' data -/
def dIsInt : He.DefD := ⟨("is_integer", none), "is_integer", "is_integer", defArgs sIsInt, defBody sIsInt, defScope sIsInt, [], []⟩
def dRInit : He.DefD := ⟨("Ratio", some "__init__"), "__init__", "Ratio.__init__", defArgs sRInit, defBody sRInit, defScope sRInit, [.int 1], []⟩
def dREq : He.DefD := ⟨("Ratio", some "__eq__"), "__eq__", "Ratio.__eq__", defArgs sREq, defBody sREq, defScope sREq, [], []⟩
def dRAdd : He.DefD := ⟨("Ratio", some "__add__"), "__add__", "Ratio.__add__", defArgs sRAdd, defBody sRAdd, defScope sRAdd, [], []⟩
def dRSub : He.DefD := ⟨("Ratio", some "__sub__"), "__sub__", "Ratio.__sub__", defArgs sRSub, defBody sRSub, defScope sRSub, [], []⟩
def dRMul : He.DefD := ⟨("Ratio", some "__mul__"), "__mul__", "Ratio.__mul__", defArgs sRMul, defBody sRMul, defScope sRMul, [], []⟩
def dRNeg : He.DefD := ⟨("Ratio", some "__neg__"), "__neg__", "Ratio.__neg__", defArgs sRNeg, defBody sRNeg, defScope sRNeg, [], []⟩
def dRZer : He.DefD := ⟨("Ratio", some "is_zero"), "is_zero", "Ratio.is_zero", defArgs sRZer, defBody sRZer, defScope sRZer, [], []⟩
def dRInv : He.DefD := ⟨("Ratio", some "inverse"), "inverse", "Ratio.inverse", defArgs sRInv, defBody sRInv, defScope sRInv, [], []⟩
def dIsPr : He.DefD := ⟨("is_small_prime", none), "is_small_prime", "is_small_prime", defArgs sIsPr, defBody sIsPr, defScope sIsPr, [], []⟩
def dZInit : He.DefD := ⟨("Residue", some "__init__"), "__init__", "Residue.__init__", defArgs sZInit, defBody sZInit, defScope sZInit, [], []⟩
def dZEq : He.DefD := ⟨("Residue", some "__eq__"), "__eq__", "Residue.__eq__", defArgs sZEq, defBody sZEq, defScope sZEq, [], []⟩
def dZAdd : He.DefD := ⟨("Residue", some "__add__"), "__add__", "Residue.__add__", defArgs sZAdd, defBody sZAdd, defScope sZAdd, [], []⟩
def dZSub : He.DefD := ⟨("Residue", some "__sub__"), "__sub__", "Residue.__sub__", defArgs sZSub, defBody sZSub, defScope sZSub, [], []⟩
def dZMul : He.DefD := ⟨("Residue", some "__mul__"), "__mul__", "Residue.__mul__", defArgs sZMul, defBody sZMul, defScope sZMul, [], []⟩
def dZNeg : He.DefD := ⟨("Residue", some "__neg__"), "__neg__", "Residue.__neg__", defArgs sZNeg, defBody sZNeg, defScope sZNeg, [], []⟩
def dZZer : He.DefD := ⟨("Residue", some "is_zero"), "is_zero", "Residue.is_zero", defArgs sZZer, defBody sZZer, defScope sZZer, [], []⟩
def dZInv : He.DefD := ⟨("Residue", some "inverse"), "inverse", "Residue.inverse", defArgs sZInv, defBody sZInv, defScope sZInv, [], []⟩
def dZOver : He.DefD := ⟨("Residue", some "over"), "over", "Residue.over", defArgs sZOver, defBody sZOver, defScope sZOver, [], []⟩
def dGInit : He.DefD := ⟨("Ground", some "__init__"), "__init__", "Ground.__init__", defArgs sGInit, defBody sGInit, defScope sGInit, [.int 0], []⟩
def dGEq : He.DefD := ⟨("Ground", some "__eq__"), "__eq__", "Ground.__eq__", defArgs sGEq, defBody sGEq, defScope sGEq, [], []⟩
def dGNum : He.DefD := ⟨("Ground", some "number"), "number", "Ground.number", defArgs sGNum, defBody sGNum, defScope sGNum, [.int 1], []⟩
def dGZero : He.DefD := ⟨("Ground", some "zero"), "zero", "Ground.zero", defArgs sGZero, defBody sGZero, defScope sGZero, [], []⟩
def dGOne : He.DefD := ⟨("Ground", some "one"), "one", "Ground.one", defArgs sGOne, defBody sGOne, defScope sGOne, [], []⟩
def dGMem : He.DefD := ⟨("Ground", some "is_member"), "is_member", "Ground.is_member", defArgs sGMem, defBody sGMem, defScope sGMem, [], []⟩
def dTaken : He.DefD := ⟨("taken", none), "taken", "taken", defArgs sTaken, defBody sTaken, defScope sTaken, [], []⟩
def dTrim : He.DefD := ⟨("trimmed", none), "trimmed", "trimmed", defArgs sTrim, defBody sTrim, defScope sTrim, [], []⟩
def dSumR : He.DefD := ⟨("sum_row", none), "sum_row", "sum_row", defArgs sSumR, defBody sSumR, defScope sSumR, [], []⟩
def dProdR : He.DefD := ⟨("product_row", none), "product_row", "product_row", defArgs sProdR, defBody sProdR, defScope sProdR, [], []⟩
def dDiv : He.DefD := ⟨("division", none), "division", "division", defArgs sDiv, defBody sDiv, defScope sDiv, [], []⟩
def dPInit : He.DefD := ⟨("Poly", some "__init__"), "__init__", "Poly.__init__", defArgs sPInit, defBody sPInit, defScope sPInit, [], []⟩
def dPEq : He.DefD := ⟨("Poly", some "__eq__"), "__eq__", "Poly.__eq__", defArgs sPEq, defBody sPEq, defScope sPEq, [], []⟩
def dPAdd : He.DefD := ⟨("Poly", some "__add__"), "__add__", "Poly.__add__", defArgs sPAdd, defBody sPAdd, defScope sPAdd, [], []⟩
def dPSub : He.DefD := ⟨("Poly", some "__sub__"), "__sub__", "Poly.__sub__", defArgs sPSub, defBody sPSub, defScope sPSub, [], []⟩
def dPMul : He.DefD := ⟨("Poly", some "__mul__"), "__mul__", "Poly.__mul__", defArgs sPMul, defBody sPMul, defScope sPMul, [], []⟩
def dPFdiv : He.DefD := ⟨("Poly", some "__floordiv__"), "__floordiv__", "Poly.__floordiv__", defArgs sPFdiv, defBody sPFdiv, defScope sPFdiv, [], []⟩
def dPMod : He.DefD := ⟨("Poly", some "__mod__"), "__mod__", "Poly.__mod__", defArgs sPMod, defBody sPMod, defScope sPMod, [], []⟩
def dPDeg : He.DefD := ⟨("Poly", some "degree"), "degree", "Poly.degree", defArgs sPDeg, defBody sPDeg, defScope sPDeg, [], []⟩
def dPZer : He.DefD := ⟨("Poly", some "is_zero"), "is_zero", "Poly.is_zero", defArgs sPZer, defBody sPZer, defScope sPZer, [], []⟩
def dPScal : He.DefD := ⟨("Poly", some "scaled"), "scaled", "Poly.scaled", defArgs sPScal, defBody sPScal, defScope sPScal, [], []⟩
def dPMon : He.DefD := ⟨("Poly", some "monic"), "monic", "Poly.monic", defArgs sPMon, defBody sPMon, defScope sPMon, [], []⟩
def dChk : He.DefD := ⟨("check_grounds", none), "check_grounds", "check_grounds", defArgs sChk, defBody sChk, defScope sChk, [], []⟩
def dGcd : He.DefD := ⟨("common_divisor", none), "common_divisor", "common_divisor", defArgs sGcd, defBody sGcd, defScope sGcd, [], []⟩
def dLcm : He.DefD := ⟨("common_multiple", none), "common_multiple", "common_multiple", defArgs sLcm, defBody sLcm, defScope sLcm, [], []⟩
def dCop : He.DefD := ⟨("are_coprime", none), "are_coprime", "are_coprime", defArgs sCop, defBody sCop, defScope sCop, [], []⟩
def dCof : He.DefD := ⟨("cofactors", none), "cofactors", "cofactors", defArgs sCof, defBody sCof, defScope sCof, [], []⟩
def dLNums : He.DefD := ⟨("_law_numbers", none), "_law_numbers", "_law_numbers", defArgs sLNums, defBody sLNums, defScope sLNums, [], []⟩
def dLNext : He.DefD := ⟨("_law_next", none), "_law_next", "_law_next", defArgs sLNext, defBody sLNext, defScope sLNext, [], []⟩
def dLPrime : He.DefD := ⟨("_law_prime", none), "_law_prime", "_law_prime", defArgs sLPrime, defBody sLPrime, defScope sLPrime, [], []⟩
def dLGround : He.DefD := ⟨("_law_ground", none), "_law_ground", "_law_ground", defArgs sLGround, defBody sLGround, defScope sLGround, [], []⟩
def dLRest : He.DefD := ⟨("_law_rest", none), "_law_rest", "_law_rest", defArgs sLRest, defBody sLRest, defScope sLRest, [], []⟩
def dLTrim : He.DefD := ⟨("_law_trim", none), "_law_trim", "_law_trim", defArgs sLTrim, defBody sLTrim, defScope sLTrim, [], []⟩
def dLRow : He.DefD := ⟨("_law_row", none), "_law_row", "_law_row", defArgs sLRow, defBody sLRow, defScope sLRow, [], []⟩
def dLPoly : He.DefD := ⟨("_law_poly", none), "_law_poly", "_law_poly", defArgs sLPoly, defBody sLPoly, defScope sLPoly, [], []⟩
def dLMix : He.DefD := ⟨("_law_mixed", none), "_law_mixed", "_law_mixed", defArgs sLMix, defBody sLMix, defScope sLMix, [], []⟩
def dLaw : He.DefD := ⟨("law", none), "law", "law", defArgs sLaw, defBody sLaw, defScope sLaw, [], []⟩
def fn1 : List He.DefD := [dIsInt, dRInit, dREq, dRAdd, dRSub, dRMul, dRNeg, dRZer, dRInv, dIsPr, dZInit, dZEq, dZAdd, dZSub, dZMul, dZNeg, dZZer, dZInv, dZOver, dGInit, dGEq, dGNum, dGZero, dGOne, dGMem, dTaken, dTrim, dSumR, dProdR, dDiv]
def fn2 : List He.DefD := [dPInit, dPEq, dPAdd, dPSub, dPMul, dPFdiv, dPMod, dPDeg, dPZer, dPScal, dPMon, dChk, dGcd, dLcm, dCop, dCof, dLNums, dLNext, dLPrime, dLGround, dLRest, dLTrim, dLRow, dLPoly, dLMix, dLaw]
def fn : List He.DefD := fn1 ++ fn2
/-! ### the facts of the top -/
def fa0 : List He.Fa := [.glo "is_integer", .glo "is_small_prime", .glo "taken", .glo "trimmed", .glo "sum_row", .glo "product_row", .glo "division", .glo "check_grounds", .glo "common_divisor", .glo "common_multiple", .glo "are_coprime", .glo "cofactors", .glo "_law_numbers", .glo "_law_next", .glo "_law_prime", .glo "_law_ground", .glo "_law_rest", .glo "_law_trim", .glo "_law_row", .glo "_law_poly", .glo "_law_mixed", .glo "law", .glo "Ratio", .cls "Ratio", .mkr "Ratio", .noat "Ratio" "n", .noat "Ratio" "d", .glo "Residue", .cls "Residue", .mkr "Residue"]
def fa1 : List He.Fa := [.noat "Residue" "p", .noat "Residue" "n", .glo "Ground", .cls "Ground", .mkr "Ground", .noat "Ground" "p", .glo "Poly", .cls "Poly", .mkr "Poly", .noat "Poly" "ground", .noat "Poly" "row", .meth "Ratio" "__eq__", .meth "Ratio" "__add__", .meth "Ratio" "__sub__", .meth "Ratio" "__mul__", .meth "Ratio" "__neg__", .meth "Ratio" "is_zero", .meth "Ratio" "inverse", .meth "Residue" "__eq__", .meth "Residue" "__add__", .meth "Residue" "__sub__", .meth "Residue" "__mul__", .meth "Residue" "__neg__", .meth "Residue" "is_zero", .meth "Residue" "inverse", .meth "Residue" "over", .meth "Ground" "__eq__", .meth "Ground" "number", .meth "Ground" "zero", .meth "Ground" "one"]
def fa2 : List He.Fa := [.meth "Ground" "is_member", .meth "Poly" "__eq__", .meth "Poly" "__add__", .meth "Poly" "__sub__", .meth "Poly" "__mul__", .meth "Poly" "__floordiv__", .meth "Poly" "__mod__", .meth "Poly" "degree", .meth "Poly" "is_zero", .meth "Poly" "scaled", .meth "Poly" "monic", .free "isinstance", .free "int", .free "bool", .free "list", .free "tuple", .free "len", .free "max", .free "min", .free "range", .free "zip", .free "abs", .glo "Malformed", .exc "Malformed", .exm "Malformed" "Malformed" true]
def fa : List He.Fa := fa0 ++ fa1 ++ fa2
def names0 : List PySem.Str := ["_wall", "Fault", "ZeroDivisor", "Malformed", "NoText", "PIECE", "written_integer", "is_integer", "Ratio", "PRIMES", "is_small_prime", "Residue", "DIGITS", "whole_number", "read_ratio", "Ground", "taken", "trimmed", "sum_row", "product_row"]
def names1 : List PySem.Str := ["division", "Poly", "check_grounds", "common_divisor", "common_multiple", "are_coprime", "cofactors", "_law_numbers", "_law_next", "_law_prime", "_law_ground", "_law_rest", "_law_trim", "_law_row", "_law_poly", "_law_mixed"]
def names : List PySem.Str := names0 ++ names1
/-- the class at C is a plain one below object, its own dict holds __eq__ (at f) and no __ne__ -/
def neB (K : PySem.W.Frag) (C f : Addr) : Bool := match K.lookup C with
  | some ⟨.type "type", _, .cls cd, sl⟩ => (match cd.mro, sl.toList with
    | [.ref C', .type "object"], [_, _, _, _, some (.builtin _), _] => C' == C && (!cd.hasDel && (PySem.W.nsOkIn K cd.ns && (He.eqO (PySem.W.nsIn K cd.ns "__eq__") (some (some (.ref f))) && He.eqO (PySem.W.nsIn K cd.ns "__ne__") (some none))))
    | _, _ => false)
  | _ => false
/-- what an isinstance and a != of the class want besides -/
def insB (K : PySem.W.Frag) (x : Str) : Bool := He.eqO (PySem.W.findIn K (.ref (He.ga K x)) "__class__") (some (some (.builtin "object.__class__"))) && (He.eqO (PySem.W.specialIn K (.builtin "object.__class__") "__get__") (some (some (.builtin "getset_descriptor.__get__"))) &&
  (decide (PySem.W.takesIn K (.builtin "object.__class__") = some true) && (decide (PySem.W.mroIn K (He.ga K x) (.type "object") = some true) && (neB K (He.ga K x) (He.ma K (He.ga K x) "__eq__") &&
  (PySem.W.selfFirst K (He.ga K x) && (decide (PySem.W.kitOne K (.ref (He.ga K x)) (.type "int") = some false)))))))
def exB (K : PySem.W.Frag) : Bool := He.eqO (PySem.W.nsIn K mainGlobals "gcd") (some (some (.builtin "math.gcd"))) && (He.tupB K "PRIMES" [.int 2, .int 3, .int 5, .int 7, .int 11, .int 13, .int 17, .int 19, .int 23, .int 29, .int 31] && (He.eqO (PySem.W.nsIn K mainGlobals "PRIMES") (some (some (.ref (He.ga K "PRIMES")))) &&
  (insB K "Ratio" && (insB K "Residue" && (insB K "Ground" && (insB K "Poly" && decide (PySem.W.kitOne K (.type "int") (.type "bool") = some false)))))))
/-! ### the Hook: HeadHook2's, with one Bool more -/
abbrev AlK : Type := He.AlD × Bool
def obsK (K : PySem.W.Frag) : AlK := (He.obsD fa fn K, exB K)
def valK : AlK := (He.valD fn, true)
def obsKG (n : Nat) (g : Addr → Option Obj) : AlK := obsK (He.frG g (He.asD g n))
structure SaysK (K : PySem.W.Frag) : Prop where
  d : He.SaysD fa fn K
  ex : exB K = true
def hookK (n : Nat) : PySem.W.Hook where
  α := AlK
  obs := fun s => obsKG n s.heap.get?
  val := fun _ => valK
  says := fun _ h => ∃ K : PySem.W.Frag, K.In h ∧ SaysK K
  of := fun _ _ e => ⟨_, He.frG_in, ⟨congrArg (fun z : AlK => z.1) e, congrArg (fun z : AlK => z.2) e⟩⟩
  keeps := fun _ _ _ ⟨K, hK, c⟩ k => ⟨K, PySem.W.Frag.In.keeps hK k, c⟩
theorem obsKG_eq {n : Nat} {g : Addr → Option Obj} {s : Shared} (h : ∀ a, g a = s.heap.get? a) : obsKG n g = (hookK n).obs s := by
  have e : g = s.heap.get? := funext h
  rw [e] <;> rfl
abbrev R : PySem.W.OpenRow := PySem.W.OpenLaw.row PySem.Challenge.rw_similarforms_k09_whole_common_divisors
end K9

namespace K9
open PySem PySem.Spec PyProof.Rows L2
def ob (s : PySem.W.SharedT) : AlK := obsKG 4 (HeadRun.getT s)
theorem ob_eq (s : PySem.W.SharedT) : ob s = (hookK 4).obs s.abs := obsKG_eq (HeadRun.getT_eq s)
theorem run (w : World) : HeadRun.RunEqI R (PySem.W.view R.prog [0, 44]) (hookK 4) ob 20000 names w := by
  unfold HeadRun.RunEqI
  kernel_rfl
end K9

namespace K9
open PySem PySem.Spec PyProof.Rows L2
/-! ### what an own class brings to ==, !=, isinstance, the operators -/
structure OwnC (K : PySem.W.Frag) (C : Addr) : Prop where
  cl : Cls K C
  ca : PySem.W.findIn K (.ref C) "__class__" = some (some (.builtin "object.__class__"))
  cn : PySem.W.specialIn K (.builtin "object.__class__") "__get__" = some (some (.builtin "getset_descriptor.__get__"))
  ct : PySem.W.takesIn K (.builtin "object.__class__") = some true
  cm : PySem.W.mroIn K C (.type "object") = some true
  ne : neB K C (He.ma K C "__eq__") = true
  sf : PySem.W.selfFirst K C = true
  ni : PySem.W.kitOne K (.ref C) (.type "int") = some false
theorem OwnC.ty {K : PySem.W.Frag} {C : Addr} (o : OwnC K C) {H : Hp} {a dx : Addr} {fs : List (Str × V)} (e : H a = some (.ins C dx fs)) : TyX K H (.ref a) (.ref C) :=
  .base (.ins e o.cl o.ca o.cn o.ct o.cm)
theorem kit_self {K : PySem.W.Frag} {t : Value} : PySem.W.kitOne K t t = some true := by
  unfold PySem.W.kitOne
  rw [if_pos (by simp)]
theorem ns_some_of {K : PySem.W.Frag} {h : Heap} {N : Addr} {mg : Str → Option Value} {n : Str} {v : Value} (X : K.In h) (G : h.Ns N mg) (e : PySem.W.nsIn K N n = some (some v)) : mg n = some v := by
  obtain ⟨o, es, ep, ho, hd, _, hf⟩ := G
  unfold PySem.W.nsIn at e
  split at e
  · rename_i c d es' n' sl q
    have := X _ _ q
    rw [ho] at this
    cases this
    cases hd
    split at e
    · rename_i y he
      rw [← hf]
      unfold nsFind findBy
      rw [← Array.find?_toList, he]
      have e2 := Option.some.inj e
      exact e2
    · rename_i he
      split at e
      · cases e
      · cases e
  · cases e
theorem own_ne {K : PySem.W.Frag} {h : Heap} {C f x : Addr} {o : Obj} (X : K.In h) (q : neB K C f = true) (hf : PySem.W.isFn K (.ref f) = true) (hx : h.get? x = some o) (hc : o.cls = .ref C) : h.OwnEqNoNe x C f "object" [.type "object"] := by
  unfold neB at q
  split at q
  · rename_i dd cd sl ho
    split at q
    · rename_i C' k0 k1 k2 k3 n k5 hm hs
      simp only [Bool.and_eq_true, beq_iff_eq, Bool.not_eq_true'] at q
      obtain ⟨rfl, hdel, hok, he, hn⟩ := q
      obtain ⟨nm, bs, mro, ns, qn, hd, sn, sub, ab, col, del⟩ := cd
      dsimp only at hm hdel hok he hn
      subst hm hdel
      have hsl : sl = #[k0, k1, k2, k3, some (.builtin n), k5] := by
        obtain ⟨l⟩ := sl
        simp only at hs
        rw [hs]
      subst hsl
      have hN : h.Ns ns (h.nsMap ns) := .of_isNs (PySem.W.isNs_of_in X hok)
      have ht : PySem.W.typeIn K (.ref f) = some (.type "function") := beq_iff_eq.mp hf
      have ht2 : (K.lookup f).map (·.cls) = some (.type "function") := ht
      obtain ⟨of, hof, hofc⟩ := Option.map_eq_some_iff.mp ht2
      exact ⟨o, of, nm, qn, ns, bs, hd, sn, sub, ab, col, dd, k0, k1, k2, k3, k5, n, _, _, hx, hc, X _ _ ho, hN, ns_some_of X hN (He.eqO_ok he), X _ _ hof, hofc, PySem.F.mro_object, PySem.F.cmp_object.eq.lookup, PySem.W.nsMap_none_of_in X hok (He.eqO_ok hn)⟩
    · cases q
  · cases q

section
variable {X : Cx} {CX : CXT} {pins : List (Addr × Obj)} {σ : L2.St} {H : Hp} {s : Shared} {C g : Addr} {fd : FuncData} {ps : List Str} {n : Nat} {sp : Sp} {E : XK}
/-- x op y, both instances of the class at C, by the class's own def for op -/
def rOwnB (C : Addr) (sp : Sp) (E : XK) : R2 := fun x y H Q => ∃ a b dx dy fs gs, x = .ref a ∧ y = .ref b ∧ H a = some (.ins C dx fs) ∧ H b = some (.ins C dy gs) ∧ sp [x, y] H Q E
theorem op_ownB {op : Operator} (o : OwnC X.K C) (hs : PySem.W.findIn X.K (.ref C) (PySem.dunder op.info.2) = some (some (.ref g))) (hf : PySem.W.isFn X.K (.ref g) = true)
    (F : FnOk X.prog X.w X.K X.mg X.base CX n g fd ps sp) (hb : Binds X.K fd ps []) (hr : Room n X.A) (hx : Passes CX X E) : OpR X (binaryOp op) (rOwnB C sp E) := by
  intro pins s σ H x y v u Q I rx ry h
  obtain ⟨a, b, dx, dy, fs, gs, rfl, rfl, ha, hb2, q⟩ := h
  cases (show v = Value.ref a from rx)
  cases (show u = Value.ref b from ry)
  obtain ⟨mA, O, _⟩ := ins_get I.hok ha
  obtain ⟨mB, O2, _⟩ := ins_get I.hok hb2
  obtain ⟨od, J, _⟩ := O.look
  obtain ⟨od2, J2, _⟩ := O2.look
  obtain ⟨m, hF⟩ := I.fr
  refine PySem.W.binop_K hF I.ok.mod.kin J J2.type o.sf hs hf ?_
  refine wpAny_mono (run_fn (us := [.ref a, .ref b]) (vs := [.ref a, .ref b]) (ds := []) (dvs := []) F hr hb .nil hx I (.cons rfl (.cons rfl .nil)) q) (fun w s' z => ?_) fun _ _ x => x
  obtain ⟨z', H', I', rz, qz⟩ := z
  exact SlX.cmpback rz ⟨z', H', I', rz, qz⟩
/-- -x -/
def rOwnU (C : Addr) (sp : Sp) (E : XK) : V → Hp → VK → Prop := fun x H Q => ∃ a dx fs, x = .ref a ∧ H a = some (.ins C dx fs) ∧ sp [x] H Q E
theorem un_own (hs : PySem.W.findIn X.K (.ref C) "__neg__" = some (some (.ref g))) (hf : PySem.W.isFn X.K (.ref g) = true)
    (F : FnOk X.prog X.w X.K X.mg X.base CX n g fd ps sp) (hb : Binds X.K fd ps []) (hr : Room n X.A) (hx : Passes CX X E) : UnR X (unaryOp .USub) (rOwnU C sp E) := by
  intro pins s σ H x v Q I rx h
  obtain ⟨a, dx, fs, rfl, ha, q⟩ := h
  cases (show v = Value.ref a from rx)
  obtain ⟨mA, O, _⟩ := ins_get I.hok ha
  obtain ⟨od, J, _⟩ := O.look
  obtain ⟨m, hF⟩ := I.fr
  refine PySem.W.ksp_neg hF I.ok.mod.kin J hs hf ?_
  exact run_fn (us := [.ref a]) (vs := [.ref a]) (ds := []) (dvs := []) F hr hb .nil hx I (.cons rfl .nil) q
/-- x == y -/
theorem op_eqOwn (hs : PySem.W.findIn X.K (.ref C) "__eq__" = some (some (.ref g))) (hf : PySem.W.isFn X.K (.ref g) = true)
    (F : FnOk X.prog X.w X.K X.mg X.base CX n g fd ps sp) (hb : Binds X.K fd ps []) (hr : Room n X.A) (hx : Passes CX X E) : OpR X (compareOp .Eq) (rOwnB C sp E) := by
  intro pins s σ H x y v u Q I rx ry h
  obtain ⟨a, b, dx, dy, fs, gs, rfl, rfl, ha, hb2, q⟩ := h
  cases (show v = Value.ref a from rx)
  cases (show u = Value.ref b from ry)
  obtain ⟨mA, O, _⟩ := ins_get I.hok ha
  obtain ⟨mB, O2, _⟩ := ins_get I.hok hb2
  obtain ⟨od, J, _⟩ := O.look
  obtain ⟨od2, J2, _⟩ := O2.look
  obtain ⟨m, hF⟩ := I.fr
  show wpAny _ _ (richCompare .Eq _ _) _ _ _
  refine PySem.W.cmp_K (op := .Eq) (tb := .ref C) hr.units0 hF I.ok.mod.kin J J2.type (by simp [PySem.W.notFirst]) hs hf ?_
  refine wpAny_mono (run_fn (us := [.ref a, .ref b]) (vs := [.ref a, .ref b]) (ds := []) (dvs := []) F hr hb .nil hx I (.cons rfl (.cons rfl .nil)) q) (fun w s' z => ?_) fun _ _ x => x
  obtain ⟨z', H', I', rz, qz⟩ := z
  exact SlX.cmpback rz ⟨z', H', I', rz, qz⟩
/-- x != y: the own == is asked below object.__ne__ -/
def rOwnN (C : Addr) (sp : Sp) (E : XK) : R2 := fun x y H Q => ∃ a b dx dy fs gs, x = .ref a ∧ y = .ref b ∧ H a = some (.ins C dx fs) ∧ H b = some (.ins C dy gs) ∧ sp [x, y] H (fun z H' => ∃ k, z = .bl k ∧ Q (.bl (!k)) H') E
theorem op_neOwn (o : neB X.K C g = true) (hf : PySem.W.isFn X.K (.ref g) = true)
    (F : FnOk X.prog X.w X.K X.mg X.base CX n g fd ps sp) (hb : Binds X.K fd ps []) (hr : Room (n + 1) X.A) (hx : Passes CX X E) : OpR X (compareOp .NotEq) (rOwnN C sp E) := by
  intro pins s σ H x y v u Q I rx ry h
  obtain ⟨a, b, dx, dy, fs, gs, rfl, rfl, ha, hb2, q⟩ := h
  cases (show v = Value.ref a from rx)
  cases (show u = Value.ref b from ry)
  obtain ⟨mA, O, _⟩ := ins_get I.hok ha
  obtain ⟨mB, O2, _⟩ := ins_get I.hok hb2
  have hne := own_ne I.kIn o hf O.obj rfl
  obtain ⟨hh, gg, dd, tt, os⟩ := s
  refine compareOp_ne_ownEq PySem.F.cmp_object hne O2.obj rfl (hu_of hr) ?_
  have r2 : Vals [V.ref a, V.ref b] [Value.ref a, Value.ref b] := .cons rfl (.cons rfl .nil)
  have hl := F.len _ _ _ _ q
  refine wpAny_call (codeAny_mono (F.run X.A.in1 X.stack _ H ⟨[.ref a, .ref b], []⟩ [.ref a, .ref b] [.ref a, .ref b] _ E hr.in1 I.env0.in1 (by
    have := hb ⟨hh, gg, dd, tt, os⟩ [.ref a, .ref b] I.kIn (by simpa using hl)
    simpa using this) r2 q) fun r s' hq => ?_)
  cases r with
  | error e => exact hx pins σ H _ e s' I hq
  | ok fl =>
    cases fl with
    | ret w =>
      obtain ⟨z, H', I', rz, k, ez, qz⟩ := I.after hq
      subst ez
      cases rz
      exact ⟨k, rfl, .bl (!k), H', I', rfl, qz⟩
    | next => exact False.elim hq
    | brk => exact False.elim hq
    | cont => exact False.elim hq
end

/-! ### a callee, its function object and its bindings put away -/
section
variable (P : Program) (w : World) (K : PySem.W.Frag) (mg : Str → Option Value) (base : Heap) (CX : CXT)
/-- the def at f keeps sp; dvs: the defaults behind the written arguments -/
def At (k : Nat) (f : Addr) (ps : List Str) (dvs : List V) (sp : Sp) : Prop := ∃ (fd : FuncData) (ds : List Value), FnOk P w K mg base CX k f fd ps sp ∧ Vals dvs ds ∧ Binds K fd ps ds
structure GFn (k : Nat) (x : Str) (ps : List Str) (dvs : List V) (sp : Sp) : Prop where
  ex : ∃ f, At P w K mg base CX k f ps dvs sp ∧ mg x = some (.ref f) ∧ PySem.W.keepIn K (.ref f) = true
structure MFn (k : Nat) (C : Addr) (m : Str) (ps : List Str) (dvs : List V) (sp : Sp) : Prop where
  ex : ∃ f, At P w K mg base CX k f ps dvs sp ∧ Meth K C m f
structure CFn (k : Nat) (x : Str) (C : Addr) (ps : List Str) (dvs : List V) (sp : Sp) : Prop where
  ex : ∃ f, At P w K mg base CX k f ps dvs sp ∧ Mk K C f ∧ mg x = some (.ref C)
end
section
variable {X : Cx} {CX : CXT} {C : Addr} {k : Nat} {x m : Str} {ps : List Str} {dvs : List V} {sp : Sp} {E : XK} {p pos apos : Pos} {e o : Expr} {es : List Expr} {ta : TE} {t : TA}
theorem pe_g (G : GFn X.prog X.w X.K X.mg X.base CX k x ps dvs sp) (hr : Room k X.A) (hx : Passes CX X E) (ha : PA X (e :: es) t) (hg : Gl X x := by rfl) (hdb : (x == ("__debug__" : Str)) = false := by decide)
    (he : starEach (e :: es) X.env = (false, eval e X.env) :: starEach es X.env := by rfl) (hpl : (backTo pos (starEach es X.env)).any (·.1) = false := by rfl) : PE X (.Call (.Name x p) (e :: es) [] pos) (tCall sp dvs E t) := by
  obtain ⟨f, ⟨fd, ds, F, hd, hb⟩, hm, hk⟩ := G.ex
  exact pe_call F hr hg hm hk hb hd hx ha hdb he hpl
theorem pe_m {pl : Sem Bool} (he : PE X o ta) (c : Cls X.K C) (M : MFn X.prog X.w X.K X.mg X.base CX k C m ps dvs sp) (hr : Room k X.A) (hx : Passes CX X E) (ha : PA X (e :: es) t)
    (hst : starEach (e :: es) X.env = (false, eval e X.env) :: starEach es X.env := by rfl) (hpl : (backTo pos (starEach es X.env)).any (·.1) = false := by rfl)
    (ht : eval (.Call (.Attribute o m apos) (e :: es) [] pos) X.env = (do
      let ov ← eval o X.env
      standAt apos.atName
      let (f, first) ← holding [ov] (getMethod ov m pl)
      callWith pos f first (backTo pos (starEach (e :: es) X.env)) (backToKw pos (keywordEach [] X.env))) := by rfl) :
    PE X (.Call (.Attribute o m apos) (e :: es) [] pos) (tMeth C m sp dvs E ta t) := by
  obtain ⟨f, ⟨fd, ds, F, hd, hb⟩, hm⟩ := M.ex
  exact pe_meth he c hm F hr hb hd hx ha hst hpl ht
theorem pe_m0 {pl : Sem Bool} (he : PE X o ta) (c : Cls X.K C) (M : MFn X.prog X.w X.K X.mg X.base CX k C m ps dvs sp) (hr : Room k X.A) (hx : Passes CX X E)
    (ht : eval (.Call (.Attribute o m apos) [] [] pos) X.env = (do
      let ov ← eval o X.env
      standAt apos.atName
      let (f, first) ← holding [ov] (getMethod ov m pl)
      callWith pos f first (backTo pos (starEach [] X.env)) (backToKw pos (keywordEach [] X.env))) := by rfl) :
    PE X (.Call (.Attribute o m apos) [] [] pos) (tMeth C m sp dvs E ta tNil) := by
  obtain ⟨f, ⟨fd, ds, F, hd, hb⟩, hm⟩ := M.ex
  exact pe_meth0 he c hm F hr hb hd hx ht
theorem pe_c (G : CFn X.prog X.w X.K X.mg X.base CX k x C ps dvs sp) (hr : Room (k + 1) X.A) (hx : Passes CX X E) (ha : PA X (e :: es) t) (hg : Gl X x := by rfl) (hdb : (x == ("__debug__" : Str)) = false := by decide)
    (he : starEach (e :: es) X.env = (false, eval e X.env) :: starEach es X.env := by rfl) (hpl : (backTo pos (starEach es X.env)).any (·.1) = false := by rfl) : PE X (.Call (.Name x p) (e :: es) [] pos) (tMake C sp dvs E t) := by
  obtain ⟨f, ⟨fd, ds, F, hd, hb⟩, M, hm⟩ := G.ex
  exact pe_make M F hr hg hm hb hd hx ha hdb he hpl
theorem pe_c0 (G : CFn X.prog X.w X.K X.mg X.base CX k x C ps dvs sp) (hr : Room (k + 1) X.A) (hx : Passes CX X E) (hg : Gl X x := by rfl) (hdb : (x == ("__debug__" : Str)) = false := by decide) : PE X (.Call (.Name x p) [] [] pos) (tMake C sp dvs E tNil) := by
  obtain ⟨f, ⟨fd, ds, F, hd, hb⟩, M, hm⟩ := G.ex
  exact pe_make0 M F hr hg hm hb hd hx hdb
variable {nm : String}
theorem op_mB {op : Operator} (oc : OwnC X.K C) (M : MFn X.prog X.w X.K X.mg X.base CX k C m ps [] sp) (hn : PySem.dunder op.info.2 = m) (hr : Room k X.A) (hx : Passes CX X E) : OpR X (binaryOp op) (rOwnB C sp E) := by
  obtain ⟨f, ⟨fd, ds, F, hd, hb⟩, hm⟩ := M.ex
  cases hd
  exact op_ownB oc (by rw [hn]; exact hm.at_) hm.fn F hb hr hx
theorem un_mN (M : MFn X.prog X.w X.K X.mg X.base CX k C "__neg__" ps [] sp) (hr : Room k X.A) (hx : Passes CX X E) : UnR X (unaryOp .USub) (rOwnU C sp E) := by
  obtain ⟨f, ⟨fd, ds, F, hd, hb⟩, hm⟩ := M.ex
  cases hd
  exact un_own hm.at_ hm.fn F hb hr hx
theorem op_mEq (M : MFn X.prog X.w X.K X.mg X.base CX k C "__eq__" ps [] sp) (hr : Room k X.A) (hx : Passes CX X E) : OpR X (compareOp .Eq) (rOwnB C sp E) := by
  obtain ⟨f, ⟨fd, ds, F, hd, hb⟩, hm⟩ := M.ex
  cases hd
  exact op_eqOwn hm.at_ hm.fn F hb hr hx
theorem ma_of {K : PySem.W.Frag} {C f : Addr} {m : Str} (h : PySem.W.findIn K (.ref C) m = some (some (.ref f))) : He.ma K C m = f := by
  unfold He.ma
  rw [h]
theorem op_mNe (oc : OwnC X.K C) (M : MFn X.prog X.w X.K X.mg X.base CX k C "__eq__" ps [] sp) (hr : Room (k + 1) X.A) (hx : Passes CX X E) : OpR X (compareOp .NotEq) (rOwnN C sp E) := by
  obtain ⟨f, ⟨fd, ds, F, hd, hb⟩, hm⟩ := M.ex
  cases hd
  have e := oc.ne
  rw [ma_of hm.at_] at e
  exact op_neOwn e hm.fn F hb hr hx
end
end K9

namespace K9
open PySem PySem.Spec PyProof.Rows L2
abbrev cQ (K : PySem.W.Frag) : Addr := He.ga K "Ratio"
abbrev cZ (K : PySem.W.Frag) : Addr := He.ga K "Residue"
abbrev cG (K : PySem.W.Frag) : Addr := He.ga K "Ground"
abbrev cP (K : PySem.W.Frag) : Addr := He.ga K "Poly"
abbrev cM (K : PySem.W.Frag) : Addr := He.ga K "Malformed"
def primes : List V := [.int 2, .int 3, .int 5, .int 7, .int 11, .int 13, .int 17, .int 19, .int 23, .int 29, .int 31]
/-- what the top has written, as the walks take it -/
structure Txt (K : PySem.W.Frag) (mg : Str → Option Value) : Prop where
  oQ : OwnC K (cQ K)
  oZ : OwnC K (cZ K)
  oG : OwnC K (cG K)
  oP : OwnC K (cP K)
  nQn : NoAttr K (cQ K) "n"
  nQd : NoAttr K (cQ K) "d"
  nZp : NoAttr K (cZ K) "p"
  nZn : NoAttr K (cZ K) "n"
  nGp : NoAttr K (cG K) "p"
  nPg : NoAttr K (cP K) "ground"
  nPr : NoAttr K (cP K) "row"
  gQ : mg "Ratio" = some (.ref (cQ K))
  gZ : mg "Residue" = some (.ref (cZ K))
  gG : mg "Ground" = some (.ref (cG K))
  gP : mg "Poly" = some (.ref (cP K))
  gM : mg "Malformed" = some (.ref (cM K))
  xM : PySem.W.excIn K (cM K) He.veBase "ValueError.__new__" = true
  kM : PySem.W.keepIn K (.ref (cM K)) = true
  bM : PySem.W.subIn K (.ref (cM K)) (.type "BaseException") = some true
  tM : PySem.W.typeIn K (.ref (cM K)) = some (.type "type")
  eM : PySem.W.exmOne K (.ref (cM K)) (.ref (cM K)) = some true
  gcd : mg "gcd" = some (.builtin "math.gcd")
  b_isinstance : mg "isinstance" = none
  b_int : mg "int" = none
  b_bool : mg "bool" = none
  b_list : mg "list" = none
  b_tuple : mg "tuple" = none
  b_len : mg "len" = none
  b_max : mg "max" = none
  b_min : mg "min" = none
  b_range : mg "range" = none
  b_zip : mg "zip" = none
  b_abs : mg "abs" = none
  pr : ∃ a, mg "PRIMES" = some (.ref a) ∧ ∀ H : Hp, SqT K H a primes
  ib : PySem.W.kitOne K (.type "int") (.type "bool") = some false
theorem insB_ok {K : PySem.W.Frag} {x : Str} (c : Cls K (He.ga K x)) (h : insB K x = true) : OwnC K (He.ga K x) := by
  unfold insB at h
  obtain ⟨h1, h⟩ := He.ba h
  obtain ⟨h2, h⟩ := He.ba h
  obtain ⟨h3, h⟩ := He.ba h
  obtain ⟨h4, h⟩ := He.ba h
  obtain ⟨h5, h⟩ := He.ba h
  obtain ⟨h6, h7⟩ := He.ba h
  exact ⟨c, He.eqO_ok h1, He.eqO_ok h2, of_decide_eq_true h3, of_decide_eq_true h4, h5, h6, of_decide_eq_true h7⟩
theorem txt_of {K : PySem.W.Frag} {h : Heap} {mg : Str → Option Value} (X : K.In h) (G : h.Ns mainGlobals mg) (c : SaysK K) : Txt K mg := by
  have e := c.ex
  unfold exB at e
  obtain ⟨e1, e⟩ := He.ba e
  obtain ⟨e2, e⟩ := He.ba e
  obtain ⟨e0, e⟩ := He.ba e
  obtain ⟨e3, e⟩ := He.ba e
  obtain ⟨e4, e⟩ := He.ba e
  obtain ⟨e5, e⟩ := He.ba e
  obtain ⟨e6, e7⟩ := He.ba e
  have m := He.exc_ok (c.d.fact 83 (f := .exc "Malformed") rfl)
  exact {
    oQ := insB_ok (He.cls_ok (c.d.fact 23 (f := .cls "Ratio") rfl)) e3
    oZ := insB_ok (He.cls_ok (c.d.fact 28 (f := .cls "Residue") rfl)) e4
    oG := insB_ok (He.cls_ok (c.d.fact 33 (f := .cls "Ground") rfl)) e5
    oP := insB_ok (He.cls_ok (c.d.fact 37 (f := .cls "Poly") rfl)) e6
    nQn := He.noat_ok (c.d.fact 25 (f := .noat "Ratio" "n") rfl)
    nQd := He.noat_ok (c.d.fact 26 (f := .noat "Ratio" "d") rfl)
    nZp := He.noat_ok (c.d.fact 30 (f := .noat "Residue" "p") rfl)
    nZn := He.noat_ok (c.d.fact 31 (f := .noat "Residue" "n") rfl)
    nGp := He.noat_ok (c.d.fact 35 (f := .noat "Ground" "p") rfl)
    nPg := He.noat_ok (c.d.fact 39 (f := .noat "Poly" "ground") rfl)
    nPr := He.noat_ok (c.d.fact 40 (f := .noat "Poly" "row") rfl)
    gQ := He.glo_ok X G (c.d.fact 22 (f := .glo "Ratio") rfl)
    gZ := He.glo_ok X G (c.d.fact 27 (f := .glo "Residue") rfl)
    gG := He.glo_ok X G (c.d.fact 32 (f := .glo "Ground") rfl)
    gP := He.glo_ok X G (c.d.fact 36 (f := .glo "Poly") rfl)
    gM := He.glo_ok X G (c.d.fact 82 (f := .glo "Malformed") rfl)
    xM := m.1
    kM := m.2.1
    bM := m.2.2.1
    tM := m.2.2.2
    eM := He.exm_ok (c.d.fact 84 (f := .exm "Malformed" "Malformed" true) rfl)
    gcd := PySem.W.mg_of X G (He.eqO_ok e1)
    b_isinstance := He.free_ok X G (c.d.fact 71 (f := .free "isinstance") rfl)
    b_int := He.free_ok X G (c.d.fact 72 (f := .free "int") rfl)
    b_bool := He.free_ok X G (c.d.fact 73 (f := .free "bool") rfl)
    b_list := He.free_ok X G (c.d.fact 74 (f := .free "list") rfl)
    b_tuple := He.free_ok X G (c.d.fact 75 (f := .free "tuple") rfl)
    b_len := He.free_ok X G (c.d.fact 76 (f := .free "len") rfl)
    b_max := He.free_ok X G (c.d.fact 77 (f := .free "max") rfl)
    b_min := He.free_ok X G (c.d.fact 78 (f := .free "min") rfl)
    b_range := He.free_ok X G (c.d.fact 79 (f := .free "range") rfl)
    b_zip := He.free_ok X G (c.d.fact 80 (f := .free "zip") rfl)
    b_abs := He.free_ok X G (c.d.fact 81 (f := .free "abs") rfl)
    pr := ⟨_, PySem.W.mg_of X G (He.eqO_ok e0), fun H => He.tupB_ok e2 H⟩
    ib := of_decide_eq_true e7 }
/-! ### what stands at an address -/
def qf (n d : Int) : List (Str × V) := [("n", .int n), ("d", .int d)]
def zf (p n : Int) : List (Str × V) := [("p", .int p), ("n", .int n)]
def gf (p : Int) : List (Str × V) := [("p", .int p)]
def pf (G R : Addr) : List (Str × V) := [("ground", .ref G), ("row", .ref R)]
def QAt (K : PySem.W.Frag) (H : Hp) (a : Addr) (r : Rat) : Prop := ∃ dx, H a = some (.ins (cQ K) dx (qf r.num r.den))
def ZAt (K : PySem.W.Frag) (H : Hp) (a : Addr) (p n : Int) : Prop := ∃ dx, H a = some (.ins (cZ K) dx (zf p n))
def NAt (K : PySem.W.Frag) (H : Hp) (a : Addr) : (g : Gd) → El g → Prop
  | .q, r => QAt K H a r
  | .p2, x => ZAt K H a 2 ((show Fin 2 from x).val : Int)
  | .p3, x => ZAt K H a 3 ((show Fin 3 from x).val : Int)
  | .p5, x => ZAt K H a 5 ((show Fin 5 from x).val : Int)
  | .p7, x => ZAt K H a 7 ((show Fin 7 from x).val : Int)
def GAt (K : PySem.W.Frag) (H : Hp) (a : Addr) (g : Gd) : Prop := ∃ dx, H a = some (.ins (cG K) dx (gf g.p))
/-- a number of the ground as a value -/
def NV (K : PySem.W.Frag) (H : Hp) (g : Gd) (v : V) (x : El g) : Prop := ∃ a, v = .ref a ∧ NAt K H a g x
abbrev NsV (K : PySem.W.Frag) (H : Hp) (g : Gd) (vs : List V) (xs : List (El g)) : Prop := Paired (NV K H g) vs xs
/-- a row: a tuple, a list of numbers -/
def TAt (K : PySem.W.Frag) (H : Hp) (t : Addr) (g : Gd) (xs : List (El g)) : Prop := ∃ vs, H t = some (.tup vs) ∧ NsV K H g vs xs
def LAt (K : PySem.W.Frag) (H : Hp) (t : Addr) (g : Gd) (xs : List (El g)) : Prop := ∃ vs, H t = some (.lst vs) ∧ NsV K H g vs xs
def PAt (K : PySem.W.Frag) (H : Hp) (a : Addr) (g : Gd) (xs : List (El g)) : Prop := ∃ dx G R, H a = some (.ins (cP K) dx (pf G R)) ∧ GAt K H G g ∧ TAt K H R g xs
section
variable {K : PySem.W.Frag} {H H' : Hp} {a t : Addr} {g : Gd}
theorem QAt.same {r : Rat} (h : QAt K H a r) (s : Same H H') : QAt K H' a r := let ⟨dx, e⟩ := h; ⟨dx, s _ _ e⟩
theorem ZAt.same {p n : Int} (h : ZAt K H a p n) (s : Same H H') : ZAt K H' a p n := let ⟨dx, e⟩ := h; ⟨dx, s _ _ e⟩
theorem NAt.same : {g : Gd} → {x : El g} → NAt K H a g x → Same H H' → NAt K H' a g x
  | .q, _, h, s => QAt.same h s
  | .p2, _, h, s => ZAt.same h s
  | .p3, _, h, s => ZAt.same h s
  | .p5, _, h, s => ZAt.same h s
  | .p7, _, h, s => ZAt.same h s
theorem GAt.same (h : GAt K H a g) (s : Same H H') : GAt K H' a g := let ⟨dx, e⟩ := h; ⟨dx, s _ _ e⟩
theorem NV.same {v : V} {x : El g} (h : NV K H g v x) (s : Same H H') : NV K H' g v x := let ⟨a, e, n⟩ := h; ⟨a, e, n.same s⟩
theorem NsV.same {vs : List V} {xs : List (El g)} (h : NsV K H g vs xs) (s : Same H H') : NsV K H' g vs xs := Paired.mapP h fun _ _ n => n.same s
theorem TAt.same {xs : List (El g)} (h : TAt K H t g xs) (s : Same H H') : TAt K H' t g xs := let ⟨vs, e, n⟩ := h; ⟨vs, s _ _ e, n.same s⟩
theorem LAt.same {xs : List (El g)} (h : LAt K H t g xs) (s : Same H H') : LAt K H' t g xs := let ⟨vs, e, n⟩ := h; ⟨vs, s _ _ e, n.same s⟩
theorem PAt.same {xs : List (El g)} (h : PAt K H a g xs) (s : Same H H') : PAt K H' a g xs :=
  let ⟨dx, G, R, e, hg, hr⟩ := h; ⟨dx, G, R, s _ _ e, hg.same s, hr.same s⟩
/-- what is new leaves what stood -/
theorem same_upd {H : Hp} {p : Addr} {o : HO} (h : H p = none) : Same H (upd H p o) := fun b u e => by rw [upd_ne (ne_of_none e h)]; exact e
theorem same_made {H : Hp} {x dx : Addr} {o1 o2 o3 : HO} (hx : H x = none) (hd : H dx = none) : Same H (upd (upd (upd H dx o1) x o2) x o3) := fun b u e => by
  rw [upd_ne (ne_of_none e hx), upd_ne (ne_of_none e hx), upd_ne (ne_of_none e hd)]; exact e
end
/-! ### paired lists -/
section
variable {α β : Type} {R : α → β → Prop}
theorem pr_len : ∀ {xs : List α} {ys : List β}, Paired R xs ys → xs.length = ys.length
  | _, _, .nil => rfl
  | _, _, .cons _ t => congrArg Nat.succ (pr_len t)
theorem pr_get : ∀ {xs : List α} {ys : List β} {i : Nat} {y : β}, Paired R xs ys → ys[i]? = some y → ∃ x, xs[i]? = some x ∧ R x y
  | _, _, _, _, .nil, e => by simp at e
  | _, _, 0, _, .cons r _, e => by simp at e; subst e; exact ⟨_, rfl, r⟩
  | _, _, i + 1, y, .cons r t, e => by
    obtain ⟨x, h1, h2⟩ := pr_get (i := i) (y := y) t (by simpa using e)
    exact ⟨x, by simpa using h1, h2⟩
theorem pr_getL : ∀ {xs : List α} {ys : List β} {i : Nat} {x : α}, Paired R xs ys → xs[i]? = some x → ∃ y, ys[i]? = some y ∧ R x y
  | _, _, _, _, .nil, e => by simp at e
  | _, _, 0, _, .cons r _, e => by simp at e; subst e; exact ⟨_, rfl, r⟩
  | _, _, i + 1, y, .cons r t, e => by
    obtain ⟨x, h1, h2⟩ := pr_getL (i := i) (x := y) t (by simpa using e)
    exact ⟨x, by simpa using h1, h2⟩
theorem pr_append : ∀ {xs : List α} {ys : List β} {xs' : List α} {ys' : List β}, Paired R xs ys → Paired R xs' ys' → Paired R (xs ++ xs') (ys ++ ys')
  | _, _, _, _, .nil, s => s
  | _, _, _, _, .cons r t, s => .cons r (pr_append t s)
theorem pr_take : ∀ {xs : List α} {ys : List β} (n : Nat), Paired R xs ys → Paired R (xs.take n) (ys.take n)
  | _, _, 0, _ => .nil
  | _, _, _ + 1, .nil => .nil
  | _, _, n + 1, .cons r t => .cons r (pr_take n t)
theorem pr_rep {x : α} {y : β} (h : R x y) : ∀ n, Paired R (List.replicate n x) (List.replicate n y)
  | 0 => .nil
  | n + 1 => .cons h (pr_rep h n)
end
end K9


namespace K9
open PySem PySem.Spec PyProof.Rows L2
abbrev FnP (K : PySem.W.Frag) (d : He.DefD) (f : Addr) (fd : FuncData) : Prop := FunD K d.name d.qual d.params d.body d.scope (d.dvs K) (d.kws K) f fd
section
variable {P : Program} {w : World} {K : PySem.W.Frag} {mg : Str → Option Value} {base : Heap}
/-- a def that lets nothing out -/
theorem okN {d : He.DefD} {f : Addr} {fd : FuncData} {N ps : List Str} {k : Nat} {sp : Sp} (F : FnP K d f fd) (S : FnScope N ps d.scope) (len : ∀ vs H Q E, sp vs H Q E → vs.length = ps.length)
    (hbody : ∀ (cdv : Value) (A : Around) (outer : List Env) (s : Shared) (H : Hp) (vs : List V) (Q : VK) (E : XK), Room k (A.deeper (envOfC d.qual d.scope s.heap.objs.size f cdv)) → sp vs H Q E →
      ∃ t, PSs (cxOf CX0 P w K mg base N d.qual d.scope f cdv A outer s H E).nox d.body t ∧ t { nx := fun _ H' => Q .non H', rt := Q } (start N vs) H) : FnOk P w K mg base CX0 (k + 1) f fd ps sp :=
  F.ok S len fun cdv A outer s H vs Q E hr hsp => let ⟨t, h, q⟩ := hbody cdv A outer s H vs Q E hr hsp; ⟨t, PSs.nox h, q⟩
/-- a def that may raise -/
theorem okX {d : He.DefD} {f : Addr} {fd : FuncData} {N ps : List Str} {k : Nat} {sp : Sp} (F : FnP K d f fd) (S : FnScope N ps d.scope) (len : ∀ vs H Q E, sp vs H Q E → vs.length = ps.length)
    (hbody : ∀ (cdv : Value) (A : Around) (outer : List Env) (s : Shared) (H : Hp) (vs : List V) (Q : VK) (E : XK), Room k (A.deeper (envOfC d.qual d.scope s.heap.objs.size f cdv)) → sp vs H Q E →
      ∃ t, PSs (cxOf (L2.CX P w) P w K mg base N d.qual d.scope f cdv A outer s H E) d.body t ∧ t { nx := fun _ H' => Q .non H', rt := Q } (start N vs) H) : FnOk P w K mg base (L2.CX P w) (k + 1) f fd ps sp :=
  F.ok S len hbody
section
variable {X : Cx}
theorem pe_tyInt (T : X.mg "int" = none) {pos : Pos} (hg : Gl X "int" := by rfl) : PE X (.Name "int" pos) (tC (.ty "int")) := pe_bltn hg T (by decide +kernel) rfl
theorem pe_tyBool (T : X.mg "bool" = none) {pos : Pos} (hg : Gl X "bool" := by rfl) : PE X (.Name "bool" pos) (tC (.ty "bool")) := pe_bltn hg T (by decide +kernel) rfl
theorem pe_tyList (T : X.mg "list" = none) {pos : Pos} (hg : Gl X "list" := by rfl) : PE X (.Name "list" pos) (tC (.ty "list")) := pe_bltn hg T (by decide +kernel) rfl
theorem pe_tyTup (T : X.mg "tuple" = none) {pos : Pos} (hg : Gl X "tuple" := by rfl) : PE X (.Name "tuple" pos) (tC (.ty "tuple")) := pe_bltn hg T (by decide +kernel) rfl
end
/-! ### is_integer -/
def spIsInt (K : PySem.W.Frag) : Sp := fun vs H Q _ => (∃ n : Int, vs = [.int n] ∧ Q (.bl true) H) ∨ (∃ a C dx fs, vs = [.ref a] ∧ H a = some (.ins C dx fs) ∧ OwnC K C ∧ Q (.bl false) H)
theorem scIsInt : FnScope ["value"] ["value"] (defScope sIsInt) := ⟨rfl, rfl, rfl, by decide +kernel, rfl, by decide +kernel, by decide +kernel⟩
theorem ok_IsInt {f : Addr} {fd : FuncData} (T : Txt K mg) (F : FnP K dIsInt f fd) : FnOk P w K mg base CX0 1 f fd ["value"] (spIsInt K) := by
  refine okN F scIsInt (fun vs H Q E h => ?_) (fun cdv A outer s H vs Q E hr h => ?_)
  · rcases h with ⟨n, rfl, _⟩ | ⟨a, C, dx, fs, rfl, _⟩ <;> rfl
  · refine ⟨_, pss_one (ps_ret (pe_and (pe_callB call_isi (by rfl) T.b_isinstance (by decide +kernel) (pa_cons (pv 0) (pa_cons (pe_tyInt T.b_int) pa_nil)))
      (pe_one (pe_not (pe_callB call_isi (by rfl) T.b_isinstance (by decide +kernel) (pa_cons (pv 0) (pa_cons (pe_tyBool T.b_bool) pa_nil))))))), ?_⟩
    rcases h with ⟨n, rfl, q⟩ | ⟨a, C, dx, fs, rfl, e, oc, q⟩
    · exact ⟨_, rfl, _, _, _, _, true, rfl, .ty "int", .base (.int n), kit_self, true, rfl, iteT ⟨_, rfl, _, _, _, _, false, rfl, .ty "bool", .base (.int n), T.ib, false, rfl, q⟩⟩
    · exact ⟨_, rfl, _, _, _, _, false, rfl, .ty "int", oc.ty e, oc.ni, false, rfl, iteF q⟩
/-! ### Ratio -/
theorem op_mulX {X : Cx} : OpR X (binaryOp .Mult) (rI CMulW fun i j => .int (i * j)) := op_mulW
end
end K9

namespace K9
open PySem PySem.Spec PyProof.Rows L2
/-! ### fields -/
theorem put_here {f : Str} {v x : V} {r : List (Str × V)} : putF f v ((f, x) :: r) = (f, v) :: r := if_pos rfl
theorem put_past {f g : Str} {v x : V} {r : List (Str × V)} (h : ¬ g = f) : putF f v ((g, x) :: r) = (g, x) :: putF f v r := if_neg h
theorem lk_here {k : Str} {v : V} {r : List (Str × V)} : List.lookup k ((k, v) :: r) = some v := by
  have e : (k == k) = true := beq_self_eq_true k
  simp only [List.lookup, e]
theorem lk_past {k g : Str} {v : V} {r : List (Str × V)} (h : (k == g) = false) : List.lookup k ((g, v) :: r) = List.lookup k r := by
  simp only [List.lookup, h]
theorem qf_mk (n d : Int) : putF "d" (.int d) (putF "n" (.int n) []) = qf n d := (put_past (by decide +kernel)).trans rfl
theorem qf_n (n d : Int) : (qf n d).lookup ("n" : Str) = some (.int n) := lk_here
theorem qf_d (n d : Int) : (qf n d).lookup ("d" : Str) = some (.int d) := (lk_past (by decide +kernel)).trans lk_here
theorem qf_no (n d : Int) {m : Str} (h1 : (m == ("n" : Str)) = false) (h2 : (m == ("d" : Str)) = false) : (qf n d).lookup m = none := (lk_past h1).trans ((lk_past h2).trans rfl)
theorem zf_mk (p n : Int) : putF "n" (.int n) (putF "p" (.int p) []) = zf p n := (put_past (by decide +kernel)).trans rfl
theorem zf_p (p n : Int) : (zf p n).lookup ("p" : Str) = some (.int p) := lk_here
theorem zf_n (p n : Int) : (zf p n).lookup ("n" : Str) = some (.int n) := (lk_past (by decide +kernel)).trans lk_here
theorem zf_no (p n : Int) {m : Str} (h1 : (m == ("p" : Str)) = false) (h2 : (m == ("n" : Str)) = false) : (zf p n).lookup m = none := (lk_past h1).trans ((lk_past h2).trans rfl)
theorem gf_p (p : Int) : (gf p).lookup ("p" : Str) = some (.int p) := lk_here
theorem gf_no (p : Int) {m : Str} (h1 : (m == ("p" : Str)) = false) : (gf p).lookup m = none := (lk_past h1).trans rfl
theorem pf_mk (G R : Addr) : putF "row" (.ref R) (putF "ground" (.ref G) []) = pf G R := (put_past (by decide +kernel)).trans rfl
theorem pf_g (G R : Addr) : (pf G R).lookup ("ground" : Str) = some (.ref G) := lk_here
theorem pf_r (G R : Addr) : (pf G R).lookup ("row" : Str) = some (.ref R) := (lk_past (by decide +kernel)).trans lk_here
theorem pf_no (G R : Addr) {m : Str} (h1 : (m == ("ground" : Str)) = false) (h2 : (m == ("row" : Str)) = false) : (pf G R).lookup m = none := (lk_past h1).trans ((lk_past h2).trans rfl)
/-! ### numbers -/
/-- the reduced fraction, as the program makes it -/
theorem ratio_pos {n d : Int} (h : 0 < d) : n / ((Nat.gcd n.natAbs d.natAbs : Nat) : Int) = (Rat.divInt n d).num ∧ d / ((Nat.gcd n.natAbs d.natAbs : Nat) : Int) = ((Rat.divInt n d).den : Int) := by
  have e : (Int.gcd d n : Nat) = Nat.gcd n.natAbs d.natAbs := by rw [Int.gcd_comm] <;> rfl
  constructor
  · rw [Rat.num_divInt, Int.sign_eq_one_of_pos h, Int.one_mul, e]
  · rw [Rat.den_divInt, if_neg (by omega), e]
    have : ((d.natAbs / Nat.gcd n.natAbs d.natAbs : Nat) : Int) = (d.natAbs : Int) / ((Nat.gcd n.natAbs d.natAbs : Nat) : Int) := by simp
    rw [this, Int.natAbs_of_nonneg (by omega)]
theorem divInt_flip (n d : Int) : Rat.divInt (-n) (-d) = Rat.divInt n d := Rat.neg_divInt_neg n d
theorem gcd_wide {n d : Int} (h : d ≠ 0) (hb : d.natAbs < 2 ^ 9000) (m : Int) : CDivW m ((Nat.gcd n.natAbs d.natAbs : Nat) : Int) := by
  have h0 : 0 < d.natAbs := by omega
  have hg : 0 < Nat.gcd n.natAbs d.natAbs := Nat.gcd_pos_of_pos_right _ h0
  refine wide_div (b := 9000) (by omega) ?_ (by decide) (by decide)
  refine Nat.lt_of_le_of_lt ?_ hb
  rw [Int.natAbs_natCast]
  exact Nat.gcd_le_right _ h0
section
variable {P : Program} {w : World} {K : PySem.W.Frag} {mg : Str → Option Value} {base : Heap}
/-! ### Ratio(n, d) -/
def spRInit (K : PySem.W.Frag) : Sp := fun vs H Q _ => ∃ (x dx : Addr) (n d : Int), vs = [.ref x, .int n, .int d] ∧ H x = some (.ins (cQ K) dx []) ∧ d ≠ 0 ∧ d.natAbs < 2 ^ 9000 ∧
  Q .non (upd H x (.ins (cQ K) dx (qf (Rat.divInt n d).num (Rat.divInt n d).den)))
theorem scRInit : FnScope ["self", "n", "d", "shared"] ["self", "n", "d"] (defScope sRInit) := ⟨rfl, rfl, rfl, by decide +kernel, rfl, by decide +kernel, by decide +kernel⟩
theorem ok_RInit {f : Addr} {fd : FuncData} (T : Txt K mg) (F : FnP K dRInit f fd) : FnOk P w K mg base CX0 1 f fd ["self", "n", "d"] (spRInit K) := by
  refine okN F scRInit (fun vs H Q E h => ?_) (fun cdv A outer s H vs Q E hr h => ?_)
  · obtain ⟨x, dx, n, d, rfl, _⟩ := h
    rfl
  · obtain ⟨x, dx, n, d, rfl, hx, hd, hb, q⟩ := h
    refine ⟨_, pss_cons (ps_if (pt_cmpR op_eq (pv 2) pe_int (nomark _)) (pss_one ps_never) pss_nil)
      (pss_cons (ps_if (pt_cmpR op_lt (pv 2) pe_int (nomark _))
        (pss_cons (ps_set (i := 1) scRInit.nd rfl (Or.inl rfl) (pe_un un_neg (pv 1))) (pss_one (ps_set (i := 2) scRInit.nd rfl (Or.inl rfl) (pe_un un_neg (pv 2))))) pss_nil)
      (pss_cons (ps_set (i := 3) scRInit.nd rfl (Or.inl rfl) (pe_callBfun cr_gcd (by rfl) T.gcd (pa_cons (pv 1) (pa_cons (pv 2) pa_nil))))
      (pss_cons (ps_fld (pv 0) (pe_op op_fdivW (pv 1) (pv 3)) rfl)
      (pss_one (ps_fld (pv 0) (pe_op op_fdivW (pv 2) (pv 3)) rfl))))), ?_⟩
    refine ⟨_, rfl, rfl, _, rfl, ?_⟩
    have e0 : decide (V.int d = V.int 0) = false := decide_eq_false fun e => hd (by injection e)
    rw [e0]
    refine iteF ?_
    refine ⟨_, rfl, _, _, rfl, rfl, _, rfl, ?_⟩
    refine ite2 (fun c => ?_) (fun c => ?_)
    · have c1 : d < 0 := of_decide_eq_true c
      have hd2 : -d ≠ 0 := by omega
      have hb2 : (-d).natAbs < 2 ^ 9000 := by rw [Int.natAbs_neg]; exact hb
      obtain ⟨r1, r2⟩ := ratio_pos (n := -n) (d := -d) (by omega)
      rw [divInt_flip] at r1 r2
      refine ⟨_, rfl, _, rfl, _, rfl, _, rfl, ?_⟩
      refine ⟨_, rfl, _, rfl, _, _, rfl, ?_⟩
      refine ⟨_, rfl, _, rfl, _, _, rfl, rfl, gcd_wide hd2 hb2 _, _, rfl, x, cQ K, dx, _, rfl, hx, T.oQ.cl, T.nQn, (by show 0 < 1000; decide), ?_⟩
      refine ⟨_, rfl, _, rfl, _, _, rfl, rfl, gcd_wide hd2 hb2 _, _, rfl, x, cQ K, dx, _, rfl, upd_same, T.oQ.cl, T.nQd, (by show 1 < 1000; decide), ?_⟩
      rw [upd_upd, qf_mk, r1, r2]
      exact q
    · have c1 : ¬ d < 0 := fun z => c (decide_eq_true z)
      obtain ⟨r1, r2⟩ := ratio_pos (n := n) (d := d) (by omega)
      refine ⟨_, rfl, _, rfl, _, _, rfl, ?_⟩
      refine ⟨_, rfl, _, rfl, _, _, rfl, rfl, gcd_wide hd hb _, _, rfl, x, cQ K, dx, _, rfl, hx, T.oQ.cl, T.nQn, (by show 0 < 1000; decide), ?_⟩
      refine ⟨_, rfl, _, rfl, _, _, rfl, rfl, gcd_wide hd hb _, _, rfl, x, cQ K, dx, _, rfl, upd_same, T.oQ.cl, T.nQd, (by show 1 < 1000; decide), ?_⟩
      rw [upd_upd, qf_mk, r1, r2]
      exact q
end
end K9

namespace K9
open PySem PySem.Spec PyProof.Rows L2
theorem if_t {c : Bool} {A B : Prop} (hc : c = true) (h : A) : if c = true then A else B := by rw [if_pos hc]; exact h
theorem if_f {c : Bool} {A B : Prop} (hc : c = false) (h : B) : if c = true then A else B := by rw [hc, if_neg Bool.false_ne_true]; exact h
theorem pe_own {X : Cx} {x : Str} {C : Addr} {pos : Pos} (hm : X.mg x = some (.ref C)) (hg : Gl X x := by rfl) (hd : (x == ("__debug__" : Str)) = false := by decide) : PE X (.Name x pos) (tC (.ref C)) := pe_glob hg hm rfl hd
theorem mulW_ok {i j : Int} (hi : i.natAbs < 2 ^ bnd) (hj : j.natAbs < 2 ^ bnd) : CMulW i j := wide_mul hi hj (by decide) (by decide) (by decide)
theorem okQ.d {r : Rat} (h : okQ r) : ((r.den : Nat) : Int).natAbs < 2 ^ bnd := by rw [Int.natAbs_natCast]; exact h.2
theorem den_prod {r s : Rat} (hr : okQ r) (hs : okQ s) : ((r.den : Int) * (s.den : Int)) ≠ 0 ∧ ((r.den : Int) * (s.den : Int)).natAbs < 2 ^ 9000 := by
  have h1 := r.den_nz
  have h2 := s.den_nz
  refine ⟨Int.mul_ne_zero (by omega) (by omega), ?_⟩
  have := wide_lt hr.d hs.d
  exact Nat.lt_of_lt_of_le this (Nat.pow_le_pow_right (by decide) (by decide))
theorem add_div (r s : Rat) : Rat.divInt (r.num * s.den + s.num * r.den) (r.den * s.den) = r + s := by
  rw [Rat.add_def', ← Rat.divInt_ofNat, Int.natCast_mul]
theorem sub_div (r s : Rat) : Rat.divInt (r.num * s.den - s.num * r.den) (r.den * s.den) = r - s := by
  rw [Rat.sub_def', ← Rat.divInt_ofNat, Int.natCast_mul]
theorem mul_div (r s : Rat) : Rat.divInt (r.num * s.num) (r.den * s.den) = r * s := by
  rw [Rat.mul_def', ← Rat.divInt_ofNat, Int.natCast_mul]
theorem neg_div (r : Rat) : Rat.divInt (-r.num) r.den = -r := by
  rw [← Rat.neg_divInt, Rat.num_divInt_den]
theorem int_div (n : Int) : Rat.divInt n 1 = Rat.ofInt n := by
  have : Rat.divInt (Rat.ofInt n).num (Rat.ofInt n).den = Rat.ofInt n := Rat.num_divInt_den _
  exact this
section
variable {P : Program} {w : World} {K : PySem.W.Frag} {mg : Str → Option Value} {base : Heap}
theorem mk_ratio {H1 : Hp} {Q : VK} {n d : Int} {r : Rat} {E : XK} (hd : d ≠ 0) (hb : d.natAbs < 2 ^ 9000) (hr : Rat.divInt n d = r) (q : ∀ H' p, Same H1 H' → QAt K H' p r → Q (.ref p) H') :
    ∀ x dx, H1 x = none → H1 dx = none → dx ≠ x → spRInit K (.ref x :: [.int n, .int d]) (upd (upd H1 dx (.own x)) x (.ins (cQ K) dx [])) (fun v H2 => v = .non ∧ Q (.ref x) H2) E :=
  fun x dx nx nd ne => ⟨x, dx, n, d, rfl, upd_same, hd, hb, rfl, by rw [hr]; exact q _ _ (same_made nx nd) ⟨dx, upd_same⟩⟩
def spQ2 (K : PySem.W.Frag) (op : Rat → Rat → Rat) : Sp := fun vs H Q _ => ∃ (a b : Addr) (r s : Rat), vs = [.ref a, .ref b] ∧ QAt K H a r ∧ QAt K H b s ∧ okQ r ∧ okQ s ∧ ∀ H' p, Same H H' → QAt K H' p (op r s) → Q (.ref p) H'
theorem scRAdd : FnScope ["self", "other"] ["self", "other"] (defScope sRAdd) := ⟨rfl, rfl, rfl, by decide +kernel, rfl, by decide +kernel, by decide +kernel⟩
theorem ok_RAdd {f : Addr} {fd : FuncData} (T : Txt K mg) (F : FnP K dRAdd f fd) (GM : CFn P w K mg base CX0 1 "Ratio" (cQ K) ["self", "n", "d"] [] (spRInit K)) : FnOk P w K mg base CX0 3 f fd ["self", "other"] (spQ2 K (· + ·)) := by
  refine okN F scRAdd (fun vs H Q E h => ?_) (fun cdv A outer s H vs Q E hr h => ?_)
  · obtain ⟨a, b, r, s, rfl, _⟩ := h
    rfl
  · obtain ⟨a, b, r, s, rfl, ⟨da, ha⟩, ⟨db, hb⟩, kr, ks, q⟩ := h
    refine ⟨_, pss_cons (ps_if (pt_not (pt_val (pe_callB call_isi (by rfl) T.b_isinstance (by decide +kernel) (pa_cons (pv 1) (pa_cons (pe_own T.gQ) pa_nil))))) (pss_one ps_never) pss_nil)
      (pss_one (ps_ret (pe_c GM hr pass0 (pa_cons (pe_op op_add (pe_op op_mulX (pe_fld (pv 0) rfl) (pe_fld (pv 1) rfl)) (pe_op op_mulX (pe_fld (pv 1) rfl) (pe_fld (pv 0) rfl)))
        (pa_cons (pe_op op_mulX (pe_fld (pv 0) rfl) (pe_fld (pv 1) rfl)) pa_nil))))), ?_⟩
    refine ⟨_, rfl, _, _, _, _, true, rfl, .own _, T.oQ.ty hb, kit_self, true, rfl, iteF ?_⟩
    refine ⟨_, rfl, a, cQ K, da, _, _, rfl, ha, T.oQ.cl, T.nQn, qf_n _ _, _, rfl, b, cQ K, db, _, _, rfl, hb, T.oQ.cl, T.nQd, qf_d _ _, _, _, rfl, rfl, mulW_ok kr.1 ks.d,
      _, rfl, b, cQ K, db, _, _, rfl, hb, T.oQ.cl, T.nQn, qf_n _ _, _, rfl, a, cQ K, da, _, _, rfl, ha, T.oQ.cl, T.nQd, qf_d _ _, _, _, rfl, rfl, mulW_ok ks.1 kr.d, _, _, rfl, rfl, ?_⟩
    refine ⟨_, rfl, a, cQ K, da, _, _, rfl, ha, T.oQ.cl, T.nQd, qf_d _ _, _, rfl, b, cQ K, db, _, _, rfl, hb, T.oQ.cl, T.nQd, qf_d _ _, _, _, rfl, rfl, mulW_ok kr.d ks.d, ?_⟩
    exact mk_ratio (den_prod kr ks).1 (den_prod kr ks).2 (add_div r s) q
theorem scRSub : FnScope ["self", "other"] ["self", "other"] (defScope sRSub) := ⟨rfl, rfl, rfl, by decide +kernel, rfl, by decide +kernel, by decide +kernel⟩
theorem ok_RSub {f : Addr} {fd : FuncData} (T : Txt K mg) (F : FnP K dRSub f fd) (GM : CFn P w K mg base CX0 1 "Ratio" (cQ K) ["self", "n", "d"] [] (spRInit K)) : FnOk P w K mg base CX0 3 f fd ["self", "other"] (spQ2 K (· - ·)) := by
  refine okN F scRSub (fun vs H Q E h => ?_) (fun cdv A outer s H vs Q E hr h => ?_)
  · obtain ⟨a, b, r, s, rfl, _⟩ := h
    rfl
  · obtain ⟨a, b, r, s, rfl, ⟨da, ha⟩, ⟨db, hb⟩, kr, ks, q⟩ := h
    refine ⟨_, pss_cons (ps_if (pt_not (pt_val (pe_callB call_isi (by rfl) T.b_isinstance (by decide +kernel) (pa_cons (pv 1) (pa_cons (pe_own T.gQ) pa_nil))))) (pss_one ps_never) pss_nil)
      (pss_one (ps_ret (pe_c GM hr pass0 (pa_cons (pe_op op_sub (pe_op op_mulX (pe_fld (pv 0) rfl) (pe_fld (pv 1) rfl)) (pe_op op_mulX (pe_fld (pv 1) rfl) (pe_fld (pv 0) rfl)))
        (pa_cons (pe_op op_mulX (pe_fld (pv 0) rfl) (pe_fld (pv 1) rfl)) pa_nil))))), ?_⟩
    refine ⟨_, rfl, _, _, _, _, true, rfl, .own _, T.oQ.ty hb, kit_self, true, rfl, iteF ?_⟩
    refine ⟨_, rfl, a, cQ K, da, _, _, rfl, ha, T.oQ.cl, T.nQn, qf_n _ _, _, rfl, b, cQ K, db, _, _, rfl, hb, T.oQ.cl, T.nQd, qf_d _ _, _, _, rfl, rfl, mulW_ok kr.1 ks.d,
      _, rfl, b, cQ K, db, _, _, rfl, hb, T.oQ.cl, T.nQn, qf_n _ _, _, rfl, a, cQ K, da, _, _, rfl, ha, T.oQ.cl, T.nQd, qf_d _ _, _, _, rfl, rfl, mulW_ok ks.1 kr.d, _, _, rfl, rfl, ?_⟩
    refine ⟨_, rfl, a, cQ K, da, _, _, rfl, ha, T.oQ.cl, T.nQd, qf_d _ _, _, rfl, b, cQ K, db, _, _, rfl, hb, T.oQ.cl, T.nQd, qf_d _ _, _, _, rfl, rfl, mulW_ok kr.d ks.d, ?_⟩
    exact mk_ratio (den_prod kr ks).1 (den_prod kr ks).2 (sub_div r s) q
theorem scRMul : FnScope ["self", "other"] ["self", "other"] (defScope sRMul) := ⟨rfl, rfl, rfl, by decide +kernel, rfl, by decide +kernel, by decide +kernel⟩
theorem ok_RMul {f : Addr} {fd : FuncData} (T : Txt K mg) (F : FnP K dRMul f fd) (GM : CFn P w K mg base CX0 1 "Ratio" (cQ K) ["self", "n", "d"] [] (spRInit K)) : FnOk P w K mg base CX0 3 f fd ["self", "other"] (spQ2 K (· * ·)) := by
  refine okN F scRMul (fun vs H Q E h => ?_) (fun cdv A outer s H vs Q E hr h => ?_)
  · obtain ⟨a, b, r, s, rfl, _⟩ := h
    rfl
  · obtain ⟨a, b, r, s, rfl, ⟨da, ha⟩, ⟨db, hb⟩, kr, ks, q⟩ := h
    refine ⟨_, pss_cons (ps_if (pt_not (pt_val (pe_callB call_isi (by rfl) T.b_isinstance (by decide +kernel) (pa_cons (pv 1) (pa_cons (pe_own T.gQ) pa_nil))))) (pss_one ps_never) pss_nil)
      (pss_one (ps_ret (pe_c GM hr pass0 (pa_cons (pe_op op_mulX (pe_fld (pv 0) rfl) (pe_fld (pv 1) rfl))
        (pa_cons (pe_op op_mulX (pe_fld (pv 0) rfl) (pe_fld (pv 1) rfl)) pa_nil))))), ?_⟩
    refine ⟨_, rfl, _, _, _, _, true, rfl, .own _, T.oQ.ty hb, kit_self, true, rfl, iteF ?_⟩
    refine ⟨_, rfl, a, cQ K, da, _, _, rfl, ha, T.oQ.cl, T.nQn, qf_n _ _, _, rfl, b, cQ K, db, _, _, rfl, hb, T.oQ.cl, T.nQn, qf_n _ _, _, _, rfl, rfl, mulW_ok kr.1 ks.1, ?_⟩
    refine ⟨_, rfl, a, cQ K, da, _, _, rfl, ha, T.oQ.cl, T.nQd, qf_d _ _, _, rfl, b, cQ K, db, _, _, rfl, hb, T.oQ.cl, T.nQd, qf_d _ _, _, _, rfl, rfl, mulW_ok kr.d ks.d, ?_⟩
    exact mk_ratio (den_prod kr ks).1 (den_prod kr ks).2 (mul_div r s) q
/-! ### == on equal ones -/
def eqQ (K : PySem.W.Frag) : Addr → Addr → Hp → Prop := fun a b H => ∃ r, QAt K H a r ∧ QAt K H b r
theorem scREq : FnScope ["self", "other"] ["self", "other"] (defScope sREq) := ⟨rfl, rfl, rfl, by decide +kernel, rfl, by decide +kernel, by decide +kernel⟩
theorem ok_REq {f : Addr} {fd : FuncData} (T : Txt K mg) (F : FnP K dREq f fd) : FnOk P w K mg base CX0 1 f fd ["self", "other"] (spEq (eqQ K)) := by
  refine okN F scREq (fun vs H Q E h => ?_) (fun cdv A outer s H vs Q E hr h => ?_)
  · obtain ⟨a, b, rfl, _⟩ := h
    rfl
  · obtain ⟨a, b, rfl, ⟨r, ⟨da, ha⟩, ⟨db, hb⟩⟩, q⟩ := h
    refine ⟨_, pss_one (ps_ret (pe_and (pe_callB call_isi (by rfl) T.b_isinstance (by decide +kernel) (pa_cons (pv 1) (pa_cons (pe_own T.gQ) pa_nil)))
      (pe_and (pe_cmpR op_eq (pe_fld (pv 0) rfl) (pe_fld (pv 1) rfl) (nomark _)) (pe_one (pe_cmpR op_eq (pe_fld (pv 0) rfl) (pe_fld (pv 1) rfl) (nomark _)))))), ?_⟩
    refine ⟨_, rfl, _, _, _, _, true, rfl, .own _, T.oQ.ty hb, kit_self, true, rfl, iteT ?_⟩
    refine ⟨_, rfl, a, cQ K, da, _, _, rfl, ha, T.oQ.cl, T.nQn, qf_n _ _, _, rfl, b, cQ K, db, _, _, rfl, hb, T.oQ.cl, T.nQn, qf_n _ _, rfl, _, rfl, if_t (decide_eq_true rfl) ?_⟩
    refine ⟨_, rfl, a, cQ K, da, _, _, rfl, ha, T.oQ.cl, T.nQd, qf_d _ _, _, rfl, b, cQ K, db, _, _, rfl, hb, T.oQ.cl, T.nQd, qf_d _ _, rfl, ?_⟩
    rw [decide_eq_true rfl]
    exact q _ Ext.rfl'
/-! ### -x, is_zero, inverse -/
def spQ1 (K : PySem.W.Frag) (A : Rat → Prop) (op : Rat → Rat) : Sp := fun vs H Q _ => ∃ (a : Addr) (r : Rat), vs = [.ref a] ∧ QAt K H a r ∧ okQ r ∧ A r ∧ ∀ H' p, Same H H' → QAt K H' p (op r) → Q (.ref p) H'
theorem den_ok {r : Rat} (h : okQ r) : (r.den : Int) ≠ 0 ∧ ((r.den : Nat) : Int).natAbs < 2 ^ 9000 := by
  have := r.den_nz
  exact ⟨by omega, Nat.lt_of_lt_of_le h.d (Nat.pow_le_pow_right (by decide) (by decide))⟩
theorem scRNeg : FnScope ["self"] ["self"] (defScope sRNeg) := ⟨rfl, rfl, rfl, by decide +kernel, rfl, by decide +kernel, by decide +kernel⟩
theorem ok_RNeg {f : Addr} {fd : FuncData} (T : Txt K mg) (F : FnP K dRNeg f fd) (GM : CFn P w K mg base CX0 1 "Ratio" (cQ K) ["self", "n", "d"] [] (spRInit K)) : FnOk P w K mg base CX0 3 f fd ["self"] (spQ1 K (fun _ => True) (- ·)) := by
  refine okN F scRNeg (fun vs H Q E h => ?_) (fun cdv A outer s H vs Q E hr h => ?_)
  · obtain ⟨a, r, rfl, _⟩ := h
    rfl
  · obtain ⟨a, r, rfl, ⟨da, ha⟩, kr, _, q⟩ := h
    refine ⟨_, pss_one (ps_ret (pe_c GM hr pass0 (pa_cons (pe_un un_neg (pe_fld (pv 0) rfl)) (pa_cons (pe_fld (pv 0) rfl) pa_nil)))), ?_⟩
    refine ⟨_, rfl, a, cQ K, da, _, _, rfl, ha, T.oQ.cl, T.nQn, qf_n _ _, _, rfl, _, rfl, a, cQ K, da, _, _, rfl, ha, T.oQ.cl, T.nQd, qf_d _ _, ?_⟩
    exact mk_ratio (den_ok kr).1 (den_ok kr).2 (neg_div r) q
theorem scRInv : FnScope ["self"] ["self"] (defScope sRInv) := ⟨rfl, rfl, rfl, by decide +kernel, rfl, by decide +kernel, by decide +kernel⟩
theorem ok_RInv {f : Addr} {fd : FuncData} (T : Txt K mg) (F : FnP K dRInv f fd) (GM : CFn P w K mg base CX0 1 "Ratio" (cQ K) ["self", "n", "d"] [] (spRInit K)) : FnOk P w K mg base CX0 3 f fd ["self"] (spQ1 K (fun r => r ≠ 0) (·⁻¹)) := by
  refine okN F scRInv (fun vs H Q E h => ?_) (fun cdv A outer s H vs Q E hr h => ?_)
  · obtain ⟨a, r, rfl, _⟩ := h
    rfl
  · obtain ⟨a, r, rfl, ⟨da, ha⟩, kr, hz, q⟩ := h
    refine ⟨_, pss_one (ps_ret (pe_c GM hr pass0 (pa_cons (pe_fld (pv 0) rfl) (pa_cons (pe_fld (pv 0) rfl) pa_nil)))), ?_⟩
    refine ⟨_, rfl, a, cQ K, da, _, _, rfl, ha, T.oQ.cl, T.nQd, qf_d _ _, _, rfl, a, cQ K, da, _, _, rfl, ha, T.oQ.cl, T.nQn, qf_n _ _, ?_⟩
    exact mk_ratio (fun e => hz (Rat.num_eq_zero.mp e)) (Nat.lt_of_lt_of_le kr.1 (Nat.pow_le_pow_right (by decide) (by decide))) (Rat.inv_def r).symm q
def spQZ (K : PySem.W.Frag) : Sp := fun vs H Q _ => ∃ (a : Addr) (r : Rat), vs = [.ref a] ∧ QAt K H a r ∧ Q (.bl (decide (r = 0))) H
theorem scRZer : FnScope ["self"] ["self"] (defScope sRZer) := ⟨rfl, rfl, rfl, by decide +kernel, rfl, by decide +kernel, by decide +kernel⟩
theorem ok_RZer {f : Addr} {fd : FuncData} (T : Txt K mg) (F : FnP K dRZer f fd) : FnOk P w K mg base CX0 1 f fd ["self"] (spQZ K) := by
  refine okN F scRZer (fun vs H Q E h => ?_) (fun cdv A outer s H vs Q E hr h => ?_)
  · obtain ⟨a, r, rfl, _⟩ := h
    rfl
  · obtain ⟨a, r, rfl, ⟨da, ha⟩, q⟩ := h
    refine ⟨_, pss_one (ps_ret (pe_cmpR op_eq (pe_fld (pv 0) rfl) pe_int (nomark _))), ?_⟩
    refine ⟨_, rfl, a, cQ K, da, _, _, rfl, ha, T.oQ.cl, T.nQn, qf_n _ _, rfl, ?_⟩
    have e : decide (V.int r.num = V.int 0) = decide (r = 0) := by
      rw [Bool.eq_iff_iff]
      simp [Rat.num_eq_zero]
    rw [e]
    exact q
end
end K9

namespace K9
open PySem PySem.Spec PyProof.Rows L2
def isP (p : Int) : Prop := p = 2 ∨ p = 3 ∨ p = 5 ∨ p = 7
theorem isP.pos {p : Int} (h : isP p) : 0 < p ∧ p ≤ 7 ∧ p ≠ 0 ∧ 2 ≤ p := by rcases h with h | h | h | h <;> subst h <;> decide
theorem inV_prime {p : Int} (h : isP p) : inV (.int p) primes = true := by rcases h with h | h | h | h <;> subst h <;> decide
section
variable {P : Program} {w : World} {K : PySem.W.Frag} {mg : Str → Option Value} {base : Heap}
def spIsPr (K : PySem.W.Frag) : Sp := fun vs H Q _ => ∃ p : Int, vs = [.int p] ∧ isP p ∧ Q (.bl true) H
theorem scIsPr : FnScope ["value"] ["value"] (defScope sIsPr) := ⟨rfl, rfl, rfl, by decide +kernel, rfl, by decide +kernel, by decide +kernel⟩
theorem ok_IsPr {f : Addr} {fd : FuncData} (T : Txt K mg) (F : FnP K dIsPr f fd) (GI : GFn P w K mg base CX0 1 "is_integer" ["value"] [] (spIsInt K)) : FnOk P w K mg base CX0 2 f fd ["value"] (spIsPr K) := by
  obtain ⟨pa, hp, hps⟩ := T.pr
  refine okN F scIsPr (fun vs H Q E h => ?_) (fun cdv A outer s H vs Q E hr h => ?_)
  · obtain ⟨p, rfl, _⟩ := h
    rfl
  · obtain ⟨p, rfl, hP, q⟩ := h
    refine ⟨_, pss_one (ps_ret (pe_and (pe_g GI hr pass0 (pa_cons (pv 0) pa_nil)) (pe_one (pe_cmpR op_in_seq (pv 0) (pe_own hp) rfl)))), ?_⟩
    refine ⟨_, rfl, .inl ⟨p, rfl, true, rfl, iteT ?_⟩⟩
    refine ⟨_, rfl, pa, _, rfl, .inr (hps H), rfl, rfl, ?_⟩
    show Q (.bl (inV (.int p) primes)) H
    rw [inV_prime hP]
    exact q
/-! ### Residue(p, n) -/
def spZInit (K : PySem.W.Frag) : Sp := fun vs H Q _ => ∃ (x dx : Addr) (p n : Int), vs = [.ref x, .int p, .int n] ∧ H x = some (.ins (cZ K) dx []) ∧ isP p ∧ Q .non (upd H x (.ins (cZ K) dx (zf p (n % p))))
theorem scZInit : FnScope ["self", "p", "n"] ["self", "p", "n"] (defScope sZInit) := ⟨rfl, rfl, rfl, by decide +kernel, rfl, by decide +kernel, by decide +kernel⟩
theorem ok_ZInit {f : Addr} {fd : FuncData} (T : Txt K mg) (F : FnP K dZInit f fd) (GI : GFn P w K mg base CX0 1 "is_integer" ["value"] [] (spIsInt K)) (GP : GFn P w K mg base CX0 2 "is_small_prime" ["value"] [] (spIsPr K)) :
    FnOk P w K mg base CX0 3 f fd ["self", "p", "n"] (spZInit K) := by
  refine okN F scZInit (fun vs H Q E h => ?_) (fun cdv A outer s H vs Q E hr h => ?_)
  · obtain ⟨x, dx, p, n, rfl, _⟩ := h
    rfl
  · obtain ⟨x, dx, p, n, rfl, hx, hP, q⟩ := h
    refine ⟨_, pss_cons (ps_if (PW.pt (pw_or (pt_not (pt_val (pe_g GP hr pass0 (pa_cons (pv 1) pa_nil)))) (pw_or1 (pt_not (pt_val (pe_g GI (hr.mono (by decide)) pass0 (pa_cons (pv 2) pa_nil))))))) (pss_one ps_never) pss_nil)
      (pss_cons (ps_fld (pv 0) (pv 1) rfl) (pss_one (ps_fld (pv 0) (pe_op op_mod (pv 2) (pv 1)) rfl))), ?_⟩
    refine ⟨_, rfl, p, rfl, hP, true, rfl, iteF ?_⟩
    refine ⟨_, rfl, .inl ⟨n, rfl, true, rfl, iteF ?_⟩⟩
    refine ⟨_, rfl, _, rfl, x, cZ K, dx, _, rfl, hx, T.oZ.cl, T.nZp, (by show 0 < 1000; decide), ?_⟩
    refine ⟨_, rfl, _, rfl, _, _, rfl, rfl, hP.pos.1, _, rfl, x, cZ K, dx, _, rfl, upd_same, T.oZ.cl, T.nZn, (by show 1 < 1000; decide), ?_⟩
    rw [upd_upd, zf_mk]
    exact q
theorem mk_res {H1 : Hp} {Q : VK} {p n : Int} {E : XK} (hp : isP p) (q : ∀ H' a, Same H1 H' → ZAt K H' a p (n % p) → Q (.ref a) H') :
    ∀ x dx, H1 x = none → H1 dx = none → dx ≠ x → spZInit K (.ref x :: [.int p, .int n]) (upd (upd H1 dx (.own x)) x (.ins (cZ K) dx [])) (fun v H2 => v = .non ∧ Q (.ref x) H2) E :=
  fun x dx nx nd ne => ⟨x, dx, p, n, rfl, upd_same, hp, rfl, q _ _ (same_made nx nd) ⟨dx, upd_same⟩⟩
def spZ2 (K : PySem.W.Frag) (op : Int → Int → Int) : Sp := fun vs H Q _ => ∃ (a b : Addr) (p n m : Int), vs = [.ref a, .ref b] ∧ isP p ∧ 0 ≤ n ∧ n < p ∧ ZAt K H a p n ∧ ZAt K H b p m ∧ ∀ H' r, Same H H' → ZAt K H' r p (op n m % p) → Q (.ref r) H'
abbrev GZ (P : Program) (w : World) (K : PySem.W.Frag) (mg : Str → Option Value) (base : Heap) : Prop := CFn P w K mg base CX0 3 "Residue" (cZ K) ["self", "p", "n"] [] (spZInit K)
theorem scZAdd : FnScope ["self", "other"] ["self", "other"] (defScope sZAdd) := ⟨rfl, rfl, rfl, by decide +kernel, rfl, by decide +kernel, by decide +kernel⟩
theorem ok_ZAdd {f : Addr} {fd : FuncData} (T : Txt K mg) (F : FnP K dZAdd f fd) (GM : GZ P w K mg base) : FnOk P w K mg base CX0 5 f fd ["self", "other"] (spZ2 K (· + ·)) := by
  refine okN F scZAdd (fun vs H Q E h => ?_) (fun cdv A outer s H vs Q E hr h => ?_)
  · obtain ⟨a, b, p, n, m, rfl, _⟩ := h
    rfl
  · obtain ⟨a, b, p, n, m, rfl, hP, h0, h1, ⟨da, ha⟩, ⟨db, hb⟩, q⟩ := h
    refine ⟨_, pss_cons (ps_if (PW.pt (pw_or (pt_not (pt_val (pe_callB call_isi (by rfl) T.b_isinstance (by decide +kernel) (pa_cons (pv 1) (pa_cons (pe_own T.gZ) pa_nil))))) (pw_or1 (pt_cmpR op_ne (pe_fld (pv 0) rfl) (pe_fld (pv 1) rfl) (nomark _))))) (pss_one ps_never) pss_nil)
      (pss_one (ps_ret (pe_c GM hr pass0 (pa_cons (pe_fld (pv 0) rfl) (pa_cons (pe_op op_add (pe_fld (pv 0) rfl) (pe_fld (pv 1) rfl)) pa_nil))))), ?_⟩
    refine ⟨_, rfl, _, _, _, _, true, rfl, .own _, T.oZ.ty hb, kit_self, true, rfl, iteF ?_⟩
    refine ⟨_, rfl, a, cZ K, da, _, _, rfl, ha, T.oZ.cl, T.nZp, zf_p _ _, _, rfl, b, cZ K, db, _, _, rfl, hb, T.oZ.cl, T.nZp, zf_p _ _, rfl, _, rfl, iteNS rfl ?_⟩
    refine ⟨_, rfl, a, cZ K, da, _, _, rfl, ha, T.oZ.cl, T.nZp, zf_p _ _, _, rfl, a, cZ K, da, _, _, rfl, ha, T.oZ.cl, T.nZn, zf_n _ _, _, rfl, b, cZ K, db, _, _, rfl, hb, T.oZ.cl, T.nZn, zf_n _ _, _, _, rfl, rfl, ?_⟩
    exact mk_res hP q
theorem scZSub : FnScope ["self", "other"] ["self", "other"] (defScope sZSub) := ⟨rfl, rfl, rfl, by decide +kernel, rfl, by decide +kernel, by decide +kernel⟩
theorem ok_ZSub {f : Addr} {fd : FuncData} (T : Txt K mg) (F : FnP K dZSub f fd) (GM : GZ P w K mg base) : FnOk P w K mg base CX0 5 f fd ["self", "other"] (spZ2 K (· - ·)) := by
  refine okN F scZSub (fun vs H Q E h => ?_) (fun cdv A outer s H vs Q E hr h => ?_)
  · obtain ⟨a, b, p, n, m, rfl, _⟩ := h
    rfl
  · obtain ⟨a, b, p, n, m, rfl, hP, h0, h1, ⟨da, ha⟩, ⟨db, hb⟩, q⟩ := h
    refine ⟨_, pss_cons (ps_if (PW.pt (pw_or (pt_not (pt_val (pe_callB call_isi (by rfl) T.b_isinstance (by decide +kernel) (pa_cons (pv 1) (pa_cons (pe_own T.gZ) pa_nil))))) (pw_or1 (pt_cmpR op_ne (pe_fld (pv 0) rfl) (pe_fld (pv 1) rfl) (nomark _))))) (pss_one ps_never) pss_nil)
      (pss_one (ps_ret (pe_c GM hr pass0 (pa_cons (pe_fld (pv 0) rfl) (pa_cons (pe_op op_sub (pe_fld (pv 0) rfl) (pe_fld (pv 1) rfl)) pa_nil))))), ?_⟩
    refine ⟨_, rfl, _, _, _, _, true, rfl, .own _, T.oZ.ty hb, kit_self, true, rfl, iteF ?_⟩
    refine ⟨_, rfl, a, cZ K, da, _, _, rfl, ha, T.oZ.cl, T.nZp, zf_p _ _, _, rfl, b, cZ K, db, _, _, rfl, hb, T.oZ.cl, T.nZp, zf_p _ _, rfl, _, rfl, iteNS rfl ?_⟩
    refine ⟨_, rfl, a, cZ K, da, _, _, rfl, ha, T.oZ.cl, T.nZp, zf_p _ _, _, rfl, a, cZ K, da, _, _, rfl, ha, T.oZ.cl, T.nZn, zf_n _ _, _, rfl, b, cZ K, db, _, _, rfl, hb, T.oZ.cl, T.nZn, zf_n _ _, _, _, rfl, rfl, ?_⟩
    exact mk_res hP q
theorem small64 {p n : Int} (hP : isP p) (h0 : 0 ≤ n) (h1 : n < p) : -(2 ^ 64) < n ∧ n < 2 ^ 64 := by
  have := hP.pos
  omega
theorem scZMul : FnScope ["self", "other"] ["self", "other"] (defScope sZMul) := ⟨rfl, rfl, rfl, by decide +kernel, rfl, by decide +kernel, by decide +kernel⟩
theorem ok_ZMul {f : Addr} {fd : FuncData} (T : Txt K mg) (F : FnP K dZMul f fd) (GM : GZ P w K mg base) : FnOk P w K mg base CX0 5 f fd ["self", "other"] (spZ2 K (· * ·)) := by
  refine okN F scZMul (fun vs H Q E h => ?_) (fun cdv A outer s H vs Q E hr h => ?_)
  · obtain ⟨a, b, p, n, m, rfl, _⟩ := h
    rfl
  · obtain ⟨a, b, p, n, m, rfl, hP, h0, h1, ⟨da, ha⟩, ⟨db, hb⟩, q⟩ := h
    refine ⟨_, pss_cons (ps_if (PW.pt (pw_or (pt_not (pt_val (pe_callB call_isi (by rfl) T.b_isinstance (by decide +kernel) (pa_cons (pv 1) (pa_cons (pe_own T.gZ) pa_nil))))) (pw_or1 (pt_cmpR op_ne (pe_fld (pv 0) rfl) (pe_fld (pv 1) rfl) (nomark _))))) (pss_one ps_never) pss_nil)
      (pss_one (ps_ret (pe_c GM hr pass0 (pa_cons (pe_fld (pv 0) rfl) (pa_cons (pe_op op_mul (pe_fld (pv 0) rfl) (pe_fld (pv 1) rfl)) pa_nil))))), ?_⟩
    refine ⟨_, rfl, _, _, _, _, true, rfl, .own _, T.oZ.ty hb, kit_self, true, rfl, iteF ?_⟩
    refine ⟨_, rfl, a, cZ K, da, _, _, rfl, ha, T.oZ.cl, T.nZp, zf_p _ _, _, rfl, b, cZ K, db, _, _, rfl, hb, T.oZ.cl, T.nZp, zf_p _ _, rfl, _, rfl, iteNS rfl ?_⟩
    refine ⟨_, rfl, a, cZ K, da, _, _, rfl, ha, T.oZ.cl, T.nZp, zf_p _ _, _, rfl, a, cZ K, da, _, _, rfl, ha, T.oZ.cl, T.nZn, zf_n _ _, _, rfl, b, cZ K, db, _, _, rfl, hb, T.oZ.cl, T.nZn, zf_n _ _, _, _, rfl, rfl, .inl (small64 hP h0 h1), ?_⟩
    exact mk_res hP q
def eqZ (K : PySem.W.Frag) : Addr → Addr → Hp → Prop := fun a b H => ∃ p n, ZAt K H a p n ∧ ZAt K H b p n
theorem scZEq : FnScope ["self", "other"] ["self", "other"] (defScope sZEq) := ⟨rfl, rfl, rfl, by decide +kernel, rfl, by decide +kernel, by decide +kernel⟩
theorem ok_ZEq {f : Addr} {fd : FuncData} (T : Txt K mg) (F : FnP K dZEq f fd) : FnOk P w K mg base CX0 1 f fd ["self", "other"] (spEq (eqZ K)) := by
  refine okN F scZEq (fun vs H Q E h => ?_) (fun cdv A outer s H vs Q E hr h => ?_)
  · obtain ⟨a, b, rfl, _⟩ := h
    rfl
  · obtain ⟨a, b, rfl, ⟨p, n, ⟨da, ha⟩, ⟨db, hb⟩⟩, q⟩ := h
    refine ⟨_, pss_one (ps_ret (pe_and (pe_callB call_isi (by rfl) T.b_isinstance (by decide +kernel) (pa_cons (pv 1) (pa_cons (pe_own T.gZ) pa_nil)))
      (pe_and (pe_cmpR op_eq (pe_fld (pv 0) rfl) (pe_fld (pv 1) rfl) (nomark _)) (pe_one (pe_cmpR op_eq (pe_fld (pv 0) rfl) (pe_fld (pv 1) rfl) (nomark _)))))), ?_⟩
    refine ⟨_, rfl, _, _, _, _, true, rfl, .own _, T.oZ.ty hb, kit_self, true, rfl, iteT ?_⟩
    refine ⟨_, rfl, a, cZ K, da, _, _, rfl, ha, T.oZ.cl, T.nZp, zf_p _ _, _, rfl, b, cZ K, db, _, _, rfl, hb, T.oZ.cl, T.nZp, zf_p _ _, rfl, _, rfl, if_t (decide_eq_true rfl) ?_⟩
    refine ⟨_, rfl, a, cZ K, da, _, _, rfl, ha, T.oZ.cl, T.nZn, zf_n _ _, _, rfl, b, cZ K, db, _, _, rfl, hb, T.oZ.cl, T.nZn, zf_n _ _, rfl, ?_⟩
    rw [decide_eq_true rfl]
    exact q _ Ext.rfl'
def spZ1 (K : PySem.W.Frag) (A : Int → Prop) (op : Int → Int → Int) : Sp := fun vs H Q _ => ∃ (a : Addr) (p n : Int), vs = [.ref a] ∧ isP p ∧ 0 ≤ n ∧ n < p ∧ A n ∧ ZAt K H a p n ∧ ∀ H' r, Same H H' → ZAt K H' r p (op p n % p) → Q (.ref r) H'
theorem scZNeg : FnScope ["self"] ["self"] (defScope sZNeg) := ⟨rfl, rfl, rfl, by decide +kernel, rfl, by decide +kernel, by decide +kernel⟩
theorem ok_ZNeg {f : Addr} {fd : FuncData} (T : Txt K mg) (F : FnP K dZNeg f fd) (GM : GZ P w K mg base) : FnOk P w K mg base CX0 5 f fd ["self"] (spZ1 K (fun _ => True) (fun _ n => -n)) := by
  refine okN F scZNeg (fun vs H Q E h => ?_) (fun cdv A outer s H vs Q E hr h => ?_)
  · obtain ⟨a, p, n, rfl, _⟩ := h
    rfl
  · obtain ⟨a, p, n, rfl, hP, h0, h1, _, ⟨da, ha⟩, q⟩ := h
    refine ⟨_, pss_one (ps_ret (pe_c GM hr pass0 (pa_cons (pe_fld (pv 0) rfl) (pa_cons (pe_un un_neg (pe_fld (pv 0) rfl)) pa_nil)))), ?_⟩
    refine ⟨_, rfl, a, cZ K, da, _, _, rfl, ha, T.oZ.cl, T.nZp, zf_p _ _, _, rfl, a, cZ K, da, _, _, rfl, ha, T.oZ.cl, T.nZn, zf_n _ _, _, rfl, ?_⟩
    exact mk_res hP q
def spZZ (K : PySem.W.Frag) : Sp := fun vs H Q _ => ∃ (a : Addr) (p n : Int), vs = [.ref a] ∧ ZAt K H a p n ∧ Q (.bl (decide (n = 0))) H
theorem scZZer : FnScope ["self"] ["self"] (defScope sZZer) := ⟨rfl, rfl, rfl, by decide +kernel, rfl, by decide +kernel, by decide +kernel⟩
theorem ok_ZZer {f : Addr} {fd : FuncData} (T : Txt K mg) (F : FnP K dZZer f fd) : FnOk P w K mg base CX0 1 f fd ["self"] (spZZ K) := by
  refine okN F scZZer (fun vs H Q E h => ?_) (fun cdv A outer s H vs Q E hr h => ?_)
  · obtain ⟨a, p, n, rfl, _⟩ := h
    rfl
  · obtain ⟨a, p, n, rfl, ⟨da, ha⟩, q⟩ := h
    refine ⟨_, pss_one (ps_ret (pe_cmpR op_eq (pe_fld (pv 0) rfl) pe_int (nomark _))), ?_⟩
    refine ⟨_, rfl, a, cZ K, da, _, _, rfl, ha, T.oZ.cl, T.nZn, zf_n _ _, rfl, ?_⟩
    have e : decide (V.int n = V.int 0) = decide (n = 0) := by
      rw [Bool.eq_iff_iff]
      simp
    rw [e]
    exact q
/-! ### the inverse, by a power -/
def zpw (p n : Int) : Nat → Int
  | 0 => 1
  | i + 1 => zpw p n i * n % p
theorem zpw_small {p n : Int} (hP : isP p) : ∀ i, 0 ≤ zpw p n i ∧ zpw p n i < 8
  | 0 => by show (0 : Int) ≤ 1 ∧ (1 : Int) < 8; decide
  | i + 1 => by
    have := hP.pos
    have h1 := Int.emod_nonneg (zpw p n i * n) this.2.2.1
    have h2 := Int.emod_lt_of_pos (zpw p n i * n) this.1
    show 0 ≤ zpw p n i * n % p ∧ zpw p n i * n % p < 8
    omega
def zinv (p n : Int) : Int := zpw p n (p - 2).toNat
theorem scZInv : FnScope ["self", "total", "_"] ["self"] (defScope sZInv) := ⟨rfl, rfl, rfl, by decide +kernel, rfl, by decide +kernel, by decide +kernel⟩
theorem ok_ZInv {f : Addr} {fd : FuncData} (T : Txt K mg) (F : FnP K dZInv f fd) (GM : GZ P w K mg base) : FnOk P w K mg base CX0 5 f fd ["self"] (spZ1 K (fun n => n ≠ 0) zinv) := by
  refine okN F scZInv (fun vs H Q E h => ?_) (fun cdv A outer s H vs Q E hr h => ?_)
  · obtain ⟨a, p, n, rfl, _⟩ := h
    rfl
  · obtain ⟨a, p, n, rfl, hP, h0, h1, hn, ⟨da, ha⟩, q⟩ := h
    refine ⟨_, pss_cons (ps_if (pt_cmpR op_eq (pe_fld (pv 0) rfl) pe_int (nomark _)) (pss_one ps_never) pss_nil)
      (pss_cons (ps_set (i := 1) scZInv.nd rfl (Or.inl rfl) pe_int)
      (pss_cons (ps_for PassesOwn.never rfl (pi_range1 rfl T.b_range (pa_cons (pe_op op_sub (pe_fld (pv 0) rfl) pe_int) pa_nil)) (pg_name (i := 2) scZInv.nd rfl (Or.inl rfl))
        (pss_one (ps_set (i := 1) scZInv.nd rfl (Or.inl rfl) (pe_op op_mod (pe_op op_mul (pv 1) (pe_fld (pv 0) rfl)) (pe_fld (pv 0) rfl)))))
      (pss_one (ps_ret (pe_c GM hr pass0 (pa_cons (pe_fld (pv 0) rfl) (pa_cons (pv 1) pa_nil))))))), ?_⟩
    refine ⟨_, rfl, a, cZ K, da, _, _, rfl, ha, T.oZ.cl, T.nZn, zf_n _ _, rfl, _, rfl, if_f (decide_eq_false fun e => hn (by injection e)) ?_⟩
    refine ⟨_, rfl, a, cZ K, da, _, _, rfl, ha, T.oZ.cl, T.nZp, zf_p _ _, _, _, rfl, rfl, p - 2, rfl, ?_, ?_, for_range (lo := 0) (n := (p - 2).toNat) (fun i σ H' => H' = H ∧ ∃ v, σ = [some (.ref a), some (.int (zpw p n i)), v]) ⟨rfl, none, rfl⟩ ?_ ?_⟩
    · have := hP.pos; omega
    · have := hP.pos; omega
    · rintro i σ H' hi ⟨rfl, v, rfl⟩
      have hs := zpw_small (n := n) hP i
      refine ⟨_, rfl, _, rfl, a, cZ K, da, _, _, rfl, ha, T.oZ.cl, T.nZn, zf_n _ _, _, _, rfl, rfl, .inl (by omega), _, rfl, a, cZ K, da, _, _, rfl, ha, T.oZ.cl, T.nZp, zf_p _ _, _, _, rfl, rfl, hP.pos.1, ?_⟩
      exact ⟨rfl, _, rfl⟩
    · rintro σ H' ⟨rfl, v, rfl⟩
      refine ⟨_, rfl, a, cZ K, da, _, _, rfl, ha, T.oZ.cl, T.nZp, zf_p _ _, _, rfl, ?_⟩
      exact mk_res hP q
def spZOv (K : PySem.W.Frag) : Sp := fun vs H Q _ => ∃ (a b : Addr) (p n m : Int), vs = [.ref a, .ref b] ∧ isP p ∧ 0 ≤ n ∧ n < p ∧ 0 ≤ m ∧ m < p ∧ m ≠ 0 ∧ ZAt K H a p n ∧ ZAt K H b p m ∧ ∀ H' r, Same H H' → ZAt K H' r p (n * (zinv p m % p) % p) → Q (.ref r) H'
theorem scZOver : FnScope ["self", "other"] ["self", "other"] (defScope sZOver) := ⟨rfl, rfl, rfl, by decide +kernel, rfl, by decide +kernel, by decide +kernel⟩
theorem ok_ZOver {f : Addr} {fd : FuncData} (T : Txt K mg) (F : FnP K dZOver f fd) (MM : MFn P w K mg base CX0 5 (cZ K) "__mul__" ["self", "other"] [] (spZ2 K (· * ·))) (MI : MFn P w K mg base CX0 5 (cZ K) "inverse" ["self"] [] (spZ1 K (fun n => n ≠ 0) zinv)) :
    FnOk P w K mg base CX0 6 f fd ["self", "other"] (spZOv K) := by
  refine okN F scZOver (fun vs H Q E h => ?_) (fun cdv A outer s H vs Q E hr h => ?_)
  · obtain ⟨a, b, p, n, m, rfl, _⟩ := h
    rfl
  · obtain ⟨a, b, p, n, m, rfl, hP, h0, h1, m0, m1, mz, ⟨da, ha⟩, ⟨db, hb⟩, q⟩ := h
    refine ⟨_, pss_one (ps_ret (pe_op (op_mB T.oZ MM rfl hr pass0) (pv 0) (pe_m0 (pv 1) T.oZ.cl MI hr pass0))), ?_⟩
    refine ⟨_, rfl, _, rfl, b, db, _, rfl, hb, zf_no _ _ (by decide +kernel) (by decide +kernel), b, p, m, rfl, hP, m0, m1, mz, ⟨db, hb⟩, fun H1 r s1 hz => ?_⟩
    obtain ⟨dr, hz'⟩ := id hz
    exact ⟨a, r, da, dr, _, _, rfl, rfl, s1 _ _ ha, hz', a, r, p, n, _, rfl, hP, h0, h1, ⟨da, s1 _ _ ha⟩, hz, fun H2 t s2 ht => q H2 t (s1.trans s2) ht⟩
end
end K9

namespace K9
open PySem PySem.Spec PyProof.Rows L2
theorem Gd.isP {g : Gd} (h : g.p ≠ 0) : isP g.p := by
  cases g with
  | q => exact absurd rfl h
  | p2 => exact .inl rfl
  | p3 => exact .inr (.inl rfl)
  | p5 => exact .inr (.inr (.inl rfl))
  | p7 => exact .inr (.inr (.inr rfl))
theorem ofZ {p : Int} (hp : isP p) (n : Int) : n % p * (zinv p (1 % p) % p) % p = n % p := by
  have e : zinv p (1 % p) % p = 1 := by rcases hp with h | h | h | h <;> subst h <;> decide
  rw [e, Int.mul_one, Int.emod_emod]
theorem NAt.ofZ {K : PySem.W.Frag} {H : Hp} {a : Addr} : ∀ {g : Gd} (n : Int), g.p ≠ 0 → ZAt K H a g.p (n % g.p) → NAt K H a g (ofI g n)
  | .q, _, h, _ => absurd rfl h
  | .p2, n, _, z => by
    have e : ((ofI .p2 n : Fin 2).val : Int) = n % 2 := by show ((n % 2).toNat : Int) = n % 2; omega
    show ZAt K H a 2 ((ofI .p2 n : Fin 2).val : Int)
    rw [e]; exact z
  | .p3, n, _, z => by
    have e : ((ofI .p3 n : Fin 3).val : Int) = n % 3 := by show ((n % 3).toNat : Int) = n % 3; omega
    show ZAt K H a 3 ((ofI .p3 n : Fin 3).val : Int)
    rw [e]; exact z
  | .p5, n, _, z => by
    have e : ((ofI .p5 n : Fin 5).val : Int) = n % 5 := by show ((n % 5).toNat : Int) = n % 5; omega
    show ZAt K H a 5 ((ofI .p5 n : Fin 5).val : Int)
    rw [e]; exact z
  | .p7, n, _, z => by
    have e : ((ofI .p7 n : Fin 7).val : Int) = n % 7 := by show ((n % 7).toNat : Int) = n % 7; omega
    show ZAt K H a 7 ((ofI .p7 n : Fin 7).val : Int)
    rw [e]; exact z
theorem NAt.ins {K : PySem.W.Frag} {mg : Str → Option Value} (T : Txt K mg) {H : Hp} {a : Addr} : ∀ {g : Gd} {x : El g}, NAt K H a g x → ∃ C dx fs, H a = some (.ins C dx fs) ∧ OwnC K C
  | .q, _, h => let ⟨dx, e⟩ := h; ⟨_, dx, _, e, T.oQ⟩
  | .p2, _, h => let ⟨dx, e⟩ := h; ⟨_, dx, _, e, T.oZ⟩
  | .p3, _, h => let ⟨dx, e⟩ := h; ⟨_, dx, _, e, T.oZ⟩
  | .p5, _, h => let ⟨dx, e⟩ := h; ⟨_, dx, _, e, T.oZ⟩
  | .p7, _, h => let ⟨dx, e⟩ := h; ⟨_, dx, _, e, T.oZ⟩
theorem NAt.resid {K : PySem.W.Frag} {H : Hp} {a : Addr} : ∀ {g : Gd} {x : El g}, g.p ≠ 0 → NAt K H a g x → ∃ n : Int, 0 ≤ n ∧ n < g.p ∧ ZAt K H a g.p n
  | .q, _, hp, _ => absurd rfl hp
  | .p2, x, _, h => ⟨_, by omega, by have := (show Fin 2 from x).isLt; show ((show Fin 2 from x).val : Int) < 2; omega, h⟩
  | .p3, x, _, h => ⟨_, by omega, by have := (show Fin 3 from x).isLt; show ((show Fin 3 from x).val : Int) < 3; omega, h⟩
  | .p5, x, _, h => ⟨_, by omega, by have := (show Fin 5 from x).isLt; show ((show Fin 5 from x).val : Int) < 5; omega, h⟩
  | .p7, x, _, h => ⟨_, by omega, by have := (show Fin 7 from x).isLt; show ((show Fin 7 from x).val : Int) < 7; omega, h⟩
theorem NAt.rat {K : PySem.W.Frag} {H : Hp} {a : Addr} : ∀ {g : Gd} {x : El g}, g.p = 0 → NAt K H a g x → ∃ dx fs, H a = some (.ins (cQ K) dx fs)
  | .q, _, _, h => let ⟨dx, e⟩ := h; ⟨dx, _, e⟩
  | .p2, _, hp, _ => by cases hp
  | .p3, _, hp, _ => by cases hp
  | .p5, _, hp, _ => by cases hp
  | .p7, _, hp, _ => by cases hp
section
variable {P : Program} {w : World} {K : PySem.W.Frag} {mg : Str → Option Value} {base : Heap}
theorem made_z {H : Hp} {x dx : Addr} {p n : Int} (nx : H x = none) (nd : H dx = none) : Same H (upd (upd (upd H dx (.own x)) x (.ins (cZ K) dx [])) x (.ins (cZ K) dx (zf p n))) ∧
    ZAt K (upd (upd (upd H dx (.own x)) x (.ins (cZ K) dx [])) x (.ins (cZ K) dx (zf p n))) x p n := ⟨same_made nx nd, ⟨dx, upd_same⟩⟩
/-! ### Ground(p) -/
def spGInit (K : PySem.W.Frag) : Sp := fun vs H Q _ => ∃ (x dx : Addr) (g : Gd), vs = [.ref x, .int g.p] ∧ H x = some (.ins (cG K) dx []) ∧ Q .non (upd H x (.ins (cG K) dx (gf g.p)))
theorem scGInit : FnScope ["self", "p"] ["self", "p"] (defScope sGInit) := ⟨rfl, rfl, rfl, by decide +kernel, rfl, by decide +kernel, by decide +kernel⟩
theorem ok_GInit {f : Addr} {fd : FuncData} (T : Txt K mg) (F : FnP K dGInit f fd) (GI : GFn P w K mg base CX0 1 "is_integer" ["value"] [] (spIsInt K)) (GP : GFn P w K mg base CX0 2 "is_small_prime" ["value"] [] (spIsPr K)) :
    FnOk P w K mg base CX0 3 f fd ["self", "p"] (spGInit K) := by
  refine okN F scGInit (fun vs H Q E h => ?_) (fun cdv A outer s H vs Q E hr h => ?_)
  · obtain ⟨x, dx, g, rfl, _⟩ := h
    rfl
  · obtain ⟨x, dx, g, rfl, hx, q⟩ := h
    refine ⟨_, pss_cons (ps_if (PW.pt (pw_or (pt_not (pt_val (pe_g GI (hr.mono (by decide)) pass0 (pa_cons (pv 1) pa_nil)))) (pw_or1 (PW.pt (pw_and (pt_cmpR op_ne (pv 1) pe_int (nomark _)) (pw_and1 (pt_not (pt_val (pe_g GP hr pass0 (pa_cons (pv 1) pa_nil))))))))))
      (pss_one ps_never) pss_nil) (pss_one (ps_fld (pv 0) (pv 1) rfl)), ?_⟩
    refine ⟨_, rfl, .inl ⟨_, rfl, true, rfl, iteF ?_⟩⟩
    refine ⟨_, rfl, rfl, _, rfl, ?_⟩
    by_cases hg : g.p = 0
    · have e : (!decide (V.int g.p = V.int 0)) = false := by rw [hg]; rfl
      rw [e]
      refine iteF (iteF ?_)
      refine ⟨_, rfl, _, rfl, x, cG K, dx, _, rfl, hx, T.oG.cl, T.nGp, (by show 0 < 1000; decide), ?_⟩
      exact q
    · have e : (!decide (V.int g.p = V.int 0)) = true := by rw [decide_eq_false fun z => hg (by injection z with z; exact Int.natCast_eq_zero.mp z)] <;> rfl
      rw [e]
      refine iteT ?_
      refine ⟨_, rfl, _, rfl, g.isP hg, true, rfl, iteF ?_⟩
      refine ⟨_, rfl, _, rfl, x, cG K, dx, _, rfl, hx, T.oG.cl, T.nGp, (by show 0 < 1000; decide), ?_⟩
      exact q
def spGEq (K : PySem.W.Frag) : Sp := fun vs H Q _ => ∃ (a b : Addr) (g g' : Gd), vs = [.ref a, .ref b] ∧ GAt K H a g ∧ GAt K H b g' ∧ Q (.bl (decide (g = g'))) H
theorem scGEq : FnScope ["self", "other"] ["self", "other"] (defScope sGEq) := ⟨rfl, rfl, rfl, by decide +kernel, rfl, by decide +kernel, by decide +kernel⟩
theorem ok_GEq {f : Addr} {fd : FuncData} (T : Txt K mg) (F : FnP K dGEq f fd) : FnOk P w K mg base CX0 1 f fd ["self", "other"] (spGEq K) := by
  refine okN F scGEq (fun vs H Q E h => ?_) (fun cdv A outer s H vs Q E hr h => ?_)
  · obtain ⟨a, b, g, g', rfl, _⟩ := h
    rfl
  · obtain ⟨a, b, g, g', rfl, ⟨da, ha⟩, ⟨db, hb⟩, q⟩ := h
    refine ⟨_, pss_one (ps_ret (pe_and (pe_callB call_isi (by rfl) T.b_isinstance (by decide +kernel) (pa_cons (pv 1) (pa_cons (pe_own T.gG) pa_nil)))
      (pe_one (pe_cmpR op_eq (pe_fld (pv 0) rfl) (pe_fld (pv 1) rfl) (nomark _))))), ?_⟩
    refine ⟨_, rfl, _, _, _, _, true, rfl, .own _, T.oG.ty hb, kit_self, true, rfl, iteT ?_⟩
    refine ⟨_, rfl, a, cG K, da, _, _, rfl, ha, T.oG.cl, T.nGp, gf_p _, _, rfl, b, cG K, db, _, _, rfl, hb, T.oG.cl, T.nGp, gf_p _, rfl, ?_⟩
    have e : decide (V.int (g.p : Int) = V.int (g'.p : Int)) = decide (g = g') := by
      rw [Bool.eq_iff_iff]
      simp only [decide_eq_true_eq, V.int.injEq]
      exact ⟨fun h => Gd.p_inj (by omega), fun h => by rw [h]⟩
    rw [e]
    exact q
/-! ### ground.number(n) -/
def spGNum (K : PySem.W.Frag) : Sp := fun vs H Q _ => ∃ (a : Addr) (g : Gd) (n : Int), vs = [.ref a, .int n, .int 1] ∧ GAt K H a g ∧ ∀ H' p, Same H H' → NAt K H' p g (ofI g n) → Q (.ref p) H'
theorem scGNum : FnScope ["self", "n", "d"] ["self", "n", "d"] (defScope sGNum) := ⟨rfl, rfl, rfl, by decide +kernel, rfl, by decide +kernel, by decide +kernel⟩
theorem ok_GNum {f : Addr} {fd : FuncData} (T : Txt K mg) (F : FnP K dGNum f fd) (GQ : CFn P w K mg base CX0 1 "Ratio" (cQ K) ["self", "n", "d"] [] (spRInit K)) (GM : GZ P w K mg base)
    (MO : MFn P w K mg base CX0 6 (cZ K) "over" ["self", "other"] [] (spZOv K)) : FnOk P w K mg base CX0 7 f fd ["self", "n", "d"] (spGNum K) := by
  refine okN F scGNum (fun vs H Q E h => ?_) (fun cdv A outer s H vs Q E hr h => ?_)
  · obtain ⟨a, g, n, rfl, _⟩ := h
    rfl
  · obtain ⟨a, g, n, rfl, ⟨da, ha⟩, q⟩ := h
    refine ⟨_, pss_cons (ps_if (pt_cmpR op_eq (pe_fld (pv 0) rfl) pe_int (nomark _)) (pss_one (ps_ret (pe_c GQ (hr.mono (by decide)) pass0 (pa_cons (pv 1) (pa_cons (pv 2) pa_nil))))) pss_nil)
      (pss_cons (ps_if (pt_cmpR op_eq (pe_op op_mod (pv 2) (pe_fld (pv 0) rfl)) pe_int (nomark _)) (pss_one ps_never) pss_nil)
      (pss_one (ps_ret (pe_m (pe_c GM (hr.mono (by decide)) pass0 (pa_cons (pe_fld (pv 0) rfl) (pa_cons (pv 1) pa_nil))) T.oZ.cl MO hr pass0 (pa_cons (pe_c GM (hr.mono (by decide)) pass0 (pa_cons (pe_fld (pv 0) rfl) (pa_cons (pv 2) pa_nil))) pa_nil))))), ?_⟩
    refine ⟨_, rfl, a, cG K, da, _, _, rfl, ha, T.oG.cl, T.nGp, gf_p _, rfl, _, rfl, ?_⟩
    by_cases hg : g.p = 0
    · have hgq : g = .q := by cases g <;> first | rfl | cases hg
      subst hgq
      refine if_t (decide_eq_true rfl) ?_
      refine ⟨_, rfl, _, rfl, ?_⟩
      exact mk_ratio (by decide) (by show 1 < 2 ^ 9000; exact Nat.one_lt_two_pow (by decide)) (int_div n) q
    · have hP := g.isP hg
      refine if_f (decide_eq_false fun z => hg (by injection z with z; exact Int.natCast_eq_zero.mp z)) ?_
      refine ⟨_, rfl, _, rfl, a, cG K, da, _, _, rfl, ha, T.oG.cl, T.nGp, gf_p _, _, _, rfl, rfl, hP.pos.1, rfl, _, rfl, ?_⟩
      have h1 : (1 : Int) % (g.p : Int) ≠ 0 := by rcases hP with h | h | h | h <;> rw [h] <;> decide
      refine if_f (decide_eq_false fun z => h1 (by injection z)) ?_
      refine ⟨_, rfl, a, cG K, da, _, _, rfl, ha, T.oG.cl, T.nGp, gf_p _, _, rfl, ?_⟩
      intro r dr nx nd ne
      refine ⟨r, dr, _, _, rfl, upd_same, hP, rfl, ?_⟩
      obtain ⟨s1, hz⟩ := made_z (K := K) (p := g.p) (n := n % g.p) nx nd
      revert s1 hz
      generalize upd (upd (upd H dr (.own r)) r (.ins (cZ K) dr [])) r (.ins (cZ K) dr (zf g.p (n % g.p))) = H1
      intro s1 hz
      obtain ⟨dr, hz'⟩ := id hz
      refine ⟨r, dr, _, rfl, hz', zf_no _ _ (by decide +kernel) (by decide +kernel), ?_⟩
      refine ⟨_, rfl, a, cG K, da, _, _, rfl, s1 _ _ ha, T.oG.cl, T.nGp, gf_p _, _, rfl, ?_⟩
      intro t dt nx nd ne
      refine ⟨t, dt, _, _, rfl, upd_same, hP, rfl, ?_⟩
      obtain ⟨s2, ht⟩ := made_z (K := K) (p := g.p) (n := 1 % g.p) nx nd
      revert s2 ht
      generalize upd (upd (upd H1 dt (.own t)) t (.ins (cZ K) dt [])) t (.ins (cZ K) dt (zf g.p (1 % g.p))) = H2
      intro s2 ht
      have b1 := Int.emod_nonneg n hP.pos.2.2.1
      have b2 := Int.emod_lt_of_pos n hP.pos.1
      have b3 := Int.emod_nonneg 1 hP.pos.2.2.1
      have b4 := Int.emod_lt_of_pos 1 hP.pos.1
      refine ⟨r, t, _, _, _, rfl, hP, b1, b2, b3, b4, h1, hz.same s2, ht, fun H3 u s3 hu => ?_⟩
      rw [ofZ hP] at hu
      exact q H3 u ((s1.trans s2).trans s3) (NAt.ofZ n hg hu)
end
end K9

namespace K9
open PySem PySem.Spec PyProof.Rows L2
section
variable {P : Program} {w : World} {K : PySem.W.Frag} {mg : Str → Option Value} {base : Heap}
/-- zero(), one() -/
def spGC (K : PySem.W.Frag) (z : (g : Gd) → El g) : Sp := fun vs H Q _ => ∃ (a : Addr) (g : Gd), vs = [.ref a] ∧ GAt K H a g ∧ ∀ H' p, Same H H' → NAt K H' p g (z g) → Q (.ref p) H'
abbrev MNum (P : Program) (w : World) (K : PySem.W.Frag) (mg : Str → Option Value) (base : Heap) : Prop := MFn P w K mg base CX0 7 (cG K) "number" ["self", "n", "d"] [.int 1] (spGNum K)
theorem scGZero : FnScope ["self"] ["self"] (defScope sGZero) := ⟨rfl, rfl, rfl, by decide +kernel, rfl, by decide +kernel, by decide +kernel⟩
theorem ok_GZero {f : Addr} {fd : FuncData} (T : Txt K mg) (F : FnP K dGZero f fd) (MN : MNum P w K mg base) : FnOk P w K mg base CX0 8 f fd ["self"] (spGC K fun _ => 0) := by
  refine okN F scGZero (fun vs H Q E h => ?_) (fun cdv A outer s H vs Q E hr h => ?_)
  · obtain ⟨a, g, rfl, _⟩ := h
    rfl
  · obtain ⟨a, g, rfl, ⟨da, ha⟩, q⟩ := h
    refine ⟨_, pss_one (ps_ret (pe_m (pv 0) T.oG.cl MN hr pass0 (pa_cons pe_int pa_nil))), ?_⟩
    refine ⟨_, rfl, a, da, _, rfl, ha, gf_no _ (by decide +kernel), a, g, 0, rfl, ⟨da, ha⟩, fun H' p s1 hz => ?_⟩
    rw [ofI_zero] at hz
    exact q H' p s1 hz
theorem scGOne : FnScope ["self"] ["self"] (defScope sGOne) := ⟨rfl, rfl, rfl, by decide +kernel, rfl, by decide +kernel, by decide +kernel⟩
theorem ok_GOne {f : Addr} {fd : FuncData} (T : Txt K mg) (F : FnP K dGOne f fd) (MN : MNum P w K mg base) : FnOk P w K mg base CX0 8 f fd ["self"] (spGC K fun _ => 1) := by
  refine okN F scGOne (fun vs H Q E h => ?_) (fun cdv A outer s H vs Q E hr h => ?_)
  · obtain ⟨a, g, rfl, _⟩ := h
    rfl
  · obtain ⟨a, g, rfl, ⟨da, ha⟩, q⟩ := h
    refine ⟨_, pss_one (ps_ret (pe_m (pv 0) T.oG.cl MN hr pass0 (pa_cons pe_int pa_nil))), ?_⟩
    refine ⟨_, rfl, a, da, _, rfl, ha, gf_no _ (by decide +kernel), a, g, 1, rfl, ⟨da, ha⟩, fun H' p s1 hz => ?_⟩
    rw [ofI_one] at hz
    exact q H' p s1 hz
/-- is_member(value) of a number of the ground -/
def spGMem (K : PySem.W.Frag) : Sp := fun vs H Q _ => ∃ (a b : Addr) (g : Gd) (x : El g), vs = [.ref a, .ref b] ∧ GAt K H a g ∧ NAt K H b g x ∧ Q (.bl true) H
theorem scGMem : FnScope ["self", "value"] ["self", "value"] (defScope sGMem) := ⟨rfl, rfl, rfl, by decide +kernel, rfl, by decide +kernel, by decide +kernel⟩
theorem ok_GMem {f : Addr} {fd : FuncData} (T : Txt K mg) (F : FnP K dGMem f fd) : FnOk P w K mg base CX0 1 f fd ["self", "value"] (spGMem K) := by
  refine okN F scGMem (fun vs H Q E h => ?_) (fun cdv A outer s H vs Q E hr h => ?_)
  · obtain ⟨a, b, g, x, rfl, _⟩ := h
    rfl
  · obtain ⟨a, b, g, x, rfl, ⟨da, ha⟩, hx, q⟩ := h
    refine ⟨_, pss_cons (ps_if (pt_cmpR op_eq (pe_fld (pv 0) rfl) pe_int (nomark _)) (pss_one (ps_ret (pe_callB call_isi (by rfl) T.b_isinstance (by decide +kernel) (pa_cons (pv 1) (pa_cons (pe_own T.gQ) pa_nil))))) pss_nil)
      (pss_one (ps_ret (pe_and (pe_callB call_isi (by rfl) T.b_isinstance (by decide +kernel) (pa_cons (pv 1) (pa_cons (pe_own T.gZ) pa_nil))) (pe_one (pe_cmpR op_eq (pe_fld (pv 1) rfl) (pe_fld (pv 0) rfl) (nomark _)))))), ?_⟩
    refine ⟨_, rfl, a, cG K, da, _, _, rfl, ha, T.oG.cl, T.nGp, gf_p _, rfl, _, rfl, ?_⟩
    by_cases hg : g.p = 0
    · obtain ⟨db, fs, hb⟩ := hx.rat hg
      refine if_t (decide_eq_true (by rw [hg] <;> rfl)) ?_
      exact ⟨_, rfl, _, _, _, _, true, rfl, .own _, T.oQ.ty hb, kit_self, q⟩
    · obtain ⟨n, h0, h1, db, hb⟩ := hx.resid hg
      refine if_f (decide_eq_false fun z => hg (by injection z with z; exact Int.natCast_eq_zero.mp z)) ?_
      refine ⟨_, rfl, _, _, _, _, true, rfl, .own _, T.oZ.ty hb, kit_self, true, rfl, iteT ?_⟩
      refine ⟨_, rfl, b, cZ K, db, _, _, rfl, hb, T.oZ.cl, T.nZp, zf_p _ _, _, rfl, a, cG K, da, _, _, rfl, ha, T.oG.cl, T.nGp, gf_p _, rfl, ?_⟩
      rw [decide_eq_true rfl]
      exact q
/-- an int, or a number of the ground -/
def ItV (K : PySem.W.Frag) (H : Hp) (g : Gd) (v : V) (x : El g) : Prop := (∃ n, v = .int n ∧ x = ofI g n) ∨ NV K H g v x
theorem ItV.same {H H' : Hp} {g : Gd} {v : V} {x : El g} (h : ItV K H g v x) (s : Same H H') : ItV K H' g v x := h.elim .inl fun n => .inr (n.same s)
def spTaken (K : PySem.W.Frag) : Sp := fun vs H Q _ => ∃ (a : Addr) (v : V) (g : Gd) (x : El g), vs = [.ref a, v] ∧ GAt K H a g ∧ ItV K H g v x ∧ ∀ H' p, Same H H' → NAt K H' p g x → Q (.ref p) H'
theorem scTaken : FnScope ["ground", "item"] ["ground", "item"] (defScope sTaken) := ⟨rfl, rfl, rfl, by decide +kernel, rfl, by decide +kernel, by decide +kernel⟩
theorem ok_Taken {f : Addr} {fd : FuncData} (T : Txt K mg) (F : FnP K dTaken f fd) (GI : GFn P w K mg base CX0 1 "is_integer" ["value"] [] (spIsInt K)) (MN : MNum P w K mg base)
    (MM : MFn P w K mg base CX0 1 (cG K) "is_member" ["self", "value"] [] (spGMem K)) : FnOk P w K mg base CX0 8 f fd ["ground", "item"] (spTaken K) := by
  refine okN F scTaken (fun vs H Q E h => ?_) (fun cdv A outer s H vs Q E hr h => ?_)
  · obtain ⟨a, v, g, x, rfl, _⟩ := h
    rfl
  · obtain ⟨a, v, g, x, rfl, ⟨da, ha⟩, hx, q⟩ := h
    refine ⟨_, pss_cons (ps_if (pt_val (pe_g GI (hr.mono (by decide)) pass0 (pa_cons (pv 1) pa_nil))) (pss_one (ps_ret (pe_m (pv 0) T.oG.cl MN hr pass0 (pa_cons (pv 1) pa_nil)))) pss_nil)
      (pss_cons (ps_if (pt_val (pe_m (pv 0) T.oG.cl MM (hr.mono (by decide)) pass0 (pa_cons (pv 1) pa_nil))) (pss_one (ps_ret (pv 1))) pss_nil) (pss_one ps_never)), ?_⟩
    rcases hx with ⟨n, rfl, rfl⟩ | ⟨b, rfl, hb⟩
    · refine ⟨_, rfl, .inl ⟨n, rfl, true, rfl, iteT ?_⟩⟩
      exact ⟨_, rfl, a, da, _, rfl, ha, gf_no _ (by decide +kernel), _, rfl, a, g, n, rfl, ⟨da, ha⟩, q⟩
    · obtain ⟨C, dx, fs, hi, oc⟩ := hb.ins T
      refine ⟨_, rfl, .inr ⟨b, C, dx, fs, rfl, hi, oc, false, rfl, iteF ?_⟩⟩
      refine ⟨_, rfl, a, da, _, rfl, ha, gf_no _ (by decide +kernel), _, rfl, a, b, g, x, rfl, ⟨da, ha⟩, hb, true, rfl, iteT ?_⟩
      exact ⟨_, rfl, q H b (Same.refl H) hb⟩
/-! ### the operators on numbers of a ground -/
/-- the numbers' methods -/
structure NumM (P : Program) (w : World) (K : PySem.W.Frag) (mg : Str → Option Value) (base : Heap) : Prop where
  qAdd : MFn P w K mg base CX0 3 (cQ K) "__add__" ["self", "other"] [] (spQ2 K (· + ·))
  qSub : MFn P w K mg base CX0 3 (cQ K) "__sub__" ["self", "other"] [] (spQ2 K (· - ·))
  qMul : MFn P w K mg base CX0 3 (cQ K) "__mul__" ["self", "other"] [] (spQ2 K (· * ·))
  qNeg : MFn P w K mg base CX0 3 (cQ K) "__neg__" ["self"] [] (spQ1 K (fun _ => True) (- ·))
  qInv : MFn P w K mg base CX0 3 (cQ K) "inverse" ["self"] [] (spQ1 K (fun r => r ≠ 0) (·⁻¹))
  qZer : MFn P w K mg base CX0 1 (cQ K) "is_zero" ["self"] [] (spQZ K)
  qEq : MFn P w K mg base CX0 1 (cQ K) "__eq__" ["self", "other"] [] (spEq (eqQ K))
  zAdd : MFn P w K mg base CX0 5 (cZ K) "__add__" ["self", "other"] [] (spZ2 K (· + ·))
  zSub : MFn P w K mg base CX0 5 (cZ K) "__sub__" ["self", "other"] [] (spZ2 K (· - ·))
  zMul : MFn P w K mg base CX0 5 (cZ K) "__mul__" ["self", "other"] [] (spZ2 K (· * ·))
  zNeg : MFn P w K mg base CX0 5 (cZ K) "__neg__" ["self"] [] (spZ1 K (fun _ => True) (fun _ n => -n))
  zInv : MFn P w K mg base CX0 5 (cZ K) "inverse" ["self"] [] (spZ1 K (fun n => n ≠ 0) zinv)
  zZer : MFn P w K mg base CX0 1 (cZ K) "is_zero" ["self"] [] (spZZ K)
  zEq : MFn P w K mg base CX0 1 (cZ K) "__eq__" ["self", "other"] [] (spEq (eqZ K))
def rNum2 (K : PySem.W.Frag) (op : (g : Gd) → El g → El g → El g) : R2 := fun x y H Q => ∃ (g : Gd) (a b : El g), NV K H g x a ∧ NV K H g y b ∧ Fld.ok a ∧ Fld.ok b ∧ ∀ H' p, Same H H' → NAt K H' p g (op g a b) → Q (.ref p) H'
theorem v2a : ∀ a b : Fin 2, (((a + b : Fin 2)).val : Int) = ((a.val : Int) + b.val) % 2 := by decide
theorem v3a : ∀ a b : Fin 3, (((a + b : Fin 3)).val : Int) = ((a.val : Int) + b.val) % 3 := by decide
theorem v5a : ∀ a b : Fin 5, (((a + b : Fin 5)).val : Int) = ((a.val : Int) + b.val) % 5 := by decide
theorem v7a : ∀ a b : Fin 7, (((a + b : Fin 7)).val : Int) = ((a.val : Int) + b.val) % 7 := by decide
theorem v2s : ∀ a b : Fin 2, (((a - b : Fin 2)).val : Int) = ((a.val : Int) - b.val) % 2 := by decide
theorem v3s : ∀ a b : Fin 3, (((a - b : Fin 3)).val : Int) = ((a.val : Int) - b.val) % 3 := by decide
theorem v5s : ∀ a b : Fin 5, (((a - b : Fin 5)).val : Int) = ((a.val : Int) - b.val) % 5 := by decide
theorem v7s : ∀ a b : Fin 7, (((a - b : Fin 7)).val : Int) = ((a.val : Int) - b.val) % 7 := by decide
theorem v2m : ∀ a b : Fin 2, (((a * b : Fin 2)).val : Int) = ((a.val : Int) * b.val) % 2 := by decide
theorem v3m : ∀ a b : Fin 3, (((a * b : Fin 3)).val : Int) = ((a.val : Int) * b.val) % 3 := by decide
theorem v5m : ∀ a b : Fin 5, (((a * b : Fin 5)).val : Int) = ((a.val : Int) * b.val) % 5 := by decide
theorem v7m : ∀ a b : Fin 7, (((a * b : Fin 7)).val : Int) = ((a.val : Int) * b.val) % 7 := by decide
theorem v2n : ∀ a : Fin 2, (((-a : Fin 2)).val : Int) = (-(a.val : Int)) % 2 := by decide
theorem v3n : ∀ a : Fin 3, (((-a : Fin 3)).val : Int) = (-(a.val : Int)) % 3 := by decide
theorem v5n : ∀ a : Fin 5, (((-a : Fin 5)).val : Int) = (-(a.val : Int)) % 5 := by decide
theorem v7n : ∀ a : Fin 7, (((-a : Fin 7)).val : Int) = (-(a.val : Int)) % 7 := by decide
theorem v2i : ∀ a : Fin 2, a ≠ 0 → ((Fld.inv a : Fin 2).val : Int) = zinv 2 a.val % 2 := by decide
theorem v3i : ∀ a : Fin 3, a ≠ 0 → ((Fld.inv a : Fin 3).val : Int) = zinv 3 a.val % 3 := by decide
theorem v5i : ∀ a : Fin 5, a ≠ 0 → ((Fld.inv a : Fin 5).val : Int) = zinv 5 a.val % 5 := by decide
theorem v7i : ∀ a : Fin 7, a ≠ 0 → ((Fld.inv a : Fin 7).val : Int) = zinv 7 a.val % 7 := by decide
theorem fin_lt {n : Nat} (a : Fin n) : (0 : Int) ≤ (a.val : Int) ∧ (a.val : Int) < (n : Int) := by
  have := a.isLt
  omega
end
section
variable {X : Cx} {K' : PySem.W.Frag}
abbrev NumX (X : Cx) : Prop := NumM X.prog X.w X.K X.mg X.base
theorem op_num {op : Operator} {n : Str} {f : (g : Gd) → El g → El g → El g} {oq : Rat → Rat → Rat} {oz : Int → Int → Int} (T : Txt X.K X.mg) (hr : Room 5 X.A) (hn : PySem.dunder op.info.2 = n)
    (MQ : MFn X.prog X.w X.K X.mg X.base CX0 3 (cQ X.K) n ["self", "other"] [] (spQ2 X.K oq)) (MZ : MFn X.prog X.w X.K X.mg X.base CX0 5 (cZ X.K) n ["self", "other"] [] (spZ2 X.K oz))
    (eq : ∀ a b : Rat, oq a b = f .q a b) (e2 : ∀ a b : Fin 2, oz a.val b.val % 2 = ((show Fin 2 from f .p2 a b).val : Int)) (e3 : ∀ a b : Fin 3, oz a.val b.val % 3 = ((show Fin 3 from f .p3 a b).val : Int))
    (e5 : ∀ a b : Fin 5, oz a.val b.val % 5 = ((show Fin 5 from f .p5 a b).val : Int)) (e7 : ∀ a b : Fin 7, oz a.val b.val % 7 = ((show Fin 7 from f .p7 a b).val : Int)) : OpR X (binaryOp op) (rNum2 X.K f) := by
  intro pins s σ H x y v u Q I rx ry h
  obtain ⟨g, a, b, ⟨pa, rfl, ha⟩, ⟨pb, rfl, hb⟩, ka, kb, q⟩ := h
  have OQ := op_mB (E := E0) T.oQ MQ hn (hr.mono (by decide)) pass0
  have OZ := op_mB (E := E0) T.oZ MZ hn hr pass0
  cases g with
  | q =>
    obtain ⟨da, ha'⟩ := id ha
    obtain ⟨db, hb'⟩ := id hb
    exact OQ pins s σ H _ _ v u Q I rx ry ⟨pa, pb, da, db, _, _, rfl, rfl, ha', hb', pa, pb, a, b, rfl, ha, hb, ka, kb, fun H' p s1 hz => q H' p s1 (show QAt X.K H' p (f .q a b) from (eq a b) ▸ hz)⟩
  | p2 =>
    obtain ⟨da, ha'⟩ := id ha
    obtain ⟨db, hb'⟩ := id hb
    exact OZ pins s σ H _ _ v u Q I rx ry ⟨pa, pb, da, db, _, _, rfl, rfl, ha', hb', pa, pb, 2, _, _, rfl, .inl rfl, (fin_lt (show Fin 2 from a)).1, (fin_lt (show Fin 2 from a)).2, ha, hb, fun H' p s1 hz => q H' p s1 (by rw [e2] at hz; exact hz)⟩
  | p3 =>
    obtain ⟨da, ha'⟩ := id ha
    obtain ⟨db, hb'⟩ := id hb
    exact OZ pins s σ H _ _ v u Q I rx ry ⟨pa, pb, da, db, _, _, rfl, rfl, ha', hb', pa, pb, 3, _, _, rfl, .inr (.inl rfl), (fin_lt (show Fin 3 from a)).1, (fin_lt (show Fin 3 from a)).2, ha, hb, fun H' p s1 hz => q H' p s1 (by rw [e3] at hz; exact hz)⟩
  | p5 =>
    obtain ⟨da, ha'⟩ := id ha
    obtain ⟨db, hb'⟩ := id hb
    exact OZ pins s σ H _ _ v u Q I rx ry ⟨pa, pb, da, db, _, _, rfl, rfl, ha', hb', pa, pb, 5, _, _, rfl, .inr (.inr (.inl rfl)), (fin_lt (show Fin 5 from a)).1, (fin_lt (show Fin 5 from a)).2, ha, hb, fun H' p s1 hz => q H' p s1 (by rw [e5] at hz; exact hz)⟩
  | p7 =>
    obtain ⟨da, ha'⟩ := id ha
    obtain ⟨db, hb'⟩ := id hb
    exact OZ pins s σ H _ _ v u Q I rx ry ⟨pa, pb, da, db, _, _, rfl, rfl, ha', hb', pa, pb, 7, _, _, rfl, .inr (.inr (.inr rfl)), (fin_lt (show Fin 7 from a)).1, (fin_lt (show Fin 7 from a)).2, ha, hb, fun H' p s1 hz => q H' p s1 (by rw [e7] at hz; exact hz)⟩
theorem op_nAdd (T : Txt X.K X.mg) (N : NumX X) (hr : Room 5 X.A) : OpR X (binaryOp .Add) (rNum2 X.K fun _ a b => a + b) :=
  op_num T hr rfl N.qAdd N.zAdd (fun _ _ => rfl) (fun a b => (v2a a b).symm) (fun a b => (v3a a b).symm) (fun a b => (v5a a b).symm) (fun a b => (v7a a b).symm)
theorem op_nSub (T : Txt X.K X.mg) (N : NumX X) (hr : Room 5 X.A) : OpR X (binaryOp .Sub) (rNum2 X.K fun _ a b => a - b) :=
  op_num T hr rfl N.qSub N.zSub (fun _ _ => rfl) (fun a b => (v2s a b).symm) (fun a b => (v3s a b).symm) (fun a b => (v5s a b).symm) (fun a b => (v7s a b).symm)
theorem op_nMul (T : Txt X.K X.mg) (N : NumX X) (hr : Room 5 X.A) : OpR X (binaryOp .Mult) (rNum2 X.K fun _ a b => a * b) :=
  op_num T hr rfl N.qMul N.zMul (fun _ _ => rfl) (fun a b => (v2m a b).symm) (fun a b => (v3m a b).symm) (fun a b => (v5m a b).symm) (fun a b => (v7m a b).symm)
end
end K9

namespace K9
open PySem PySem.Spec PyProof.Rows L2
theorem fin_z {n : Nat} (a z : Fin n) (hz : z.val = 0) (e : (a.val : Int) = 0) : a = z := Fin.ext (by omega)
section
variable {X : Cx} {o : Expr} {ta : TE} {m : Str} {k : Nat} {apos pos : Pos}
/-- o.m(), the class told by the value -/
def DynM (X : Cx) (k : Nat) (m : Str) (x : V) (H : Hp) (Q : VK) : Prop := ∃ a C dx fs ps sp, x = .ref a ∧ H a = some (.ins C dx fs) ∧ fs.lookup m = none ∧ Cls X.K C ∧ MFn X.prog X.w X.K X.mg X.base CX0 k C m ps [] sp ∧ sp [x] H Q E0
theorem pe_mR {pl : Sem Bool} {r : V → Hp → VK → Prop} (he : PE X o ta) (hr : Room k X.A) (conv : ∀ x H Q, r x H Q → DynM X k m x H Q)
    (ht : eval (.Call (.Attribute o m apos) [] [] pos) X.env = (do
      let ov ← eval o X.env
      standAt apos.atName
      let (f, first) ← holding [ov] (getMethod ov m pl)
      callWith pos f first (backTo pos (starEach [] X.env)) (backToKw pos (keywordEach [] X.env))) := by rfl) :
    PE X (.Call (.Attribute o m apos) [] [] pos) (fun σ H Q => ta σ H fun x H1 => r x H1 Q) := by
  refine ⟨fun pins s σ H Q I h => ?_⟩
  refine PySem.W.methodCall_KW (pl := pl) (thn (he.run pins s σ H _ I h) fun u s1 ⟨x, H1, I1, rx, q0⟩ => ?_) ht
  obtain ⟨a, C, dx, fs, ps, sp, ex, ea, l, c, M, q⟩ := conv x H1 _ q0
  obtain ⟨f, ⟨fd, ds, F, hd, hb⟩, hm⟩ := M.ex
  cases hd
  subst ex
  obtain rfl : u = Value.ref a := rx
  refine getmeth_ok I1 ea c hm l ?_
  exact PySem.W.callWith_K0 (first := [.ref a]) I1.kIn hm.kp (run_fn (us := [.ref a]) (vs := [.ref a]) F hr hb .nil pass0 I1 (.cons rfl .nil) q)
/-- x.inverse() -/
def rNumInv (K : PySem.W.Frag) : V → Hp → VK → Prop := fun x H Q => ∃ (g : Gd) (a : El g), NV K H g x a ∧ Fld.ok a ∧ a ≠ 0 ∧ ∀ H' p, Same H H' → NAt K H' p g (Fld.inv a) → Q (.ref p) H'
theorem conv_inv (T : Txt X.K X.mg) (N : NumX X) {x : V} {H : Hp} {Q : VK} (h : rNumInv X.K x H Q) : DynM X 5 "inverse" x H Q := by
  obtain ⟨g, a, ⟨pa, rfl, ha⟩, ka, hz, q⟩ := h
  have MQ : MFn X.prog X.w X.K X.mg X.base CX0 5 (cQ X.K) "inverse" ["self"] [] (spQ1 X.K (fun r => r ≠ 0) (·⁻¹)) := by
    obtain ⟨f, ⟨fd, ds, F, hd, hb⟩, hm⟩ := N.qInv.ex
    exact ⟨f, ⟨fd, ds, F.mono (by decide), hd, hb⟩, hm⟩
  cases g with
  | q =>
    obtain ⟨da, ha'⟩ := id ha
    exact ⟨pa, _, da, _, _, _, rfl, ha', qf_no _ _ (by decide +kernel) (by decide +kernel), T.oQ.cl, MQ, pa, a, rfl, ha, ka, hz, q⟩
  | p2 =>
    obtain ⟨da, ha'⟩ := id ha
    exact ⟨pa, _, da, _, _, _, rfl, ha', zf_no _ _ (by decide +kernel) (by decide +kernel), T.oZ.cl, N.zInv, pa, 2, _, rfl, .inl rfl, (fin_lt (show Fin 2 from a)).1, (fin_lt (show Fin 2 from a)).2, fun e => hz (fin_z (show Fin 2 from a) 0 rfl e), ha, fun H' p s1 hv => q H' p s1 (by rw [← v2i (show Fin 2 from a) hz] at hv; exact hv)⟩
  | p3 =>
    obtain ⟨da, ha'⟩ := id ha
    exact ⟨pa, _, da, _, _, _, rfl, ha', zf_no _ _ (by decide +kernel) (by decide +kernel), T.oZ.cl, N.zInv, pa, 3, _, rfl, .inr (.inl rfl), (fin_lt (show Fin 3 from a)).1, (fin_lt (show Fin 3 from a)).2, fun e => hz (fin_z (show Fin 3 from a) 0 rfl e), ha, fun H' p s1 hv => q H' p s1 (by rw [← v3i (show Fin 3 from a) hz] at hv; exact hv)⟩
  | p5 =>
    obtain ⟨da, ha'⟩ := id ha
    exact ⟨pa, _, da, _, _, _, rfl, ha', zf_no _ _ (by decide +kernel) (by decide +kernel), T.oZ.cl, N.zInv, pa, 5, _, rfl, .inr (.inr (.inl rfl)), (fin_lt (show Fin 5 from a)).1, (fin_lt (show Fin 5 from a)).2, fun e => hz (fin_z (show Fin 5 from a) 0 rfl e), ha, fun H' p s1 hv => q H' p s1 (by rw [← v5i (show Fin 5 from a) hz] at hv; exact hv)⟩
  | p7 =>
    obtain ⟨da, ha'⟩ := id ha
    exact ⟨pa, _, da, _, _, _, rfl, ha', zf_no _ _ (by decide +kernel) (by decide +kernel), T.oZ.cl, N.zInv, pa, 7, _, rfl, .inr (.inr (.inr rfl)), (fin_lt (show Fin 7 from a)).1, (fin_lt (show Fin 7 from a)).2, fun e => hz (fin_z (show Fin 7 from a) 0 rfl e), ha, fun H' p s1 hv => q H' p s1 (by rw [← v7i (show Fin 7 from a) hz] at hv; exact hv)⟩
/-- x.is_zero() -/
def rNumZer (K : PySem.W.Frag) : V → Hp → VK → Prop := fun x H Q => ∃ (g : Gd) (a : El g), NV K H g x a ∧ Q (.bl (decide (a = 0))) H
theorem dec_fin {n : Nat} {a z : Fin n} (hz : z.val = 0) : decide ((a.val : Int) = 0) = decide (a = z) := by
  rw [Bool.eq_iff_iff]
  simp only [decide_eq_true_eq]
  exact ⟨fun h => Fin.ext (by omega), fun h => by rw [h]; omega⟩
theorem conv_zer (T : Txt X.K X.mg) (N : NumX X) {x : V} {H : Hp} {Q : VK} (h : rNumZer X.K x H Q) : DynM X 1 "is_zero" x H Q := by
  obtain ⟨g, a, ⟨pa, rfl, ha⟩, q⟩ := h
  cases g with
  | q =>
    obtain ⟨da, ha'⟩ := id ha
    have e : decide ((a : El .q) = 0) = decide ((show Rat from a) = 0) := by congr
    exact ⟨pa, _, da, _, _, _, rfl, ha', qf_no _ _ (by decide +kernel) (by decide +kernel), T.oQ.cl, N.qZer, pa, a, rfl, ha, by rw [e] at q; exact q⟩
  | p2 =>
    obtain ⟨da, ha'⟩ := id ha
    exact ⟨pa, _, da, _, _, _, rfl, ha', zf_no _ _ (by decide +kernel) (by decide +kernel), T.oZ.cl, N.zZer, pa, 2, _, rfl, ha, by rw [dec_fin (a := (show Fin 2 from a)) (z := 0) rfl]; exact (show decide ((a : El .p2) = 0) = decide ((show Fin 2 from a) = 0) by congr) ▸ q⟩
  | p3 =>
    obtain ⟨da, ha'⟩ := id ha
    exact ⟨pa, _, da, _, _, _, rfl, ha', zf_no _ _ (by decide +kernel) (by decide +kernel), T.oZ.cl, N.zZer, pa, 3, _, rfl, ha, by rw [dec_fin (a := (show Fin 3 from a)) (z := 0) rfl]; exact (show decide ((a : El .p3) = 0) = decide ((show Fin 3 from a) = 0) by congr) ▸ q⟩
  | p5 =>
    obtain ⟨da, ha'⟩ := id ha
    exact ⟨pa, _, da, _, _, _, rfl, ha', zf_no _ _ (by decide +kernel) (by decide +kernel), T.oZ.cl, N.zZer, pa, 5, _, rfl, ha, by rw [dec_fin (a := (show Fin 5 from a)) (z := 0) rfl]; exact (show decide ((a : El .p5) = 0) = decide ((show Fin 5 from a) = 0) by congr) ▸ q⟩
  | p7 =>
    obtain ⟨da, ha'⟩ := id ha
    exact ⟨pa, _, da, _, _, _, rfl, ha', zf_no _ _ (by decide +kernel) (by decide +kernel), T.oZ.cl, N.zZer, pa, 7, _, rfl, ha, by rw [dec_fin (a := (show Fin 7 from a)) (z := 0) rfl]; exact (show decide ((a : El .p7) = 0) = decide ((show Fin 7 from a) = 0) by congr) ▸ q⟩
/-- -x -/
def rNumNeg (K : PySem.W.Frag) : V → Hp → VK → Prop := fun x H Q => ∃ (g : Gd) (a : El g), NV K H g x a ∧ Fld.ok a ∧ ∀ H' p, Same H H' → NAt K H' p g (-a) → Q (.ref p) H'
theorem un_nNeg (T : Txt X.K X.mg) (N : NumX X) (hr : Room 5 X.A) : UnR X (unaryOp .USub) (rNumNeg X.K) := by
  intro pins s σ H x v Q I rx h
  obtain ⟨g, a, ⟨pa, rfl, ha⟩, ka, q⟩ := h
  have OQ := un_mN (E := E0) N.qNeg (hr.mono (by decide)) pass0
  have OZ := un_mN (E := E0) N.zNeg hr pass0
  cases g with
  | q =>
    obtain ⟨da, ha'⟩ := id ha
    exact OQ pins s σ H _ v Q I rx ⟨pa, da, _, rfl, ha', pa, a, rfl, ha, ka, trivial, q⟩
  | p2 =>
    obtain ⟨da, ha'⟩ := id ha
    exact OZ pins s σ H _ v Q I rx ⟨pa, da, _, rfl, ha', pa, 2, _, rfl, .inl rfl, (fin_lt (show Fin 2 from a)).1, (fin_lt (show Fin 2 from a)).2, trivial, ha, fun H' p s1 hz => q H' p s1 (by rw [← v2n] at hz; exact hz)⟩
  | p3 =>
    obtain ⟨da, ha'⟩ := id ha
    exact OZ pins s σ H _ v Q I rx ⟨pa, da, _, rfl, ha', pa, 3, _, rfl, .inr (.inl rfl), (fin_lt (show Fin 3 from a)).1, (fin_lt (show Fin 3 from a)).2, trivial, ha, fun H' p s1 hz => q H' p s1 (by rw [← v3n] at hz; exact hz)⟩
  | p5 =>
    obtain ⟨da, ha'⟩ := id ha
    exact OZ pins s σ H _ v Q I rx ⟨pa, da, _, rfl, ha', pa, 5, _, rfl, .inr (.inr (.inl rfl)), (fin_lt (show Fin 5 from a)).1, (fin_lt (show Fin 5 from a)).2, trivial, ha, fun H' p s1 hz => q H' p s1 (by rw [← v5n] at hz; exact hz)⟩
  | p7 =>
    obtain ⟨da, ha'⟩ := id ha
    exact OZ pins s σ H _ v Q I rx ⟨pa, da, _, rfl, ha', pa, 7, _, rfl, .inr (.inr (.inr rfl)), (fin_lt (show Fin 7 from a)).1, (fin_lt (show Fin 7 from a)).2, trivial, ha, fun H' p s1 hz => q H' p s1 (by rw [← v7n] at hz; exact hz)⟩
/-- == of equal numbers, of rows of equal numbers; != of equal numbers -/
def DNum (K : PySem.W.Frag) : Eqv := fun x y H => DIns (cQ K) (eqQ K) x y H ∨ DIns (cZ K) (eqZ K) x y H
theorem mon_num {K : PySem.W.Frag} : Mon (DNum K) := Mon.or (mon_ins fun a b H H' e h => let ⟨r, h1, h2⟩ := h; ⟨r, h1.same e, h2.same e⟩) (mon_ins fun a b H H' e h => let ⟨p, n, h1, h2⟩ := h; ⟨p, n, h1.same e, h2.same e⟩)
theorem eqG_num (N : NumX X) : EqG X 1 (DNum X.K) := by
  obtain ⟨f, ⟨fd, ds, F, hd, hb⟩, hm⟩ := N.qEq.ex
  obtain ⟨f', ⟨fd', ds', F', hd', hb'⟩, hm'⟩ := N.zEq.ex
  cases hd
  cases hd'
  exact EqG.or (eqG_ins (E := E0) F hm.at_ hm.fn hb pass0) (eqG_ins (E := E0) F' hm'.at_ hm'.fn hb' pass0)
theorem dnum {K : PySem.W.Frag} {H : Hp} {g : Gd} {v u : V} {x : El g} (hv : NV K H g v x) (hu : NV K H g u x) : DNum K v u H := by
  obtain ⟨a, rfl, ha⟩ := hv
  obtain ⟨b, rfl, hb⟩ := hu
  cases g with
  | q =>
    obtain ⟨da, ha'⟩ := id ha
    obtain ⟨db, hb'⟩ := id hb
    exact .inl ⟨a, b, da, db, _, _, rfl, rfl, ha', hb', x, ha, hb⟩
  | p2 =>
    obtain ⟨da, ha'⟩ := id ha
    obtain ⟨db, hb'⟩ := id hb
    exact .inr ⟨a, b, da, db, _, _, rfl, rfl, ha', hb', _, _, ha, hb⟩
  | p3 =>
    obtain ⟨da, ha'⟩ := id ha
    obtain ⟨db, hb'⟩ := id hb
    exact .inr ⟨a, b, da, db, _, _, rfl, rfl, ha', hb', _, _, ha, hb⟩
  | p5 =>
    obtain ⟨da, ha'⟩ := id ha
    obtain ⟨db, hb'⟩ := id hb
    exact .inr ⟨a, b, da, db, _, _, rfl, rfl, ha', hb', _, _, ha, hb⟩
  | p7 =>
    obtain ⟨da, ha'⟩ := id ha
    obtain ⟨db, hb'⟩ := id hb
    exact .inr ⟨a, b, da, db, _, _, rfl, rfl, ha', hb', _, _, ha, hb⟩
theorem drow {K : PySem.W.Frag} {H : Hp} {g : Gd} : ∀ {vs us : List V} {xs : List (El g)}, NsV K H g vs xs → NsV K H g us xs → Prs (DNum K) vs us H
  | _, _, _, .nil, .nil => Prs.nil
  | _, _, _, .cons r t, .cons r' t' => Prs.cons (dnum r r') (drow t t')
def rRowEq (K : PySem.W.Frag) : R2 := fun x y H Q => ∃ (a b : Addr) (g : Gd) (xs : List (El g)), x = .ref a ∧ y = .ref b ∧ TAt K H a g xs ∧ TAt K H b g xs ∧ ∀ H', Same H H' → Q (.bl true) H'
theorem op_rowEq (N : NumX X) (hr : Room 2 X.A) : OpR X (compareOp .Eq) (rRowEq X.K) := by
  intro pins s σ H x y v u Q I rx ry h
  obtain ⟨a, b, g, xs, rfl, rfl, ⟨vs, ha, hv⟩, ⟨us, hb, hu⟩, q⟩ := h
  exact op_eqG (rcG_tup mon_num (eqG_num N)) hr pins s σ H _ _ v u Q I rx ry ⟨⟨a, b, vs, us, rfl, rfl, SqT.of ha, SqT.of hb, drow hv hu⟩, q⟩
def rNumNe (K : PySem.W.Frag) : R2 := fun x y H Q => ∃ (g : Gd) (a : El g), NV K H g x a ∧ NV K H g y a ∧ ∀ H', Same H H' → Q (.bl false) H'
theorem op_nNe (T : Txt X.K X.mg) (N : NumX X) (hr : Room 2 X.A) : OpR X (compareOp .NotEq) (rNumNe X.K) := by
  intro pins s σ H x y v u Q I rx ry h
  obtain ⟨g, a, hx, hy, q⟩ := h
  rcases dnum hx hy with ⟨a, b, dx, dy, fs, gs, rfl, rfl, h1, h2, r⟩ | ⟨a, b, dx, dy, fs, gs, rfl, rfl, h1, h2, r⟩
  · exact op_mNe (E := E0) T.oQ N.qEq hr pass0 pins s σ H _ _ v u Q I rx ry ⟨a, b, dx, dy, fs, gs, rfl, rfl, h1, h2, a, b, rfl, r, fun H' e => ⟨true, rfl, q H' e⟩⟩
  · exact op_mNe (E := E0) T.oZ N.zEq hr pass0 pins s σ H _ _ v u Q I rx ry ⟨a, b, dx, dy, fs, gs, rfl, rfl, h1, h2, a, b, rfl, r, fun H' e => ⟨true, rfl, q H' e⟩⟩
end
end K9

namespace K9
open PySem PySem.Spec PyProof.Rows L2
theorem cut_take (vs : List V) (n : Nat) : cutV vs none (some (n : Int)) = vs.take n := by
  unfold cutV
  rw [HT.sIx_none, HT.sIx_nat, List.drop_zero, Nat.sub_zero]
  by_cases h : n ≤ vs.length
  · rw [Nat.min_eq_left h]
  · rw [Nat.min_eq_right (by omega), List.take_length, List.take_of_length_le (by omega)]
section
variable {P : Program} {w : World} {K : PySem.W.Frag} {mg : Str → Option Value} {base : Heap}
abbrev NumP (P : Program) (w : World) (K : PySem.W.Frag) (mg : Str → Option Value) (base : Heap) : Prop := NumM P w K mg base
def spTrim (K : PySem.W.Frag) : Sp := fun vs H Q _ => ∃ (t : Addr) (g : Gd) (xs : List (El g)), vs = [.ref t] ∧ LAt K H t g xs ∧ xs.length ≤ 1000 ∧ ∀ H' p, Same H H' → TAt K H' p g (trim xs) → Q (.ref p) H'
theorem scTrim : FnScope ["row", "size"] ["row"] (defScope sTrim) := ⟨rfl, rfl, rfl, by decide +kernel, rfl, by decide +kernel, by decide +kernel⟩
theorem ok_Trim {f : Addr} {fd : FuncData} (T : Txt K mg) (N : NumP P w K mg base) (F : FnP K dTrim f fd) : FnOk P w K mg base CX0 2 f fd ["row"] (spTrim K) := by
  refine okN F scTrim (fun vs H Q E h => ?_) (fun cdv A outer s H vs Q E hr h => ?_)
  · obtain ⟨t, g, xs, rfl, _⟩ := h
    rfl
  · obtain ⟨t, g, xs, rfl, ⟨us, ht, hu⟩, hl, q⟩ := h
    have hlen := pr_len hu
    refine ⟨_, pss_cons (ps_set (i := 1) scTrim.nd rfl (Or.inl rfl) (pe_callB call_len_seq (by rfl) T.b_len PySem.boot_len (pa_cons (pv 0) pa_nil)))
      (pss_cons (ps_while PassesOwn.never (PW.pt (pw_and (pt_cmpR op_gt (pv 1) pe_int (nomark _)) (pw_and1 (pt_val (pe_mR (r := rNumZer K) (pe_ix ix_list (pv 0) (pe_op op_sub (pv 1) pe_int) (fun _ _ => rfl)) hr (fun x H Q h => conv_zer T N h))))))
        (pss_one (ps_set (i := 1) scTrim.nd rfl (Or.inl rfl) (pe_op op_sub (pv 1) pe_int))))
      (pss_one (ps_ret (pe_callTy call_tuple_of (by rfl) T.b_tuple (by decide +kernel) (pa_cons (pe_slice sl_list (pv 0) po_none (po_some (pv 1))) pa_nil))))), ?_⟩
    refine ⟨_, rfl, t, us, rfl, .inl (SqL.of ht), ?_⟩
    refine ⟨fun m σ H' => H' = H ∧ σ = [some (.ref t), some (.int (m : Int))] ∧ m ≤ xs.length ∧ trim (xs.take m) = trim xs, ⟨us.length, rfl, rfl, by omega, by rw [hlen, List.take_length]⟩, ?_⟩
    rintro m σ H' ⟨rfl, rfl, hm, he⟩
    have hend : trim (xs.take m) = xs.take m → ∀ p, H' p = none → ∀ p', (upd H' p (.lst (us.take m))) p' = none → TAt K (upd (upd H' p (.lst (us.take m))) p' (.tup (us.take m))) p' g (trim xs) := fun e p hp p' hp' => by
      rw [← he, e]
      exact ⟨_, upd_same, NsV.same (pr_take m hu) ((same_upd hp).trans (same_upd hp'))⟩
    refine ⟨_, rfl, _, _, rfl, rfl, _, rfl, ?_⟩
    cases m with
    | zero =>
      refine if_f (by simp) ?_
      refine if_f (by simp) ?_
      refine ⟨_, rfl, ?_⟩
      refine ⟨_, rfl, _, rfl, t, us, rfl, SqL.of ht, fun p hp => ?_⟩
      rw [cut_take]
      refine ⟨p, _, rfl, .inl ⟨SqL.of upd_same, fun p' hp' => ?_⟩⟩
      exact q _ _ ((same_upd hp).trans (same_upd hp')) (hend rfl p hp p' hp')
    | succ k =>
      refine if_t (decide_eq_true (by omega)) ?_
      have hk : k < xs.length := hm
      have hx : xs[k]? = some xs[k] := List.getElem?_eq_getElem hk
      obtain ⟨v, hv, nv⟩ := pr_get hu hx
      refine ⟨_, rfl, _, rfl, _, _, rfl, rfl, t, us, _, v, rfl, rfl, SqL.of ht, ?_, g, xs[k], nv, _, rfl, ?_⟩
      · have e : ((k + 1 : Nat) : Int) - 1 = (k : Int) := by omega
        rw [e]
        exact atI_nat hv
      · rw [take_get hx] at he
        by_cases h0 : xs[k] = 0
        · refine if_t (decide_eq_true h0) ?_
          rw [h0, trim_snoc0] at he
          refine ⟨fun σ' H2 => H2 = H' ∧ σ' = [some (.ref t), some (.int (k : Int))] ∧ k ≤ xs.length ∧ trim (xs.take k) = trim xs, fun σ' H2 z => ⟨k, Nat.lt_succ_self _, z⟩, ?_⟩
          refine ⟨_, rfl, _, _, rfl, rfl, rfl, ?_, by omega, he⟩
          have e : ((k + 1 : Nat) : Int) - 1 = (k : Int) := by omega
          show [some (V.ref t), some (V.int (((k + 1 : Nat) : Int) - 1))] = _
          rw [e]
        · refine if_f (decide_eq_false h0) ?_
          refine ⟨_, rfl, _, rfl, ?_⟩
          refine ⟨_, rfl, t, us, rfl, SqL.of ht, fun p hp => ?_⟩
          rw [cut_take]
          refine ⟨p, _, rfl, .inl ⟨SqL.of upd_same, fun p' hp' => ?_⟩⟩
          refine q _ _ ((same_upd hp).trans (same_upd hp')) (hend ?_ p hp p' hp')
          rw [take_get hx]
          exact trim_snoc h0 _
end
end K9

namespace K9
open PySem PySem.Spec PyProof.Rows L2
section
variable {K : PySem.W.Frag} {g : Gd}
theorem NV.updL {H : Hp} {D : Addr} {acc acc' : List V} (hD : H D = some (.lst acc)) {v : V} {x : El g} (h : NV K H g v x) : NV K (upd H D (.lst acc')) g v x := by
  obtain ⟨a, rfl, n⟩ := h
  refine ⟨a, rfl, ?_⟩
  have k : ∀ C dx fs, H a = some (.ins C dx fs) → upd H D (.lst acc') a = some (.ins C dx fs) := fun C dx fs e => by
    rw [upd_ne (ne_of e hD (by intro z; cases z))]; exact e
  cases g with
  | q => obtain ⟨dx, e⟩ := n; exact ⟨dx, k _ _ _ e⟩
  | p2 => obtain ⟨dx, e⟩ := n; exact ⟨dx, k _ _ _ e⟩
  | p3 => obtain ⟨dx, e⟩ := n; exact ⟨dx, k _ _ _ e⟩
  | p5 => obtain ⟨dx, e⟩ := n; exact ⟨dx, k _ _ _ e⟩
  | p7 => obtain ⟨dx, e⟩ := n; exact ⟨dx, k _ _ _ e⟩
theorem NsV.updL {H : Hp} {D : Addr} {acc acc' : List V} (hD : H D = some (.lst acc)) {vs : List V} {xs : List (El g)} (h : NsV K H g vs xs) : NsV K (upd H D (.lst acc')) g vs xs := Paired.mapP h fun _ _ n => n.updL hD
/-- a list of numbers that grows at D, new since Hz: the first i of zs -/
structure LcI (K : PySem.W.Frag) (Hz : Hp) (D : Addr) (g : Gd) (zs : List (El g)) (i : Nat) (H : Hp) : Prop where
  new : Hz D = none
  same : Same Hz H
  acc : ∃ acc, H D = some (.lst acc) ∧ NsV K H g acc (zs.take i)
theorem LcI.start {Hz : Hp} {D : Addr} {zs : List (El g)} (h : Hz D = none) : LcI K Hz D g zs 0 (upd Hz D (.lst [])) := ⟨h, same_upd h, [], upd_same, .nil⟩
theorem LcI.step {Hz H H4 : Hp} {D p : Addr} {zs : List (El g)} {i : Nat} {z : El g} (c : LcI K Hz D g zs i H) (s : Same H H4) (hz : zs[i]? = some z) (hl : zs.length ≤ 1000) (n : NAt K H4 p g z) :
    ∃ acc, H4 D = some (.lst acc) ∧ acc.length < sizeLine ∧ LcI K Hz D g zs (i + 1) (upd H4 D (.lst (acc ++ [.ref p]))) := by
  obtain ⟨acc, hD, na⟩ := c.acc
  have hD4 := s _ _ hD
  refine ⟨acc, hD4, small1000 ?_, c.new, fun b o e => ?_, _, upd_same, ?_⟩
  · rw [pr_len na, List.length_take]; omega
  · rw [upd_ne (ne_of_none e c.new)]
    exact s _ _ (c.same _ _ e)
  · rw [take_get hz]
    exact pr_append ((na.same s).updL hD4) (.cons (NV.updL hD4 ⟨p, rfl, n⟩) .nil)
theorem LcI.done {Hz H : Hp} {D : Addr} {zs : List (El g)} (c : LcI K Hz D g zs zs.length H) : LAt K H D g zs := by
  obtain ⟨acc, hD, na⟩ := c.acc
  rw [List.take_length] at na
  exact ⟨acc, hD, na⟩
/-- a row as a tuple or a list -/
def SAt (K : PySem.W.Frag) (H : Hp) (t : Addr) (g : Gd) (xs : List (El g)) : Prop := ∃ vs, (H t = some (.lst vs) ∨ H t = some (.tup vs)) ∧ NsV K H g vs xs
theorem SAt.sq {H : Hp} {t : Addr} {vs : List V} (h : H t = some (.lst vs) ∨ H t = some (.tup vs)) : SqL K H t vs ∨ SqT K H t vs := h.elim (fun h => .inl (SqL.of h)) fun h => .inr (SqT.of h)
theorem TAt.s {H : Hp} {t : Addr} {xs : List (El g)} (h : TAt K H t g xs) : SAt K H t g xs := let ⟨vs, e, n⟩ := h; ⟨vs, .inr e, n⟩
theorem LAt.s {H : Hp} {t : Addr} {xs : List (El g)} (h : LAt K H t g xs) : SAt K H t g xs := let ⟨vs, e, n⟩ := h; ⟨vs, .inl e, n⟩
theorem rep_flat {α : Type} (a : α) : ∀ n, (List.replicate n [a]).flatten = List.replicate n a
  | 0 => rfl
  | n + 1 => by rw [List.replicate_succ, List.flatten_cons, rep_flat a n]; rfl
theorem max_len (m n : Nat) : (if ((n : Nat) : Int) > (m : Int) then (n : Int) else (m : Int)) = ((max m n : Nat) : Int) := by
  by_cases h : (n : Int) > (m : Int)
  · rw [if_pos h]; omega
  · rw [if_neg h]; omega
theorem padTo_len {x : List (El g)} {n : Nat} (h : x.length ≤ n) : (padTo x n).length = n := by
  unfold padTo
  rw [List.length_append, List.length_replicate]; omega
end
section
variable {P : Program} {w : World} {K : PySem.W.Frag} {mg : Str → Option Value} {base : Heap}
abbrev MZero (P : Program) (w : World) (K : PySem.W.Frag) (mg : Str → Option Value) (base : Heap) : Prop := MFn P w K mg base CX0 8 (cG K) "zero" ["self"] [] (spGC K fun _ => 0)
def spSum (K : PySem.W.Frag) : Sp := fun vs H Q _ => ∃ (G a b : Addr) (g : Gd) (xs ys : List (El g)), vs = [.ref G, .ref a, .ref b] ∧ GAt K H G g ∧ SAt K H a g xs ∧ SAt K H b g ys ∧ AddOk xs ys ∧ xs.length ≤ 1000 ∧ ys.length ≤ 1000 ∧
  ∀ H' p, Same H H' → LAt K H' p g (addRow xs ys) → Q (.ref p) H'
theorem ok_getD {K : Type} [Fld K] {l : List K} (h : OkL l) (i : Nat) : Fld.ok (l.getD i 0) := by
  by_cases hi : i < l.length
  · rw [getD_of (List.getElem?_eq_getElem hi)]
    exact h _ (List.getElem_mem hi)
  · rw [getD_out (by omega)]
    exact Fld.ok_zero
theorem ok_pad {K : Type} [Fld K] {l : List K} (h : OkL l) (n : Nat) : OkL (padTo l n) := fun x hx => by
  unfold padTo at hx
  rcases List.mem_append.mp hx with hx | hx
  · exact h x hx
  · rw [List.eq_of_mem_replicate hx]
    exact Fld.ok_zero
theorem scSum : FnScope ["ground", "a", "b", "size", "one", "two", "x", "y"] ["ground", "a", "b"] (defScope sSumR) := ⟨rfl, rfl, rfl, by decide +kernel, rfl, by decide +kernel, by decide +kernel⟩
theorem ok_SumR {f : Addr} {fd : FuncData} (T : Txt K mg) (N : NumP P w K mg base) (F : FnP K dSumR f fd) (MZ : MZero P w K mg base) : FnOk P w K mg base CX0 9 f fd ["ground", "a", "b"] (spSum K) := by
  refine okN F scSum (fun vs H Q E h => ?_) (fun cdv A outer s H vs Q E hr h => ?_)
  · obtain ⟨G, a, b, g, xs, ys, rfl, _⟩ := h
    rfl
  · obtain ⟨G, a, b, g, xs, ys, rfl, ⟨dG, hG⟩, ⟨us, ha, hu⟩, ⟨ws, hb, hw⟩, ok, lx, ly, q⟩ := h
    have hr5 : Room 5 _ := hr.mono (by decide)
    have l1 := pr_len hu
    have l2 := pr_len hw
    refine ⟨_, pss_cons (ps_set (i := 3) scSum.nd rfl (Or.inl rfl) (pe_callB (call_max2 rfl) (by rfl) T.b_max (by decide +kernel) (pa_cons (pe_callB call_len_seq (by rfl) T.b_len PySem.boot_len (pa_cons (pv 1) pa_nil)) (pa_cons (pe_callB call_len_seq (by rfl) T.b_len PySem.boot_len (pa_cons (pv 2) pa_nil)) pa_nil))))
      (pss_cons (ps_set (i := 4) scSum.nd rfl (Or.inl rfl) (pe_op op_cat (pe_callTy call_list_of (by rfl) T.b_list (by decide +kernel) (pa_cons (pv 1) pa_nil))
        (pe_op op_rep (pe_lst (pa_cons (pe_m0 (pv 0) T.oG.cl MZ hr pass0) pa_nil)) (pe_op op_sub (pv 3) (pe_callB call_len_seq (by rfl) T.b_len PySem.boot_len (pa_cons (pv 1) pa_nil))))))
      (pss_cons (ps_set (i := 5) scSum.nd rfl (Or.inl rfl) (pe_op op_cat (pe_callTy call_list_of (by rfl) T.b_list (by decide +kernel) (pa_cons (pv 2) pa_nil))
        (pe_op op_rep (pe_lst (pa_cons (pe_m0 (pv 0) T.oG.cl MZ hr pass0) pa_nil)) (pe_op op_sub (pv 3) (pe_callB call_len_seq (by rfl) T.b_len PySem.boot_len (pa_cons (pv 2) pa_nil))))))
      (pss_one (ps_ret (pe_lc (own := [("x", 6), ("y", 7)]) (g := gTup K 2 (gCons (gName 6) (gCons (gName 7) gNil))) (tt := tYes) rfl scSum.nd (pi_zip (by rfl) T.b_zip (pa_cons (pv 4) (pa_cons (pv 5) pa_nil)))
        (blkOk_by (N := ["ground", "a", "b", "size", "one", "two", "x", "y"]) (sc := defScope sSumR) (by decide +kernel)) (fun _ _ _ _ _ => pg_tup rfl (pgs_cons (pg_name (i := 6) scSum.nd rfl (Or.inl rfl)) (pgs_cons (pg_name (i := 7) scSum.nd rfl (Or.inl rfl)) pgs_nil)))
        (fun _ _ _ _ _ => pts_nil) (fun _ _ _ _ _ => pe_op (r := rNum2 K fun _ a b => a + b) (op_nAdd T N hr5) (pv 6) (pv 7))))))), ?_⟩
    refine ⟨_, rfl, a, us, rfl, SAt.sq ha, _, rfl, b, ws, rfl, SAt.sq hb, _, _, rfl, ?_⟩
    rw [max_len]
    -- one
    refine ⟨_, rfl, a, us, rfl, SAt.sq ha, fun t1 ht1 => ?_⟩
    have s1 := same_upd (o := .lst us) ht1
    have hl1 : upd H t1 (.lst us) t1 = some (.lst us) := upd_same
    generalize upd H t1 (.lst us) = H1 at s1 hl1 ⊢
    refine ⟨_, rfl, G, dG, _, rfl, s1 _ _ hG, gf_no _ (by decide +kernel), G, g, rfl, ⟨dG, s1 _ _ hG⟩, fun H2 z1 s2 hz1 => ?_⟩
    refine ⟨by show 1 ≤ sizeLine; decide, fun t2 ht2 => ?_⟩
    have s3 := same_upd (o := .lst [.ref z1]) ht2
    have hl2 : upd H2 t2 (.lst [.ref z1]) t2 = some (.lst [.ref z1]) := upd_same
    generalize upd H2 t2 (.lst [.ref z1]) = H3 at s3 hl2 ⊢
    have s03 := (s1.trans s2).trans s3
    refine ⟨_, rfl, _, rfl, a, us, rfl, SAt.sq (ha.imp (s03 _ _) (s03 _ _)), _, _, rfl, rfl, t2, _, _, rfl, rfl, hl2, ?_, ?_, ?_, fun t3 ht3 => ?_⟩
    · omega
    · omega
    · have : ((max us.length ws.length : Nat) : Int) - (us.length : Int) ≤ 1000 := by omega
      have h2 : (((max us.length ws.length : Nat) : Int) - (us.length : Int)).toNat ≤ 1000 := by omega
      refine Nat.le_of_lt (small1000 ?_)
      simpa using h2
    have e1 : (((max us.length ws.length : Nat) : Int) - (us.length : Int)).toNat = max us.length ws.length - us.length := by omega
    rw [rep_flat, e1]
    have s4 := same_upd (o := .lst (List.replicate (max us.length ws.length - us.length) (.ref z1))) ht3
    have hl3 : upd H3 t3 (.lst (List.replicate (max us.length ws.length - us.length) (.ref z1))) t3 = some (.lst (List.replicate (max us.length ws.length - us.length) (.ref z1))) := upd_same
    generalize upd H3 t3 (.lst (List.replicate (max us.length ws.length - us.length) (.ref z1))) = H4 at s4 hl3 ⊢
    refine ⟨t1, t3, _, _, rfl, rfl, s4 _ _ (s3 _ _ (s2 _ _ hl1)), hl3, ?_, fun o1 ho1 => ?_⟩
    · rw [List.length_replicate]
      refine Nat.le_of_lt (small1000 ?_)
      omega
    have n1 : NsV K H4 g (us ++ List.replicate (max us.length ws.length - us.length) (.ref z1)) (padTo xs (max xs.length ys.length)) := by
      unfold padTo
      rw [l1, l2]
      exact pr_append (hu.same ((s03.trans s4))) (pr_rep ⟨z1, rfl, hz1.same (s3.trans s4)⟩ _)
    have s5 := same_upd (o := .lst (us ++ List.replicate (max us.length ws.length - us.length) (.ref z1))) ho1
    have hl4 : upd H4 o1 (.lst (us ++ List.replicate (max us.length ws.length - us.length) (.ref z1))) o1 = some (.lst (us ++ List.replicate (max us.length ws.length - us.length) (.ref z1))) := upd_same
    generalize upd H4 o1 (.lst (us ++ List.replicate (max us.length ws.length - us.length) (.ref z1))) = H5 at s5 hl4 ⊢
    have s05 := (s03.trans s4).trans s5
    -- two
    have hb5 := hb.imp (s05 _ _) (s05 _ _)
    refine ⟨_, rfl, b, ws, rfl, SAt.sq hb5, fun t1' ht1' => ?_⟩
    have s1' := same_upd (o := .lst ws) ht1'
    have hl1' : upd H5 t1' (.lst ws) t1' = some (.lst ws) := upd_same
    generalize upd H5 t1' (.lst ws) = H6 at s1' hl1' ⊢
    have s06 := s05.trans s1'
    refine ⟨_, rfl, G, dG, _, rfl, s06 _ _ hG, gf_no _ (by decide +kernel), G, g, rfl, ⟨dG, s06 _ _ hG⟩, fun H7 z2 s2' hz2 => ?_⟩
    refine ⟨by show 1 ≤ sizeLine; decide, fun t2' ht2' => ?_⟩
    have s3' := same_upd (o := .lst [.ref z2]) ht2'
    have hl2' : upd H7 t2' (.lst [.ref z2]) t2' = some (.lst [.ref z2]) := upd_same
    generalize upd H7 t2' (.lst [.ref z2]) = H8 at s3' hl2' ⊢
    have s08 := (s06.trans s2').trans s3'
    refine ⟨_, rfl, _, rfl, b, ws, rfl, SAt.sq (hb.imp (s08 _ _) (s08 _ _)), _, _, rfl, rfl, t2', _, _, rfl, rfl, hl2', ?_, ?_, ?_, fun t3' ht3' => ?_⟩
    · omega
    · omega
    · have h2 : (((max us.length ws.length : Nat) : Int) - (ws.length : Int)).toNat ≤ 1000 := by omega
      refine Nat.le_of_lt (small1000 ?_)
      simpa using h2
    have e2 : (((max us.length ws.length : Nat) : Int) - (ws.length : Int)).toNat = max us.length ws.length - ws.length := by omega
    rw [rep_flat, e2]
    have s4' := same_upd (o := .lst (List.replicate (max us.length ws.length - ws.length) (.ref z2))) ht3'
    have hl3' : upd H8 t3' (.lst (List.replicate (max us.length ws.length - ws.length) (.ref z2))) t3' = some (.lst (List.replicate (max us.length ws.length - ws.length) (.ref z2))) := upd_same
    generalize upd H8 t3' (.lst (List.replicate (max us.length ws.length - ws.length) (.ref z2))) = H9 at s4' hl3' ⊢
    refine ⟨t1', t3', _, _, rfl, rfl, s4' _ _ (s3' _ _ (s2' _ _ hl1')), hl3', ?_, fun o2 ho2 => ?_⟩
    · rw [List.length_replicate]
      refine Nat.le_of_lt (small1000 ?_)
      omega
    have n2 : NsV K H9 g (ws ++ List.replicate (max us.length ws.length - ws.length) (.ref z2)) (padTo ys (max xs.length ys.length)) := by
      unfold padTo
      rw [l1, l2]
      exact pr_append (hw.same ((s08.trans s4'))) (pr_rep ⟨z2, rfl, hz2.same (s3'.trans s4')⟩ _)
    have s5' := same_upd (o := .lst (ws ++ List.replicate (max us.length ws.length - ws.length) (.ref z2))) ho2
    have hl4' : upd H9 o2 (.lst (ws ++ List.replicate (max us.length ws.length - ws.length) (.ref z2))) o2 = some (.lst (ws ++ List.replicate (max us.length ws.length - ws.length) (.ref z2))) := upd_same
    generalize upd H9 o2 (.lst (ws ++ List.replicate (max us.length ws.length - ws.length) (.ref z2))) = H10 at s5' hl4' ⊢
    have s0a := (s08.trans s4').trans s5'
    have s5a := ((((s1'.trans s2').trans s3').trans s4').trans s5')
    have m1 := n1.same (s5.trans s5a)
    have m2 := n2.same s5'
    have hla := s5a _ _ hl4
    generalize us ++ List.replicate (max us.length ws.length - us.length) (V.ref z1) = vs1 at m1 hla ⊢
    generalize ws ++ List.replicate (max us.length ws.length - ws.length) (V.ref z2) = vs2 at m2 hl4' ⊢
    have p1 := padTo_len (x := xs) (n := max xs.length ys.length) (by omega)
    have p2 := padTo_len (x := ys) (n := max xs.length ys.length) (by omega)
    have k1 := pr_len m1
    have k2 := pr_len m2
    have hzl : (addRow xs ys).length = max xs.length ys.length := by
      unfold addRow
      rw [List.length_zipWith, p1, p2, Nat.min_self]
    -- the sums
    refine ⟨_, rfl, _, rfl, o1, o2, vs1, vs2, rfl, SqL.of hla, SqL.of hl4', fun D hD => lc_it (walk_zip rfl) (LcI K H10 D g (addRow xs ys)) (LcI.start hD) (fun i H' _ c => ⟨SqL.of (c.same _ _ hla), SqL.of (c.same _ _ hl4')⟩) ?_ ?_⟩
    · rintro i x H' H'' hi c ⟨tp, x1, y1, rfl, htp, rfl, hx1, hy1⟩
      have st := same_upd (o := .tup [x1, y1]) htp
      refine ⟨tp, [x1, y1], rfl, SqT.of upd_same, rfl, x1, [y1], rfl, y1, [], rfl, rfl, rfl, ?_⟩
      obtain ⟨a1, ea, na⟩ := pr_getL m1 hx1
      obtain ⟨b1, eb, nb⟩ := pr_getL m2 hy1
      have sc := c.same.trans st
      refine ⟨_, rfl, _, rfl, g, a1, b1, na.same sc, nb.same sc, ok_pad ok.oa _ _ (List.mem_of_getElem? ea), ok_pad ok.ob _ _ (List.mem_of_getElem? eb), fun H4 p s6 np => ?_⟩
      refine c.step (st.trans s6) ?_ (by omega) np
      show (List.zipWith (· + ·) _ _)[i]? = _
      rw [List.getElem?_zipWith, ea, eb]
    · intro H' c
      rw [k1, k2, p1, p2, Nat.min_self, ← hzl] at c
      exact q H' D (s0a.trans c.same) c.done
end
end K9

namespace K9
open PySem PySem.Spec PyProof.Rows L2
theorem LcI.mono {K : PySem.W.Frag} {Hz H H' : Hp} {D : Addr} {g : Gd} {zs : List (El g)} {i : Nat} (c : LcI K Hz D g zs i H) (s : Same H H') : LcI K Hz D g zs i H' :=
  let ⟨acc, e, n⟩ := c.acc; ⟨c.new, c.same.trans s, acc, s _ _ e, n.same s⟩
theorem mulRow_len {K : Type} [Fld K] (a b : List K) : (mulRow a b).length = a.length + b.length - 1 := by
  unfold mulRow
  rw [List.length_map, List.length_range]
theorem mulRow_get {K : Type} [Fld K] {a b : List K} {k : Nat} (h : k < a.length + b.length - 1) : (mulRow a b)[k]? = some (mulC a b k) := by
  unfold mulRow
  rw [List.getElem?_map, List.getElem?_range h]
  rfl
theorem max0 (k lb : Nat) : (if (((k : Int) - (lb : Int)) + 1) > 0 then (((k : Int) - (lb : Int)) + 1) else 0) = ((k + 1 - lb : Nat) : Int) := by
  by_cases h : (((k : Int) - (lb : Int)) + 1) > 0
  · rw [if_pos h]; omega
  · rw [if_neg h]; omega
theorem min0 (k la : Nat) : (if ((la : Nat) : Int) < ((k : Int) + 1) then (la : Int) else ((k : Int) + 1)) = ((min (k + 1) la : Nat) : Int) := by
  by_cases h : ((la : Nat) : Int) < ((k : Int) + 1)
  · rw [if_pos h]; omega
  · rw [if_neg h]; omega
section
variable {P : Program} {w : World} {K : PySem.W.Frag} {mg : Str → Option Value} {base : Heap}
def spProd (K : PySem.W.Frag) : Sp := fun vs H Q _ => ∃ (G a b : Addr) (g : Gd) (xs ys : List (El g)), vs = [.ref G, .ref a, .ref b] ∧ GAt K H G g ∧ TAt K H a g xs ∧ TAt K H b g ys ∧ MulOk xs ys ∧ xs.length ≤ 400 ∧ ys.length ≤ 400 ∧
  ∀ H' p, Same H H' → LAt K H' p g (mulRow xs ys) → Q (.ref p) H'
theorem scProd : FnScope ["ground", "a", "b", "found", "k", "total", "i"] ["ground", "a", "b"] (defScope sProdR) := ⟨rfl, rfl, rfl, by decide +kernel, rfl, by decide +kernel, by decide +kernel⟩
theorem ok_ProdR {f : Addr} {fd : FuncData} (T : Txt K mg) (N : NumP P w K mg base) (F : FnP K dProdR f fd) (MZ : MZero P w K mg base) : FnOk P w K mg base CX0 9 f fd ["ground", "a", "b"] (spProd K) := by
  refine okN F scProd (fun vs H Q E h => ?_) (fun cdv A outer s H vs Q E hr h => ?_)
  · obtain ⟨G, a, b, g, xs, ys, rfl, _⟩ := h
    rfl
  · obtain ⟨G, a, b, g, xs, ys, rfl, ⟨dG, hG⟩, ⟨us, ha, hu⟩, ⟨ws, hb, hw⟩, ok, lx, ly, q⟩ := h
    have hr5 : Room 5 _ := hr.mono (by decide)
    have l1 := pr_len hu
    have l2 := pr_len hw
    refine ⟨_, pss_cons (ps_set (i := 3) scProd.nd rfl (Or.inl rfl) (pe_lst pa_nil))
      (pss_cons (ps_for PassesOwn.never rfl (pi_range1 rfl T.b_range (pa_cons (pe_op op_sub (pe_op op_add (pe_callB call_len_seq (by rfl) T.b_len PySem.boot_len (pa_cons (pv 1) pa_nil)) (pe_callB call_len_seq (by rfl) T.b_len PySem.boot_len (pa_cons (pv 2) pa_nil))) pe_int) pa_nil)) (pg_name (i := 4) scProd.nd rfl (Or.inl rfl))
        (pss_cons (ps_set (i := 5) scProd.nd rfl (Or.inl rfl) (pe_m0 (pv 0) T.oG.cl MZ hr pass0))
        (pss_cons (ps_for PassesOwn.never rfl (pi_range2 rfl T.b_range (pa_cons
            (pe_callB (call_max2 rfl) (by rfl) T.b_max (by decide +kernel) (pa_cons pe_int (pa_cons (pe_op op_add (pe_op op_sub (pv 4) (pe_callB call_len_seq (by rfl) T.b_len PySem.boot_len (pa_cons (pv 2) pa_nil))) pe_int) pa_nil)))
            (pa_cons (pe_callB (call_min2 rfl) (by rfl) T.b_min (by decide +kernel) (pa_cons (pe_op op_add (pv 4) pe_int) (pa_cons (pe_callB call_len_seq (by rfl) T.b_len PySem.boot_len (pa_cons (pv 1) pa_nil)) pa_nil))) pa_nil))) (pg_name (i := 6) scProd.nd rfl (Or.inl rfl))
          (pss_one (ps_set (i := 5) scProd.nd rfl (Or.inl rfl) (pe_op (op_nAdd T N hr5) (pv 5) (pe_op (op_nMul T N hr5) (pe_ix ix_tup (pv 1) (pv 6) (fun _ _ => rfl)) (pe_ix ix_tup (pv 2) (pe_op op_sub (pv 4) (pv 6)) (fun _ _ => rfl)))))))
        (pss_one (ps_expr (pe_bm PySem.F.plainAttrs_list PySem.F.slot_list_append PySem.F.type_list_append mt_append (pv 3) (pa_cons (pv 5) pa_nil)))))))
      (pss_one (ps_ret (pv 3)))), ?_⟩
    refine ⟨Nat.zero_le _, fun D hD => ?_⟩
    have c0 := LcI.start (K := K) (g := g) (zs := mulRow xs ys) hD
    generalize hH0 : upd H D (.lst []) = H0 at c0 ⊢
    have hml := mulRow_len xs ys
    refine ⟨_, rfl, a, us, rfl, .inr (SqT.of (c0.same _ _ ha)), _, rfl, b, ws, rfl, .inr (SqT.of (c0.same _ _ hb)), _, _, rfl, rfl, _, _, rfl, rfl, _, rfl, ?_, ?_,
      for_range (lo := 0) (n := (((us.length : Int) + (ws.length : Int)) - 1).toNat) (fun k σ H' => LcI K H D g (mulRow xs ys) k H' ∧ ∃ v4 v5 v6, σ = [some (.ref G), some (.ref a), some (.ref b), some (.ref D), v4, v5, v6]) ⟨c0, none, none, none, rfl⟩ ?_ ?_⟩
    · omega
    · omega
    · rintro k σ H' hk ⟨c, v4, v5, v6, rfl⟩
      have hk' : k < xs.length + ys.length - 1 := by omega
      have ek : (0 : Int) + (k : Int) = (k : Int) := Int.zero_add _
      rw [ek]
      refine ⟨_, rfl, G, dG, _, rfl, c.same _ _ hG, gf_no _ (by decide +kernel), G, g, rfl, ⟨dG, c.same _ _ hG⟩, fun H1 z s1 hz => ?_⟩
      have c1 := c.mono s1
      refine ⟨_, rfl, _, rfl, b, ws, rfl, .inr (SqT.of (c1.same _ _ hb)), _, _, rfl, rfl, _, _, rfl, rfl, _, _, rfl, ?_⟩
      rw [max0]
      refine ⟨_, rfl, _, _, rfl, rfl, _, rfl, a, us, rfl, .inr (SqT.of (c1.same _ _ ha)), _, _, rfl, ?_⟩
      rw [min0]
      refine ⟨_, _, rfl, ⟨by omega, by omega, by omega, by omega⟩, for_range (lo := ((k + 1 - ws.length : Nat) : Int)) (n := (((min (k + 1) us.length : Nat) : Int) - ((k + 1 - ws.length : Nat) : Int)).toNat)
        (fun i σ H2 => LcI K H D g (mulRow xs ys) k H2 ∧ ∃ p v6, σ = [some (.ref G), some (.ref a), some (.ref b), some (.ref D), some (.int (k : Int)), some (.ref p), v6] ∧ NAt K H2 p g (psum xs ys k (k + 1 - ys.length) i)) ⟨c1, z, v6, rfl, hz⟩ ?_ ?_⟩
      · rintro i σ H2 hi ⟨c2, p, v6', rfl, np⟩
        have hi1 : (k + 1 - ys.length) + i < xs.length := by omega
        have hi2 : k - ((k + 1 - ys.length) + i) < ys.length := by omega
        have hi3 : (k + 1 - ys.length) + i ≤ k := by omega
        have hx := List.getElem?_eq_getElem hi1
        have hy := List.getElem?_eq_getElem hi2
        obtain ⟨va, eva, nva⟩ := pr_get hu hx
        obtain ⟨vb, evb, nvb⟩ := pr_get hw hy
        have ei : ((k + 1 - ws.length : Nat) : Int) + (i : Int) = (((k + 1 - ys.length) + i : Nat) : Int) := by omega
        have ej : (k : Int) - ((((k + 1 - ys.length) + i : Nat)) : Int) = ((k - ((k + 1 - ys.length) + i) : Nat) : Int) := by omega
        rw [ei]
        have okp : Fld.ok (xs[(k + 1 - ys.length) + i] * ys[k - ((k + 1 - ys.length) + i)]) := by
          have := ok.prod ((k + 1 - ys.length) + i) (k - ((k + 1 - ys.length) + i))
          rw [getD_of hx, getD_of hy] at this
          exact this
        refine ⟨_, rfl, _, rfl, _, rfl, a, us, _, va, rfl, rfl, SqT.of (c2.same _ _ ha), atI_nat eva, _, rfl, _, rfl, _, rfl, _, _, rfl, rfl, b, ws, _, vb, rfl, rfl, SqT.of (c2.same _ _ hb), ?_, g, _, _, nva.same c2.same, nvb.same c2.same, ok.oa _ (List.getElem_mem hi1), ok.ob _ (List.getElem_mem hi2), fun H3 r s3 nr => ?_⟩
        · rw [ej]
          exact atI_nat evb
        · refine ⟨g, _, _, ⟨p, rfl, np.same s3⟩, ⟨r, rfl, nr⟩, ok.sum _ _ _, okp, fun H4 t s4 nt => ?_⟩
          refine ⟨c2.mono (s3.trans s4), t, _, rfl, ?_⟩
          have e : psum xs ys k (k + 1 - ys.length) (i + 1) = psum xs ys k (k + 1 - ys.length) i + xs[(k + 1 - ys.length) + i] * ys[k - ((k + 1 - ys.length) + i)] := by
            show psum xs ys k (k + 1 - ys.length) i + xs.getD ((k + 1 - ys.length) + i) 0 * ys.getD (k - ((k + 1 - ys.length) + i)) 0 = _
            rw [getD_of hx, getD_of hy]
          rw [e]
          exact nt
      · rintro σ H2 ⟨c2, p, v6', rfl, np⟩
        have en : (((min (k + 1) us.length : Nat) : Int) - ((k + 1 - ws.length : Nat) : Int)).toNat = min (k + 1) xs.length - (k + 1 - ys.length) := by omega
        rw [en] at np
        obtain ⟨acc, hacc, hlen, c3⟩ := c2.step (Same.refl H2) (mulRow_get hk') (by omega) np
        refine ⟨_, rfl, .inl ⟨rfl, _, SqL.of hacc⟩, _, rfl, D, _, _, rfl, rfl, hacc, hlen, ?_⟩
        exact ⟨c3, _, _, _, rfl⟩
    · rintro σ H' ⟨c, v4, v5, v6, rfl⟩
      have en : (((us.length : Int) + (ws.length : Int)) - 1).toNat = (mulRow xs ys).length := by omega
      rw [en] at c
      exact ⟨_, rfl, q H' D c.same c.done⟩
end
end K9

namespace K9
open PySem PySem.Spec PyProof.Rows L2
theorem atI_m1 {α : Type} {xs : List α} {v : α} (h : xs[xs.length - 1]? = some v) : atI xs (-1) = some v := by
  have hn : xs ≠ [] := by intro e; subst e; simp at h
  have e := List.dropLast_concat_getLast hn
  have e2 : xs.getLast hn = v := by
    rw [List.getLast_eq_getElem]
    obtain ⟨h1, h2⟩ := List.getElem?_eq_some_iff.mp h
    exact h2
  rw [← e, e2]
  exact atI_last _ _
section
variable {K : PySem.W.Frag} {g : Gd} {H : Hp} {a b : Addr} {xs ys : List (El g)} {Q : VK}
theorem cat_read (hx : TAt K H a g xs) (hy : TAt K H b g ys) (hl : xs.length + ys.length ≤ 1000) (q : ∀ H' p, Same H H' → TAt K H' p g (xs ++ ys) → Q (.ref p) H') : rCatA K (.ref a) (.ref b) H Q := by
  obtain ⟨us, ha, hu⟩ := id hx
  obtain ⟨ws, hb, hw⟩ := id hy
  have l1 := pr_len hu
  have l2 := pr_len hw
  refine ⟨a, b, us, ws, rfl, rfl, SqT.of ha, SqT.of hb, Nat.le_of_lt (small1000 (by omega)), fun e => ?_, fun _ e => ?_, fun _ _ p hp => ?_⟩
  · have : xs = [] := by
      rw [e] at l1
      exact List.length_eq_zero_iff.mp l1.symm
    subst this
    exact q H b (Same.refl H) hy
  · have : ys = [] := by
      rw [e] at l2
      exact List.length_eq_zero_iff.mp l2.symm
    subst this
    exact q H a (Same.refl H) (by rw [List.append_nil]; exact hx)
  · exact q _ p (same_upd hp) ⟨_, upd_same, NsV.same (pr_append hu hw) (same_upd hp)⟩
theorem slice_read (hx : TAt K H a g xs) (n : Nat) (q : ∀ H' p, Same H H' → TAt K H' p g (xs.take n) → Q (.ref p) H') : rSlA K (.ref a) none (some (n : Int)) H Q := by
  obtain ⟨us, ha, hu⟩ := id hx
  have l1 := pr_len hu
  refine ⟨a, us, rfl, SqT.of ha, fun h => ?_, fun _ p hp => ?_⟩
  · rw [HT.sIx_nat] at h
    have : xs.take n = xs := List.take_of_length_le (by have := h.2; omega)
    exact q H a (Same.refl H) (by rw [this]; exact hx)
  · rw [cut_take]
    exact q _ p (same_upd hp) ⟨_, upd_same, NsV.same (pr_take n hu) (same_upd hp)⟩
end
section
variable {P : Program} {w : World} {K : PySem.W.Frag} {mg : Str → Option Value} {base : Heap}
def spDiv (K : PySem.W.Frag) : Sp := fun vs H Q _ => ∃ (G a b : Addr) (g : Gd) (xs ys : List (El g)), vs = [.ref G, .ref a, .ref b] ∧ TAt K H a g xs ∧ TAt K H b g ys ∧ ys ≠ [] ∧ lst ys ≠ 0 ∧ DivOk xs ys ∧ xs.length ≤ 400 ∧ ys.length ≤ 400 ∧
  ∀ H' p q r, Same H H' → H' p = some (.tup [.ref q, .ref r]) → TAt K H' q g (divRow xs ys).1 → TAt K H' r g (divRow xs ys).2 → Q (.ref p) H'
theorem divRest_len {K : Type} [Fld K] {b r : List K} {c : K} {j : Nat} (h : j ≤ r.length) (hb : 0 < b.length) : (divRest b r c j).length + 1 = j + b.length := by
  unfold divRest
  rw [List.length_append, List.length_take, List.length_map, List.length_range]
  omega
theorem scDiv : FnScope ["ground", "a", "b", "rest", "head", "quotient", "k", "factor", "i"] ["ground", "a", "b"] (defScope sDiv) := ⟨rfl, rfl, rfl, by decide +kernel, rfl, by decide +kernel, by decide +kernel⟩
theorem ok_Div {f : Addr} {fd : FuncData} (T : Txt K mg) (N : NumP P w K mg base) (F : FnP K dDiv f fd) : FnOk P w K mg base CX0 6 f fd ["ground", "a", "b"] (spDiv K) := by
  refine okN F scDiv (fun vs H Q E h => ?_) (fun cdv A outer s H vs Q E hr h => ?_)
  · obtain ⟨G, a, b, g, xs, ys, rfl, _⟩ := h
    rfl
  · obtain ⟨G, a, b, g, xs, ys, rfl, hxs, ⟨ws, hb, hw⟩, hne, hlz, ok, lx, ly, q⟩ := h
    obtain ⟨us, ha, hu⟩ := id hxs
    have l1 := pr_len hu
    have l2 := pr_len hw
    have hb0 : 0 < ys.length := List.length_pos_iff.mpr hne
    refine ⟨_, pss_cons (ps_if (pt_cmpR op_eq (pe_callB call_len_seq (by rfl) T.b_len PySem.boot_len (pa_cons (pv 2) pa_nil)) pe_int (nomark _)) (pss_one ps_never) pss_nil)
      (pss_cons (ps_set (i := 3) scDiv.nd rfl (Or.inr rfl) (pe_callTy call_tupleT (by rfl) T.b_tuple (by decide +kernel) (pa_cons (pv 1) pa_nil)))
      (pss_cons (ps_set (i := 4) scDiv.nd rfl (Or.inl rfl) (pe_mR (r := rNumInv K) (pe_ix ix_tup (pv 2) (pe_un un_neg pe_int) (fun _ _ => rfl)) hr (fun x H Q h => conv_inv T N h)))
      (pss_cons (ps_set (i := 5) scDiv.nd rfl (Or.inl rfl) (pe_tup pa_nil))
      (pss_cons (ps_for PassesOwn.never rfl (pi_range3 rfl T.b_range (pa_cons (pe_op op_sub (pe_callB call_len_seq (by rfl) T.b_len PySem.boot_len (pa_cons (pv 1) pa_nil)) (pe_callB call_len_seq (by rfl) T.b_len PySem.boot_len (pa_cons (pv 2) pa_nil))) (pa_cons (pe_un un_neg pe_int) (pa_cons (pe_un un_neg pe_int) pa_nil)))) (pg_name (i := 6) scDiv.nd rfl (Or.inr rfl))
        (pss_cons (ps_set (i := 7) scDiv.nd rfl (Or.inr rfl) (pe_op (op_nMul T N hr) (pe_ix ix_tup (pv 3) (pe_un un_neg pe_int) (fun _ _ => rfl)) (pv 4)))
        (pss_cons (ps_set (i := 5) scDiv.nd rfl (Or.inl rfl) (pe_op op_catA (pe_tup (pa_cons (pv 7) pa_nil)) (pv 5)))
        (pss_one (ps_set (i := 3) scDiv.nd rfl (Or.inr rfl) (pe_op op_catA (pe_slice sl_tupA (pv 3) po_none (po_some (pv 6)))
          (pe_callTy call_tuple_of (by rfl) T.b_tuple (by decide +kernel) (pa_cons (pe_lc (own := [("i", 8)]) (g := gName 8) (tt := tYes) rfl scDiv.nd
            (pi_range1 rfl T.b_range (pa_cons (pe_op op_sub (pe_callB call_len_seq (by rfl) T.b_len PySem.boot_len (pa_cons (pv 2) pa_nil)) pe_int) pa_nil))
            (blkOk_by (N := ["ground", "a", "b", "rest", "head", "quotient", "k", "factor", "i"]) (sc := defScope sDiv) (by decide +kernel)) (fun _ _ _ _ _ => pg_name (i := 8) scDiv.nd rfl (Or.inl rfl)) (fun _ _ _ _ _ => pts_nil)
            (fun _ _ _ _ _ => pe_op (r := rNum2 K fun _ a b => a - b) (op_nSub T N hr) (pe_ix (r := rIxT K) ix_tup (pv 3) (pe_op op_add (pv 6) (pv 8)) (fun _ _ => rfl))
              (pe_op (r := rNum2 K fun _ a b => a * b) (op_nMul T N hr) (pv 7) (pe_ix (r := rIxT K) ix_tup (pv 2) (pv 8) (fun _ _ => rfl))))) pa_nil))))))))
      (pss_one (ps_ret (pe_tup (pa_cons (pv 5) (pa_cons (pv 3) pa_nil))))))))), ?_⟩
    refine ⟨_, rfl, b, ws, rfl, .inr (SqT.of hb), rfl, _, rfl, if_f (decide_eq_false fun z => by injection z with z; omega) ?_⟩
    refine ⟨_, rfl, a, us, rfl, SqT.of ha, ?_⟩
    have hly := lst_get hne
    obtain ⟨vl, evl, nvl⟩ := pr_get hw hly
    rw [← l2] at evl
    refine ⟨_, rfl, _, rfl, b, ws, _, vl, rfl, rfl, SqT.of hb, atI_m1 evl, g, lst ys, nvl, ok.ob _ (List.mem_of_getElem? hly), hlz, fun H1 hd s1 nh => ?_⟩
    refine ⟨Nat.zero_le _, fun q0 hq0 => ?_⟩
    have s2 := same_upd (o := .tup []) hq0
    have tq : TAt K (upd H1 q0 (.tup [])) q0 g [] := ⟨[], upd_same, .nil⟩
    generalize upd H1 q0 (.tup []) = H2 at s2 tq ⊢
    have s02 := s1.trans s2
    refine ⟨_, rfl, a, us, rfl, .inr (SqT.of (s02 _ _ ha)), _, rfl, b, ws, rfl, .inr (SqT.of (s02 _ _ hb)), _, _, rfl, rfl, _, rfl, _, rfl, _, _, _, _, rfl, RgC.neg (by omega) (by omega) (by omega) (by omega), ?_⟩
    have en : (((us.length : Int) - (ws.length : Int)) - (-1)).toNat = xs.length + 1 - ys.length := by omega
    rw [en]
    refine for_rangeC (lo := (us.length : Int) - (ws.length : Int)) (c := -1) (n := xs.length + 1 - ys.length)
      (fun t σ H' => Same H2 H' ∧ ∃ (rp qp : Addr) (v6 v7 : Option V) (r qq : List (El g)), σ = [some (.ref G), some (.ref a), some (.ref b), some (.ref rp), some (.ref hd), some (.ref qp), v6, v7, none] ∧ TAt K H' rp g r ∧ TAt K H' qp g qq ∧
        divGo ys (Fld.inv (lst ys)) (xs.length + 1 - ys.length - t) r qq = divRow xs ys ∧ DivGoOk ys (Fld.inv (lst ys)) (xs.length + 1 - ys.length - t) r ∧ (0 < xs.length + 1 - ys.length - t → r.length + 1 = (xs.length + 1 - ys.length - t) + ys.length) ∧ qq.length ≤ t)
      ⟨Same.refl H2, a, q0, none, none, xs, [], rfl, hxs.same s02, tq, rfl, ok.go, fun h => by omega, Nat.le_refl _⟩ ?_ ?_
    · rintro t σ H' ht ⟨sH, rp, qp, v6, v7, r, qq, rfl, hr', hq', hgo, hok, hlen, hql⟩
      obtain ⟨j, hj⟩ : ∃ j, xs.length + 1 - ys.length - t = j + 1 := ⟨xs.length + 1 - ys.length - t - 1, by omega⟩
      have hj2 : xs.length + 1 - ys.length - (t + 1) = j := by omega
      rw [hj] at hgo hok hlen
      have hrl := hlen (Nat.succ_pos _)
      obtain ⟨so, hok2⟩ := hok
      have ek : ((us.length : Int) - (ws.length : Int)) + (t : Int) * (-1) = (j : Int) := by omega
      rw [ek]
      have hrn : r ≠ [] := fun e => by rw [e] at hrl; simp at hrl; omega
      obtain ⟨rs, hrs, hrn'⟩ := id hr'
      have hlr := lst_get hrn
      obtain ⟨v, ev, nv⟩ := pr_get hrn' hlr
      have lr := pr_len hrn'
      rw [← lr] at ev
      -- factor
      refine ⟨_, rfl, _, rfl, rp, rs, _, v, rfl, rfl, SqT.of hrs, atI_m1 ev, _, rfl, g, lst r, Fld.inv (lst ys), nv, ⟨hd, rfl, nh.same (s2.trans sH)⟩, so.or _ (List.mem_of_getElem? hlr), ok.oinv, fun H3 fp s3 nf => ?_⟩
      -- quotient
      refine ⟨_, rfl, by show 1 ≤ sizeLine; decide, fun t1 ht1 => ?_⟩
      have s4 := same_upd (o := .tup [.ref fp]) ht1
      have tf : TAt K (upd H3 t1 (.tup [.ref fp])) t1 g [lst r * Fld.inv (lst ys)] := ⟨_, upd_same, .cons ⟨fp, rfl, nf.same s4⟩ .nil⟩
      generalize upd H3 t1 (.tup [.ref fp]) = H4 at s4 tf ⊢
      refine ⟨_, rfl, cat_read tf (hq'.same (s3.trans s4)) (by simp; omega) fun H5 qp' s5 tq5 => ?_⟩
      -- rest[:k]
      have s35 := (s3.trans s4).trans s5
      refine ⟨_, rfl, _, rfl, _, rfl, slice_read (hr'.same s35) j fun H6 p1 s6 tp1 => ?_⟩
      have s36 := s35.trans s6
      have s06 := (s02.trans sH).trans s36
      -- the list
      refine ⟨_, rfl, b, ws, rfl, .inr (SqT.of (s06 _ _ hb)), _, _, rfl, rfl, _, rfl, by omega, by omega, fun D hD => lc_range (lo := 0) (n := ((ws.length : Int) - 1).toNat)
        (LcI K H6 D g ((List.range (ys.length - 1)).map fun i => r.getD (j + i) 0 - lst r * Fld.inv (lst ys) * ys.getD i 0)) (LcI.start hD) ?_ ?_⟩
      · intro i H7 hi c
        have hi1 : i < ys.length := by omega
        have hi2 : j + i < r.length := by omega
        have hy := List.getElem?_eq_getElem hi1
        have hx := List.getElem?_eq_getElem hi2
        obtain ⟨va, eva, nva⟩ := pr_get hrn' hx
        obtain ⟨vb, evb, nvb⟩ := pr_get hw hy
        have ei : (0 : Int) + (i : Int) = (i : Int) := Int.zero_add _
        have eji : (j : Int) + (i : Int) = ((j + i : Nat) : Int) := by omega
        rw [ei]
        have okp : Fld.ok (lst r * Fld.inv (lst ys) * ys[i]) := by
          have := so.prod i
          rw [getD_of hy] at this
          exact this
        refine ⟨rfl, ?_⟩
        refine ⟨_, rfl, _, rfl, _, rfl, _, _, rfl, rfl, rp, rs, _, va, rfl, rfl, SqT.of (c.same _ _ (s36 _ _ hrs)), by rw [eji]; exact atI_nat eva, _, rfl, _, rfl, _, rfl, b, ws, _, vb, rfl, rfl, SqT.of (c.same _ _ (s06 _ _ hb)), atI_nat evb, g, _, _, ⟨fp, rfl, nf.same (((s4.trans s5).trans s6).trans c.same)⟩, nvb.same (s06.trans c.same), so.fac, ok.ob _ (List.getElem_mem hi1), fun H8 pp s8 np => ?_⟩
        refine ⟨g, _, _, nva.same (s36.trans (c.same.trans s8)), ⟨pp, rfl, np⟩, so.or _ (List.getElem_mem hi2), okp, fun H9 pd s9 nd => ?_⟩
        refine c.step (s8.trans s9) ?_ (by simp; omega) nd
        rw [List.getElem?_map, List.getElem?_range (by omega)]
        show some (r.getD (j + i) 0 - lst r * Fld.inv (lst ys) * ys.getD i 0) = _
        rw [getD_of hx, getD_of hy]
      · intro H7 c
        have ez : ((ws.length : Int) - 1).toNat = ((List.range (ys.length - 1)).map fun i => r.getD (j + i) 0 - lst r * Fld.inv (lst ys) * ys.getD i 0).length := by simp; omega
        rw [ez] at c
        obtain ⟨zs, hz, nz⟩ := c.done
        refine ⟨D, zs, rfl, .inl ⟨SqL.of hz, fun p2 hp2 => ?_⟩⟩
        have s8 := same_upd (o := .tup zs) hp2
        have tp2 : TAt K (upd H7 p2 (.tup zs)) p2 g ((List.range (ys.length - 1)).map fun i => r.getD (j + i) 0 - lst r * Fld.inv (lst ys) * ys.getD i 0) := ⟨zs, upd_same, nz.same s8⟩
        generalize upd H7 p2 (.tup zs) = H8 at s8 tp2 ⊢
        refine cat_read (tp1.same (c.same.trans s8)) tp2 (by simp; omega) fun H9 rp' s9 tr9 => ?_
        have s69 := (c.same.trans s8).trans s9
        refine ⟨sH.trans (s36.trans s69), rp', qp', _, _, _, _, rfl, tr9, tq5.same (s6.trans s69), ?_, ?_, fun h => ?_, ?_⟩
        · rw [hj2]
          exact hgo
        · rw [hj2]
          exact hok2
        · have := divRest_len (b := ys) (r := r) (c := lst r * Fld.inv (lst ys)) (j := j) (by omega) hb0
          rw [hj2]
          exact this
        · show (lst r * Fld.inv (lst ys) :: qq).length ≤ t + 1
          simp
          omega
    · rintro σ H' ⟨sH, rp, qp, v6, v7, r, qq, rfl, hr', hq', hgo, _, _, _⟩
      rw [Nat.sub_self] at hgo
      have e : divRow xs ys = (qq, r) := hgo.symm
      refine ⟨_, rfl, _, rfl, by show 2 ≤ sizeLine; decide, fun p hp => ?_⟩
      have s3 := same_upd (o := .tup [.ref qp, .ref rp]) hp
      refine q _ p qp rp ((s02.trans sH).trans s3) upd_same ?_ ?_
      · rw [e]; exact hq'.same s3
      · rw [e]; exact hr'.same s3
end
end K9

namespace K9
open PySem PySem.Spec PyProof.Rows L2
theorem PI.or {X : Cx} {tg e : Expr} {t u : TI} (h : PI X tg e t) (h' : PI X tg e u) : PI X tg e (fun σ H R => t σ H R ∨ u σ H R) := ⟨fun pins s σ H R I q => q.elim (h.run pins s σ H R I) (h'.run pins s σ H R I)⟩
section
variable {K : PySem.W.Frag} {g : Gd}
theorem gr_ne {v : V} {n m : V} : ¬ ([(("n" : Str), n), (("d" : Str), m)] : List (Str × V)) = ([(("ground" : Str), v)] : List (Str × V)) ∧ ¬ ([(("p" : Str), n), (("n" : Str), m)] : List (Str × V)) = ([(("ground" : Str), v)] : List (Str × V)) := by
  constructor <;> intro h <;> simp at h
theorem NV.updX {H : Hp} {x C dx : Addr} {u : V} {o : HO} (hx : H x = some (.ins C dx [("ground", u)])) {v : V} {y : El g} (h : NV K H g v y) : NV K (upd H x o) g v y := by
  obtain ⟨a, rfl, n⟩ := h
  refine ⟨a, rfl, ?_⟩
  have kq : ∀ dq p q, H a = some (.ins (cQ K) dq (qf p q)) → upd H x o a = some (.ins (cQ K) dq (qf p q)) := fun dq p q e => by
    rw [upd_ne (ne_of e hx (by intro z; injection z with _ _ z; exact gr_ne.1 z))]; exact e
  have kz : ∀ dq p q, H a = some (.ins (cZ K) dq (zf p q)) → upd H x o a = some (.ins (cZ K) dq (zf p q)) := fun dq p q e => by
    rw [upd_ne (ne_of e hx (by intro z; injection z with _ _ z; exact gr_ne.2 z))]; exact e
  cases g with
  | q => obtain ⟨dx, e⟩ := n; exact ⟨dx, kq _ _ _ e⟩
  | p2 => obtain ⟨dx, e⟩ := n; exact ⟨dx, kz _ _ _ e⟩
  | p3 => obtain ⟨dx, e⟩ := n; exact ⟨dx, kz _ _ _ e⟩
  | p5 => obtain ⟨dx, e⟩ := n; exact ⟨dx, kz _ _ _ e⟩
  | p7 => obtain ⟨dx, e⟩ := n; exact ⟨dx, kz _ _ _ e⟩
end
section
variable {P : Program} {w : World} {K : PySem.W.Frag} {mg : Str → Option Value} {base : Heap}
/-! ### Poly(ground, row) -/
def spPInit (K : PySem.W.Frag) : Sp := fun vs H Q _ => ∃ (x dx G r : Addr) (g : Gd) (us : List V) (xs : List (El g)), vs = [.ref x, .ref G, .ref r] ∧ H x = some (.ins (cP K) dx []) ∧ GAt K H G g ∧ (H r = some (.lst us) ∨ H r = some (.tup us)) ∧ Paired (ItV K H g) us xs ∧ xs.length ≤ 1000 ∧
  ∀ H' R, TAt K H' R g (trim xs) → H' x = some (.ins (cP K) dx (pf G R)) → (∀ b o, b ≠ x → H b = some o → H' b = some o) → Q .non H'
theorem its_same {H H' : Hp} {g : Gd} {us : List V} {xs : List (El g)} (h : Paired (ItV K H g) us xs) (s : ∀ b o, H b = some o → H' b = some o) : Paired (ItV K H' g) us xs := Paired.mapP h fun _ _ n => n.same s
theorem ItV.upd0 {H : Hp} {x C dx : Addr} {o : HO} {g : Gd} (hx : H x = some (.ins C dx [])) {v : V} {y : El g} (h : ItV K H g v y) : ItV K (upd H x o) g v y := by
  rcases h with h | ⟨a, rfl, n⟩
  · exact .inl h
  refine .inr ⟨a, rfl, ?_⟩
  have kq : ∀ dq p q, H a = some (.ins (cQ K) dq (qf p q)) → upd H x o a = some (.ins (cQ K) dq (qf p q)) := fun dq p q e => by
    rw [upd_ne (ne_of e hx (by intro z; injection z with _ _ z; cases z))]; exact e
  have kz : ∀ dq p q, H a = some (.ins (cZ K) dq (zf p q)) → upd H x o a = some (.ins (cZ K) dq (zf p q)) := fun dq p q e => by
    rw [upd_ne (ne_of e hx (by intro z; injection z with _ _ z; cases z))]; exact e
  cases g with
  | q => obtain ⟨dx, e⟩ := n; exact ⟨dx, kq _ _ _ e⟩
  | p2 => obtain ⟨dx, e⟩ := n; exact ⟨dx, kz _ _ _ e⟩
  | p3 => obtain ⟨dx, e⟩ := n; exact ⟨dx, kz _ _ _ e⟩
  | p5 => obtain ⟨dx, e⟩ := n; exact ⟨dx, kz _ _ _ e⟩
  | p7 => obtain ⟨dx, e⟩ := n; exact ⟨dx, kz _ _ _ e⟩
theorem scPInit : FnScope ["self", "ground", "row", "item"] ["self", "ground", "row"] (defScope sPInit) := ⟨rfl, rfl, rfl, by decide +kernel, rfl, by decide +kernel, by decide +kernel⟩
theorem ok_PInit {f : Addr} {fd : FuncData} (T : Txt K mg) (F : FnP K dPInit f fd) (GT : GFn P w K mg base CX0 2 "trimmed" ["row"] [] (spTrim K)) (GA : GFn P w K mg base CX0 8 "taken" ["ground", "item"] [] (spTaken K)) :
    FnOk P w K mg base CX0 9 f fd ["self", "ground", "row"] (spPInit K) := by
  refine okN F scPInit (fun vs H Q E h => ?_) (fun cdv A outer s H vs Q E hr h => ?_)
  · obtain ⟨x, dx, G, r, g, us, xs, rfl, _⟩ := h
    rfl
  · obtain ⟨x, dx, G, r, g, us, xs, rfl, hx, ⟨dG, hG⟩, hrow, hi, hl, q⟩ := h
    have l1 := pr_len hi
    refine ⟨_, pss_cons (ps_if (pt_not (pt_val (pe_callB call_isiT (by rfl) T.b_isinstance (by decide +kernel) (pa_cons (pv 2) (pa_cons (pe_tup (pa_cons (pe_tyList T.b_list) (pa_cons (pe_tyTup T.b_tuple) pa_nil))) pa_nil))))) (pss_one ps_never) pss_nil)
      (pss_cons (ps_fld (pv 0) (pv 1) rfl)
      (pss_one (ps_fld (pv 0) (pe_g GT (hr.mono (by decide)) pass0 (pa_cons (pe_lc (own := [("item", 3)]) (g := gName 3) (tt := tYes) rfl scPInit.nd (PI.or (pi_list (pv 2)) (pi_tup (pv 2)))
        (blkOk_by (N := ["self", "ground", "row", "item"]) (sc := defScope sPInit) (by decide +kernel)) (fun _ _ _ _ _ => pg_name (i := 3) scPInit.nd rfl (Or.inl rfl)) (fun _ _ _ _ _ => pts_nil)
        (fun _ _ _ _ _ => pe_g (sp := spTaken K) (dvs := []) (E := E0) GA hr pass0 (pa_cons (pv 1) (pa_cons (pv 3) pa_nil)))) pa_nil)) rfl))), ?_⟩
    refine ⟨_, rfl, by show 2 ≤ sizeLine; decide, fun tp htp => ?_⟩
    have s1 := same_upd (o := .tup [.ty "list", .ty "tuple"]) htp
    have htt : upd H tp (.tup [.ty "list", .ty "tuple"]) tp = some (.tup [.ty "list", .ty "tuple"]) := upd_same
    generalize upd H tp (.tup [.ty "list", .ty "tuple"]) = H1 at s1 htt ⊢
    have hx1 := s1 _ _ hx
    have hi1 : Paired (ItV K (upd H1 x (.ins (cP K) dx [("ground", .ref G)])) g) us xs := Paired.mapP (its_same hi s1) fun _ _ n => n.upd0 hx1
    have hG1 : GAt K (upd H1 x (.ins (cP K) dx [("ground", .ref G)])) G g := ⟨dG, by
      rw [upd_ne (ne_of (s1 _ _ hG) hx1 (by intro z; injection z with _ _ z; cases z))]; exact s1 _ _ hG⟩
    have hx2 : upd H1 x (.ins (cP K) dx [("ground", .ref G)]) x = some (.ins (cP K) dx [("ground", .ref G)]) := upd_same
    have k1 : ∀ b o, b ≠ x → H b = some o → upd H1 x (.ins (cP K) dx [("ground", .ref G)]) b = some o := fun b o hb e => by rw [upd_ne hb]; exact s1 _ _ e
    -- the end
    have fin : ∀ (D : Addr) (H2 : Hp), upd H1 x (.ins (cP K) dx [("ground", .ref G)]) D = none → LcI K (upd H1 x (.ins (cP K) dx [("ground", .ref G)])) D g xs xs.length H2 →
        spTrim K [.ref D] H2 (fun v H3 => ∃ v0, (start ["self", "ground", "row", "item"] [V.ref x, V.ref G, V.ref r])[0]? = some (some v0) ∧ ∃ a C d fs, v0 = .ref a ∧ H3 a = some (.ins C d fs) ∧ Cls K C ∧ NoAttr K C "row" ∧ fs.length < 1000 ∧ Q .non (upd H3 a (.ins C d (putF "row" v fs)))) E0 := fun D H2 hD c => by
      refine ⟨D, g, xs, rfl, c.done, hl, fun H3 p s3 tp3 => ?_⟩
      have hx3 := s3 _ _ (c.same _ _ hx2)
      refine ⟨_, rfl, x, cP K, dx, _, rfl, hx3, T.oP.cl, T.nPr, (by show 1 < 1000; decide), ?_⟩
      obtain ⟨vs3, h3, n3⟩ := tp3
      refine q _ p ⟨vs3, ?_, Paired.mapP n3 fun _ _ n => n.updX hx3⟩ ?_ fun b o hb e => ?_
      · rw [upd_ne (ne_of h3 hx3 (by intro z; cases z))]; exact h3
      · rw [upd_same]
        exact congrArg (fun z => some (HO.ins (cP K) dx z)) (pf_mk G p)
      · rw [upd_ne hb]
        exact s3 _ _ (c.same _ _ (k1 b o hb e))
    rcases hrow with hrow | hrow
    · refine ⟨_, tp, _, _, _, true, rfl, htt, .cons (.ty "list") (.cons (.ty "tuple") .nil), .base (.lst (s1 _ _ hrow)), kitAny_cons (b := true) kit_self (fun z => nomatch z) (fun _ => rfl), true, rfl, iteF ?_⟩
      refine ⟨_, rfl, _, rfl, x, cP K, dx, _, rfl, hx1, T.oP.cl, T.nPg, (by show 0 < 1000; decide), ?_⟩
      have hr2 : upd H1 x (.ins (cP K) dx [("ground", .ref G)]) r = some (.lst us) := by
        rw [upd_ne (ne_of (s1 _ _ hrow) hx1 (by intro z; cases z))]; exact s1 _ _ hrow
      refine .inl ⟨_, rfl, r, rfl, ⟨us, SqL.of hr2⟩, fun D hD => lc_list (xs := us) (LcI K (upd H1 x (.ins (cP K) dx [("ground", .ref G)])) D g xs) (LcI.start hD) (fun i H2 _ c => SqL.of (c.same _ _ hr2)) ?_ ?_⟩
      · intro i v H2 hv c
        obtain ⟨y, ey, ny⟩ := pr_getL hi1 hv
        refine ⟨rfl, ?_⟩
        exact ⟨_, rfl, _, rfl, G, v, g, y, rfl, hG1.same c.same, ny.same c.same, fun H3 p s3 np => c.step s3 ey hl np⟩
      · intro H2 c
        rw [l1] at c
        exact fin D H2 hD c
    · refine ⟨_, tp, _, _, _, true, rfl, htt, .cons (.ty "list") (.cons (.ty "tuple") .nil), .base (.tup (s1 _ _ hrow)), kitAny_cons (b := false) (kit_ty (by decide +kernel)) (fun _ => kitAny_cons (b := true) kit_self (fun z => nomatch z) (fun _ => rfl)) (fun z => nomatch z), true, rfl, iteF ?_⟩
      refine ⟨_, rfl, _, rfl, x, cP K, dx, _, rfl, hx1, T.oP.cl, T.nPg, (by show 0 < 1000; decide), ?_⟩
      have hr2 : upd H1 x (.ins (cP K) dx [("ground", .ref G)]) r = some (.tup us) := by
        rw [upd_ne (ne_of (s1 _ _ hrow) hx1 (by intro z; cases z))]; exact s1 _ _ hrow
      refine .inr ⟨_, rfl, r, rfl, ⟨us, SqT.of hr2⟩, fun D hD => lc_tup (xs := us) (LcI K (upd H1 x (.ins (cP K) dx [("ground", .ref G)])) D g xs) (LcI.start hD) (fun i H2 _ c => SqT.of (c.same _ _ hr2)) ?_ ?_⟩
      · intro i v H2 hv c
        obtain ⟨y, ey, ny⟩ := pr_getL hi1 hv
        refine ⟨rfl, ?_⟩
        exact ⟨_, rfl, _, rfl, G, v, g, y, rfl, hG1.same c.same, ny.same c.same, fun H3 p s3 np => c.step s3 ey hl np⟩
      · intro H2 c
        rw [l1] at c
        exact fin D H2 hD c
/-- Poly(G, r), as a caller sees it -/
theorem mk_poly {H1 : Hp} {Q : VK} {E : XK} {g : Gd} {G r : Addr} {us : List V} {xs : List (El g)} (hG : GAt K H1 G g) (hr : H1 r = some (.lst us) ∨ H1 r = some (.tup us)) (hi : Paired (ItV K H1 g) us xs) (hl : xs.length ≤ 1000)
    (q : ∀ H' p, Same H1 H' → PAt K H' p g (trim xs) → Q (.ref p) H') :
    ∀ x dx, H1 x = none → H1 dx = none → dx ≠ x → spPInit K (.ref x :: [.ref G, .ref r]) (upd (upd H1 dx (.own x)) x (.ins (cP K) dx [])) (fun v H2 => v = .non ∧ Q (.ref x) H2) E := fun x dx nx nd ne => by
  have s1 : Same H1 (upd (upd H1 dx (.own x)) x (.ins (cP K) dx [])) := fun b u e => by
    rw [upd_ne (ne_of_none e nx), upd_ne (ne_of_none e nd)]; exact e
  refine ⟨x, dx, G, r, g, us, xs, rfl, upd_same, hG.same s1, hr.imp (s1 _ _) (s1 _ _), its_same hi s1, hl, fun H' R tr hx k => ⟨rfl, ?_⟩⟩
  have s2 : Same H1 H' := fun b o e => k b o (ne_of_none e nx) (s1 _ _ e)
  exact q H' x s2 ⟨dx, G, R, hx, hG.same s2, tr⟩
theorem its_of {H : Hp} {g : Gd} {us : List V} {xs : List (El g)} (h : NsV K H g us xs) : Paired (ItV K H g) us xs := Paired.mapP h fun _ _ n => .inr n
end
end K9

namespace K9
open PySem PySem.Spec PyProof.Rows L2
section
variable {P : Program} {w : World} {K : PySem.W.Frag} {mg : Str → Option Value} {base : Heap}
abbrev MGEq (P : Program) (w : World) (K : PySem.W.Frag) (mg : Str → Option Value) (base : Heap) : Prop := MFn P w K mg base CX0 1 (cG K) "__eq__" ["self", "other"] [] (spGEq K)
/-! ### check_grounds -/
def spChk (K : PySem.W.Frag) : Sp := fun vs H Q E => ∃ (a b : Addr) (g g' : Gd) (xs : List (El g)) (ys : List (El g')), vs = [.ref a, .ref b] ∧ PAt K H a g xs ∧ PAt K H b g' ys ∧ (g = g' → Q .non H) ∧ (g ≠ g' → E (.ref (cM K)) none H)
theorem scChk : FnScope ["f", "g"] ["f", "g"] (defScope sChk) := ⟨rfl, rfl, rfl, by decide +kernel, rfl, by decide +kernel, by decide +kernel⟩
theorem ok_Chk {f : Addr} {fd : FuncData} (T : Txt K mg) (F : FnP K dChk f fd) (ME : MGEq P w K mg base) : FnOk P w K mg base (L2.CX P w) 3 f fd ["f", "g"] (spChk K) := by
  refine okX F scChk (fun vs H Q E h => ?_) (fun cdv A outer s H vs Q E hr h => ?_)
  · obtain ⟨a, b, g, g', xs, ys, rfl, _⟩ := h
    rfl
  · obtain ⟨a, b, g, g', xs, ys, rfl, ⟨da, Ga, Ra, ha, ⟨dg, hg⟩, _⟩, ⟨db, Gb, Rb, hb, ⟨dh, hh⟩, _⟩, q1, q2⟩ := h
    refine ⟨_, pss_one (ps_if (pt_cmpR (op_mNe (E := E0) T.oG ME hr pass0) (pe_fld (pv 0) rfl) (pe_fld (pv 1) rfl) (nomark _))
      (pss_one (ps_raise (W := fun cls d _ H => E cls d H) rfl (takes_of rfl rfl rfl rfl) (pmk_own PySem.F.excBase_ValueError T.xM T.gM T.kM (raises_own T.bM T.tM) (by exact rfl)))) pss_nil), ?_⟩
    refine ⟨_, rfl, a, cP K, da, _, _, rfl, ha, T.oP.cl, T.nPg, pf_g _ _, _, rfl, b, cP K, db, _, _, rfl, hb, T.oP.cl, T.nPg, pf_g _ _, Ga, Gb, dg, dh, _, _, rfl, rfl, hg, hh, Ga, Gb, g, g', rfl, ⟨dg, hg⟩, ⟨dh, hh⟩, _, rfl, _, rfl, ?_⟩
    by_cases e : g = g'
    · refine if_f (by rw [decide_eq_true e] <;> rfl) ?_
      exact q1 e
    · refine if_t (by rw [decide_eq_false e] <;> rfl) ?_
      exact q2 e
abbrev GChk (P : Program) (w : World) (K : PySem.W.Frag) (mg : Str → Option Value) (base : Heap) : Prop := GFn P w K mg base (L2.CX P w) 3 "check_grounds" ["f", "g"] [] (spChk K)
abbrev CPoly (P : Program) (w : World) (K : PySem.W.Frag) (mg : Str → Option Value) (base : Heap) : Prop := CFn P w K mg base CX0 9 "Poly" (cP K) ["self", "ground", "row"] [] (spPInit K)
theorem chk_same {H : Hp} {a b : Addr} {g : Gd} {xs ys : List (El g)} {Q : VK} {E : XK} (ha : PAt K H a g xs) (hb : PAt K H b g ys) (q : Q .non H) : spChk K [.ref a, .ref b] H Q E := ⟨a, b, g, g, xs, ys, rfl, ha, hb, fun _ => q, fun h => absurd rfl h⟩
/-! ### the methods of two polynomials -/
def spP2 (K : PySem.W.Frag) (A : (g : Gd) → List (El g) → List (El g) → Prop) (op : (g : Gd) → List (El g) → List (El g) → List (El g)) : Sp := fun vs H Q _ => ∃ (a b : Addr) (g : Gd) (xs ys : List (El g)), vs = [.ref a, .ref b] ∧ PAt K H a g xs ∧ PAt K H b g ys ∧
  A g xs ys ∧ xs.length ≤ 400 ∧ ys.length ≤ 400 ∧ ∀ H' p, Same H H' → PAt K H' p g (op g xs ys) → Q (.ref p) H'
theorem scPAdd : FnScope ["self", "other"] ["self", "other"] (defScope sPAdd) := ⟨rfl, rfl, rfl, by decide +kernel, rfl, by decide +kernel, by decide +kernel⟩
theorem addRow_len {K : Type} [Fld K] {a b : List K} : (addRow a b).length = max a.length b.length := by
  unfold addRow padTo
  simp
  omega
abbrev GSum (P : Program) (w : World) (K : PySem.W.Frag) (mg : Str → Option Value) (base : Heap) : Prop := GFn P w K mg base CX0 9 "sum_row" ["ground", "a", "b"] [] (spSum K)
theorem ok_PAdd {f : Addr} {fd : FuncData} (T : Txt K mg) (F : FnP K dPAdd f fd) (GC : GChk P w K mg base) (CP : CPoly P w K mg base) (GS : GSum P w K mg base) : FnOk P w K mg base CX0 11 f fd ["self", "other"] (spP2 K (fun _ => AddOk) (fun _ => padd)) := by
  refine okN F scPAdd (fun vs H Q E h => ?_) (fun cdv A outer s H vs Q E hr h => ?_)
  · obtain ⟨a, b, g, xs, ys, rfl, _⟩ := h
    rfl
  · obtain ⟨a, b, g, xs, ys, rfl, pa, pb, ok, lx, ly, q⟩ := h
    obtain ⟨da, Ga, Ra, ha, hg, hra⟩ := id pa
    obtain ⟨db, Gb, Rb, hb, hh, hrb⟩ := id pb
    refine ⟨_, pss_cons (ps_expr (pe_g (E := E0) GC (hr.mono (by decide)) passL (pa_cons (pv 0) (pa_cons (pv 1) pa_nil))))
      (pss_one (ps_ret (pe_c CP hr pass0 (pa_cons (pe_fld (pv 0) rfl) (pa_cons (pe_g GS (hr.mono (by decide)) pass0 (pa_cons (pe_fld (pv 0) rfl) (pa_cons (pe_fld (pv 0) rfl) (pa_cons (pe_fld (pv 1) rfl) pa_nil)))) pa_nil))))), ?_⟩
    refine ⟨_, rfl, _, rfl, a, b, g, g, xs, ys, rfl, pa, pb, fun _ => ?_, fun h => absurd rfl h⟩
    refine ⟨_, rfl, a, cP K, da, _, _, rfl, ha, T.oP.cl, T.nPg, pf_g _ _, _, rfl, a, cP K, da, _, _, rfl, ha, T.oP.cl, T.nPg, pf_g _ _, _, rfl, a, cP K, da, _, _, rfl, ha, T.oP.cl, T.nPr, pf_r _ _, _, rfl, b, cP K, db, _, _, rfl, hb, T.oP.cl, T.nPr, pf_r _ _, ?_⟩
    refine ⟨Ga, Ra, Rb, g, xs, ys, rfl, hg, hra.s, hrb.s, ok, by omega, by omega, fun H1 p s1 lp => ?_⟩
    obtain ⟨vs1, h1, n1⟩ := lp
    exact mk_poly (hg.same s1) (.inl h1) (its_of n1) (by rw [addRow_len]; omega) fun H2 p2 s2 => q H2 p2 (s1.trans s2)
theorem scPSub : FnScope ["self", "other", "c"] ["self", "other"] (defScope sPSub) := ⟨rfl, rfl, rfl, by decide +kernel, rfl, by decide +kernel, by decide +kernel⟩
theorem ok_PSub {f : Addr} {fd : FuncData} (T : Txt K mg) (N : NumP P w K mg base) (F : FnP K dPSub f fd) (GC : GChk P w K mg base) (CP : CPoly P w K mg base) (GS : GSum P w K mg base) : FnOk P w K mg base CX0 11 f fd ["self", "other"] (spP2 K (fun _ xs ys => AddOk xs (negR ys)) (fun _ => psub)) := by
  refine okN F scPSub (fun vs H Q E h => ?_) (fun cdv A outer s H vs Q E hr h => ?_)
  · obtain ⟨a, b, g, xs, ys, rfl, _⟩ := h
    rfl
  · obtain ⟨a, b, g, xs, ys, rfl, pa, pb, ok, lx, ly, q⟩ := h
    have hr5 : Room 5 _ := hr.mono (by decide)
    obtain ⟨da, Ga, Ra, ha, hg, hra⟩ := id pa
    obtain ⟨db, Gb, Rb, hb, hh, ⟨ws, hrb, hw⟩⟩ := id pb
    refine ⟨_, pss_cons (ps_expr (pe_g (E := E0) GC (hr.mono (by decide)) passL (pa_cons (pv 0) (pa_cons (pv 1) pa_nil))))
      (pss_one (ps_ret (pe_c CP hr pass0 (pa_cons (pe_fld (pv 0) rfl) (pa_cons (pe_g GS (hr.mono (by decide)) pass0 (pa_cons (pe_fld (pv 0) rfl) (pa_cons (pe_fld (pv 0) rfl)
        (pa_cons (pe_lc (own := [("c", 2)]) (g := gName 2) (tt := tYes) rfl scPSub.nd (pi_tup (pe_fld (pv 1) rfl)) (blkOk_by (N := ["self", "other", "c"]) (sc := defScope sPSub) (by decide +kernel)) (fun _ _ _ _ _ => pg_name (i := 2) scPSub.nd rfl (Or.inl rfl)) (fun _ _ _ _ _ => pts_nil)
          (fun _ _ _ _ _ => pe_un (r := rNumNeg K) (un_nNeg T N hr5) (pv 2))) pa_nil)))) pa_nil))))), ?_⟩
    refine ⟨_, rfl, _, rfl, a, b, g, g, xs, ys, rfl, pa, pb, fun _ => ?_, fun h => absurd rfl h⟩
    refine ⟨_, rfl, a, cP K, da, _, _, rfl, ha, T.oP.cl, T.nPg, pf_g _ _, _, rfl, a, cP K, da, _, _, rfl, ha, T.oP.cl, T.nPg, pf_g _ _, _, rfl, a, cP K, da, _, _, rfl, ha, T.oP.cl, T.nPr, pf_r _ _, _, rfl, b, cP K, db, _, _, rfl, hb, T.oP.cl, T.nPr, pf_r _ _, ?_⟩
    refine ⟨Rb, rfl, ⟨ws, SqT.of hrb⟩, fun D hD => lc_tup (xs := ws) (LcI K H D g (negR ys)) (LcI.start hD) (fun i H2 _ c => SqT.of (c.same _ _ hrb)) ?_ ?_⟩
    · intro i v H2 hv c
      obtain ⟨y, ey, ny⟩ := pr_getL hw hv
      refine ⟨rfl, ?_⟩
      refine ⟨_, rfl, g, y, ny.same c.same, Fld.ok_neg _ (ok.ob _ (List.mem_map.mpr ⟨y, List.mem_of_getElem? ey, rfl⟩)), fun H3 p s3 np => c.step s3 ?_ (by unfold negR; rw [List.length_map]; omega) np⟩
      show (ys.map fun x => -x)[i]? = _
      rw [List.getElem?_map, ey]
      rfl
    · intro H2 c
      have e : ws.length = (negR ys).length := by rw [pr_len hw]; unfold negR; rw [List.length_map]
      rw [e] at c
      have s2 := c.same
      refine ⟨Ga, Ra, D, g, xs, negR ys, rfl, hg.same s2, (hra.same s2).s, c.done.s, ok, by omega, by unfold negR; rw [List.length_map]; omega, fun H1 p s1 lp => ?_⟩
      obtain ⟨vs1, h1, n1⟩ := lp
      exact mk_poly (hg.same (s2.trans s1)) (.inl h1) (its_of n1) (by rw [addRow_len]; unfold negR; rw [List.length_map]; omega) fun H3 p2 s3 => q H3 p2 ((s2.trans s1).trans s3)
abbrev GProd (P : Program) (w : World) (K : PySem.W.Frag) (mg : Str → Option Value) (base : Heap) : Prop := GFn P w K mg base CX0 9 "product_row" ["ground", "a", "b"] [] (spProd K)
theorem scPMul : FnScope ["self", "other"] ["self", "other"] (defScope sPMul) := ⟨rfl, rfl, rfl, by decide +kernel, rfl, by decide +kernel, by decide +kernel⟩
theorem ok_PMul {f : Addr} {fd : FuncData} (T : Txt K mg) (F : FnP K dPMul f fd) (GC : GChk P w K mg base) (CP : CPoly P w K mg base) (GS : GProd P w K mg base) : FnOk P w K mg base CX0 11 f fd ["self", "other"] (spP2 K (fun _ => MulOk) (fun _ => pmul)) := by
  refine okN F scPMul (fun vs H Q E h => ?_) (fun cdv A outer s H vs Q E hr h => ?_)
  · obtain ⟨a, b, g, xs, ys, rfl, _⟩ := h
    rfl
  · obtain ⟨a, b, g, xs, ys, rfl, pa, pb, ok, lx, ly, q⟩ := h
    obtain ⟨da, Ga, Ra, ha, hg, hra⟩ := id pa
    obtain ⟨db, Gb, Rb, hb, hh, hrb⟩ := id pb
    refine ⟨_, pss_cons (ps_expr (pe_g (E := E0) GC (hr.mono (by decide)) passL (pa_cons (pv 0) (pa_cons (pv 1) pa_nil))))
      (pss_one (ps_ret (pe_c CP hr pass0 (pa_cons (pe_fld (pv 0) rfl) (pa_cons (pe_g GS (hr.mono (by decide)) pass0 (pa_cons (pe_fld (pv 0) rfl) (pa_cons (pe_fld (pv 0) rfl) (pa_cons (pe_fld (pv 1) rfl) pa_nil)))) pa_nil))))), ?_⟩
    refine ⟨_, rfl, _, rfl, a, b, g, g, xs, ys, rfl, pa, pb, fun _ => ?_, fun h => absurd rfl h⟩
    refine ⟨_, rfl, a, cP K, da, _, _, rfl, ha, T.oP.cl, T.nPg, pf_g _ _, _, rfl, a, cP K, da, _, _, rfl, ha, T.oP.cl, T.nPg, pf_g _ _, _, rfl, a, cP K, da, _, _, rfl, ha, T.oP.cl, T.nPr, pf_r _ _, _, rfl, b, cP K, db, _, _, rfl, hb, T.oP.cl, T.nPr, pf_r _ _, ?_⟩
    refine ⟨Ga, Ra, Rb, g, xs, ys, rfl, hg, hra, hrb, ok, lx, ly, fun H1 p s1 lp => ?_⟩
    obtain ⟨vs1, h1, n1⟩ := lp
    exact mk_poly (hg.same s1) (.inl h1) (its_of n1) (by rw [mulRow_len]; omega) fun H2 p2 s2 => q H2 p2 (s1.trans s2)
/-! ### // and % -/
def DvOk {K : Type} [Fld K] (xs ys : List K) : Prop := ys ≠ [] ∧ lst ys ≠ 0 ∧ DivOk xs ys
theorem divGo_len {K : Type} [Fld K] (b : List K) (h : K) : ∀ (j : Nat) (r q : List K), (divGo b h j r q).1.length = j + q.length ∧ (divGo b h j r q).2.length ≤ r.length + j * b.length
  | 0, r, q => by
    show q.length = 0 + q.length ∧ r.length ≤ r.length + 0 * b.length
    omega
  | j + 1, r, q => by
    have ih := divGo_len b h j (divRest b r (lst r * h) j) (lst r * h :: q)
    show (divGo b h j (divRest b r (lst r * h) j) (lst r * h :: q)).1.length = j + 1 + q.length ∧ (divGo b h j (divRest b r (lst r * h) j) (lst r * h :: q)).2.length ≤ r.length + (j + 1) * b.length
    have hl : (divRest b r (lst r * h) j).length ≤ r.length + b.length := by
      unfold divRest
      rw [List.length_append, List.length_take, List.length_map, List.length_range]
      omega
    have e : (j + 1) * b.length = j * b.length + b.length := Nat.succ_mul _ _
    rw [ih.1, List.length_cons]
    have := ih.2
    omega
abbrev GDiv (P : Program) (w : World) (K : PySem.W.Frag) (mg : Str → Option Value) (base : Heap) : Prop := GFn P w K mg base CX0 6 "division" ["ground", "a", "b"] [] (spDiv K)
theorem scPFdiv : FnScope ["self", "other"] ["self", "other"] (defScope sPFdiv) := ⟨rfl, rfl, rfl, by decide +kernel, rfl, by decide +kernel, by decide +kernel⟩
theorem ok_PFdiv {f : Addr} {fd : FuncData} (T : Txt K mg) (F : FnP K dPFdiv f fd) (GC : GChk P w K mg base) (CP : CPoly P w K mg base) (GD : GDiv P w K mg base) : FnOk P w K mg base CX0 11 f fd ["self", "other"] (spP2 K (fun _ => DvOk) (fun _ => pdiv)) := by
  refine okN F scPFdiv (fun vs H Q E h => ?_) (fun cdv A outer s H vs Q E hr h => ?_)
  · obtain ⟨a, b, g, xs, ys, rfl, _⟩ := h
    rfl
  · obtain ⟨a, b, g, xs, ys, rfl, pa, pb, ⟨hne, hlz, ok⟩, lx, ly, q⟩ := h
    obtain ⟨da, Ga, Ra, ha, hg, hra⟩ := id pa
    obtain ⟨db, Gb, Rb, hb, hh, hrb⟩ := id pb
    refine ⟨_, pss_cons (ps_expr (pe_g (E := E0) GC (hr.mono (by decide)) passL (pa_cons (pv 0) (pa_cons (pv 1) pa_nil))))
      (pss_one (ps_ret (pe_c CP hr pass0 (pa_cons (pe_fld (pv 0) rfl) (pa_cons (pe_ix ix_tup (pe_g GD (hr.mono (by decide)) pass0 (pa_cons (pe_fld (pv 0) rfl) (pa_cons (pe_fld (pv 0) rfl) (pa_cons (pe_fld (pv 1) rfl) pa_nil)))) pe_int (fun _ _ => rfl)) pa_nil))))), ?_⟩
    refine ⟨_, rfl, _, rfl, a, b, g, g, xs, ys, rfl, pa, pb, fun _ => ?_, fun h => absurd rfl h⟩
    refine ⟨_, rfl, a, cP K, da, _, _, rfl, ha, T.oP.cl, T.nPg, pf_g _ _, _, rfl, a, cP K, da, _, _, rfl, ha, T.oP.cl, T.nPg, pf_g _ _, _, rfl, a, cP K, da, _, _, rfl, ha, T.oP.cl, T.nPr, pf_r _ _, _, rfl, b, cP K, db, _, _, rfl, hb, T.oP.cl, T.nPr, pf_r _ _, ?_⟩
    refine ⟨Ga, Ra, Rb, g, xs, ys, rfl, hra, hrb, hne, hlz, ok, lx, ly, fun H1 p qp rp s1 hp hq hr1 => ?_⟩
    refine ⟨p, _, 0, .ref qp, rfl, rfl, SqT.of hp, rfl, ?_⟩
    obtain ⟨vs1, h1, n1⟩ := hq
    have hl := (divGo_len ys (Fld.inv (lst ys)) (xs.length + 1 - ys.length) xs []).1
    exact mk_poly (hg.same s1) (.inr h1) (its_of n1) (by show (divGo ys (Fld.inv (lst ys)) (xs.length + 1 - ys.length) xs []).1.length ≤ 1000; rw [hl]; simp; omega) fun H2 p2 s2 => q H2 p2 (s1.trans s2)
theorem divGo_len2 {K : Type} [Fld K] {b : List K} {h : K} (hb : 0 < b.length) : ∀ (j : Nat) (r q : List K), j ≤ r.length → (0 < j → r.length + 1 = j + b.length) → (divGo b h j r q).2.length + (if j = 0 then 0 else 1) = (if j = 0 then r.length else b.length)
  | 0, r, q, _, _ => rfl
  | j + 1, r, q, h1, h2 => by
    have hl := h2 (Nat.succ_pos _)
    have l2 := divRest_len (b := b) (r := r) (c := lst r * h) (j := j) (by omega) hb
    have ih := divGo_len2 (h := h) hb j (divRest b r (lst r * h) j) (lst r * h :: q) (by omega) (fun _ => l2)
    show (divGo b h j (divRest b r (lst r * h) j) (lst r * h :: q)).2.length + 1 = b.length
    cases j with
    | zero =>
      simp at ih
      omega
    | succ i =>
      simp at ih
      omega
theorem divRow_len {K : Type} [Fld K] {a b : List K} (hb : 0 < b.length) : (divRow a b).2.length ≤ max a.length b.length := by
  have := divGo_len2 (h := Fld.inv (lst b)) hb (a.length + 1 - b.length) a [] (by omega) (fun _ => by omega)
  show (divGo b (Fld.inv (lst b)) (a.length + 1 - b.length) a []).2.length ≤ _
  by_cases e : a.length + 1 - b.length = 0
  · rw [if_pos e, if_pos e] at this; omega
  · rw [if_neg e, if_neg e] at this; omega
theorem scPMod : FnScope ["self", "other"] ["self", "other"] (defScope sPMod) := ⟨rfl, rfl, rfl, by decide +kernel, rfl, by decide +kernel, by decide +kernel⟩
theorem ok_PMod {f : Addr} {fd : FuncData} (T : Txt K mg) (F : FnP K dPMod f fd) (GC : GChk P w K mg base) (CP : CPoly P w K mg base) (GD : GDiv P w K mg base) : FnOk P w K mg base CX0 11 f fd ["self", "other"] (spP2 K (fun _ => DvOk) (fun _ => pmod)) := by
  refine okN F scPMod (fun vs H Q E h => ?_) (fun cdv A outer s H vs Q E hr h => ?_)
  · obtain ⟨a, b, g, xs, ys, rfl, _⟩ := h
    rfl
  · obtain ⟨a, b, g, xs, ys, rfl, pa, pb, ⟨hne, hlz, ok⟩, lx, ly, q⟩ := h
    obtain ⟨da, Ga, Ra, ha, hg, hra⟩ := id pa
    obtain ⟨db, Gb, Rb, hb, hh, hrb⟩ := id pb
    refine ⟨_, pss_cons (ps_expr (pe_g (E := E0) GC (hr.mono (by decide)) passL (pa_cons (pv 0) (pa_cons (pv 1) pa_nil))))
      (pss_one (ps_ret (pe_c CP hr pass0 (pa_cons (pe_fld (pv 0) rfl) (pa_cons (pe_ix ix_tup (pe_g GD (hr.mono (by decide)) pass0 (pa_cons (pe_fld (pv 0) rfl) (pa_cons (pe_fld (pv 0) rfl) (pa_cons (pe_fld (pv 1) rfl) pa_nil)))) pe_int (fun _ _ => rfl)) pa_nil))))), ?_⟩
    refine ⟨_, rfl, _, rfl, a, b, g, g, xs, ys, rfl, pa, pb, fun _ => ?_, fun h => absurd rfl h⟩
    refine ⟨_, rfl, a, cP K, da, _, _, rfl, ha, T.oP.cl, T.nPg, pf_g _ _, _, rfl, a, cP K, da, _, _, rfl, ha, T.oP.cl, T.nPg, pf_g _ _, _, rfl, a, cP K, da, _, _, rfl, ha, T.oP.cl, T.nPr, pf_r _ _, _, rfl, b, cP K, db, _, _, rfl, hb, T.oP.cl, T.nPr, pf_r _ _, ?_⟩
    refine ⟨Ga, Ra, Rb, g, xs, ys, rfl, hra, hrb, hne, hlz, ok, lx, ly, fun H1 p qp rp s1 hp hq hr1 => ?_⟩
    refine ⟨p, _, 1, .ref rp, rfl, rfl, SqT.of hp, rfl, ?_⟩
    obtain ⟨vs1, h1, n1⟩ := hr1
    have hl := divRow_len (a := xs) (b := ys) (List.length_pos_iff.mpr hne)
    exact mk_poly (hg.same s1) (.inr h1) (its_of n1) (by omega) fun H2 p2 s2 => q H2 p2 (s1.trans s2)
/-! ### ==, degree, is_zero, scaled, monic -/
def spPEq (K : PySem.W.Frag) : Sp := fun vs H Q _ => ∃ (a b : Addr) (g : Gd) (xs : List (El g)), vs = [.ref a, .ref b] ∧ PAt K H a g xs ∧ PAt K H b g xs ∧ ∀ H', Same H H' → Q (.bl true) H'
theorem scPEq : FnScope ["self", "other"] ["self", "other"] (defScope sPEq) := ⟨rfl, rfl, rfl, by decide +kernel, rfl, by decide +kernel, by decide +kernel⟩
theorem ok_PEq {f : Addr} {fd : FuncData} (T : Txt K mg) (N : NumP P w K mg base) (F : FnP K dPEq f fd) (ME : MGEq P w K mg base) : FnOk P w K mg base CX0 3 f fd ["self", "other"] (spPEq K) := by
  refine okN F scPEq (fun vs H Q E h => ?_) (fun cdv A outer s H vs Q E hr h => ?_)
  · obtain ⟨a, b, g, xs, rfl, _⟩ := h
    rfl
  · obtain ⟨a, b, g, xs, rfl, ⟨da, Ga, Ra, ha, ⟨dg, hg⟩, hra⟩, ⟨db, Gb, Rb, hb, ⟨dh, hh⟩, hrb⟩, q⟩ := h
    refine ⟨_, pss_one (ps_ret (pe_and (pe_callB call_isi (by rfl) T.b_isinstance (by decide +kernel) (pa_cons (pv 1) (pa_cons (pe_own T.gP) pa_nil)))
      (pe_and (pe_cmpR (op_mEq (E := E0) ME (hr.mono (by decide)) pass0) (pe_fld (pv 0) rfl) (pe_fld (pv 1) rfl) (nomark _)) (pe_one (pe_cmpR (op_rowEq N hr) (pe_fld (pv 0) rfl) (pe_fld (pv 1) rfl) (nomark _)))))), ?_⟩
    refine ⟨_, rfl, _, _, _, _, true, rfl, .own _, T.oP.ty hb, kit_self, true, rfl, iteT ?_⟩
    refine ⟨_, rfl, a, cP K, da, _, _, rfl, ha, T.oP.cl, T.nPg, pf_g _ _, _, rfl, b, cP K, db, _, _, rfl, hb, T.oP.cl, T.nPg, pf_g _ _, Ga, Gb, dg, dh, _, _, rfl, rfl, hg, hh, Ga, Gb, g, g, rfl, ⟨dg, hg⟩, ⟨dh, hh⟩, _, rfl, if_t (decide_eq_true rfl) ?_⟩
    exact ⟨_, rfl, a, cP K, da, _, _, rfl, ha, T.oP.cl, T.nPr, pf_r _ _, _, rfl, b, cP K, db, _, _, rfl, hb, T.oP.cl, T.nPr, pf_r _ _, Ra, Rb, g, xs, rfl, rfl, hra, hrb, q⟩
def spPDeg (K : PySem.W.Frag) : Sp := fun vs H Q _ => ∃ (a : Addr) (g : Gd) (xs : List (El g)), vs = [.ref a] ∧ PAt K H a g xs ∧ Q (.int ((xs.length : Int) - 1)) H
theorem scPDeg : FnScope ["self"] ["self"] (defScope sPDeg) := ⟨rfl, rfl, rfl, by decide +kernel, rfl, by decide +kernel, by decide +kernel⟩
theorem ok_PDeg {f : Addr} {fd : FuncData} (T : Txt K mg) (F : FnP K dPDeg f fd) : FnOk P w K mg base CX0 1 f fd ["self"] (spPDeg K) := by
  refine okN F scPDeg (fun vs H Q E h => ?_) (fun cdv A outer s H vs Q E hr h => ?_)
  · obtain ⟨a, g, xs, rfl, _⟩ := h
    rfl
  · obtain ⟨a, g, xs, rfl, ⟨da, Ga, Ra, ha, hg, ⟨us, hra, hu⟩⟩, q⟩ := h
    refine ⟨_, pss_one (ps_ret (pe_op op_sub (pe_callB call_len_seq (by rfl) T.b_len PySem.boot_len (pa_cons (pe_fld (pv 0) rfl) pa_nil)) pe_int)), ?_⟩
    refine ⟨_, rfl, a, cP K, da, _, _, rfl, ha, T.oP.cl, T.nPr, pf_r _ _, Ra, us, rfl, .inr (SqT.of hra), _, _, rfl, rfl, ?_⟩
    rw [pr_len hu]
    exact q
def spPZer (K : PySem.W.Frag) : Sp := fun vs H Q _ => ∃ (a : Addr) (g : Gd) (xs : List (El g)), vs = [.ref a] ∧ PAt K H a g xs ∧ Q (.bl (decide (xs = []))) H
theorem scPZer : FnScope ["self"] ["self"] (defScope sPZer) := ⟨rfl, rfl, rfl, by decide +kernel, rfl, by decide +kernel, by decide +kernel⟩
theorem ok_PZer {f : Addr} {fd : FuncData} (T : Txt K mg) (F : FnP K dPZer f fd) : FnOk P w K mg base CX0 1 f fd ["self"] (spPZer K) := by
  refine okN F scPZer (fun vs H Q E h => ?_) (fun cdv A outer s H vs Q E hr h => ?_)
  · obtain ⟨a, g, xs, rfl, _⟩ := h
    rfl
  · obtain ⟨a, g, xs, rfl, ⟨da, Ga, Ra, ha, hg, ⟨us, hra, hu⟩⟩, q⟩ := h
    refine ⟨_, pss_one (ps_ret (pe_cmpR op_eq (pe_callB call_len_seq (by rfl) T.b_len PySem.boot_len (pa_cons (pe_fld (pv 0) rfl) pa_nil)) pe_int (nomark _))), ?_⟩
    refine ⟨_, rfl, a, cP K, da, _, _, rfl, ha, T.oP.cl, T.nPr, pf_r _ _, Ra, us, rfl, .inr (SqT.of hra), rfl, ?_⟩
    have e : decide (V.int (us.length : Int) = V.int 0) = decide (xs = []) := by
      rw [Bool.eq_iff_iff, pr_len hu]
      simp
    rw [e]
    exact q
def spPScal (K : PySem.W.Frag) : Sp := fun vs H Q _ => ∃ (a : Addr) (v : V) (g : Gd) (xs : List (El g)) (c : El g), vs = [.ref a, v] ∧ PAt K H a g xs ∧ NV K H g v c ∧ ScOk c xs ∧ xs.length ≤ 1000 ∧ ∀ H' p, Same H H' → PAt K H' p g (scaled c xs) → Q (.ref p) H'
theorem scPScal : FnScope ["self", "c", "x"] ["self", "c"] (defScope sPScal) := ⟨rfl, rfl, rfl, by decide +kernel, rfl, by decide +kernel, by decide +kernel⟩
theorem ok_PScal {f : Addr} {fd : FuncData} (T : Txt K mg) (N : NumP P w K mg base) (F : FnP K dPScal f fd) (CP : CPoly P w K mg base) : FnOk P w K mg base CX0 11 f fd ["self", "c"] (spPScal K) := by
  refine okN F scPScal (fun vs H Q E h => ?_) (fun cdv A outer s H vs Q E hr h => ?_)
  · obtain ⟨a, v, g, xs, c, rfl, _⟩ := h
    rfl
  · obtain ⟨a, v, g, xs, c, rfl, ⟨da, Ga, Ra, ha, hg, ⟨us, hra, hu⟩⟩, nv, ok, hl, q⟩ := h
    have hr5 : Room 5 _ := hr.mono (by decide)
    refine ⟨_, pss_one (ps_ret (pe_c CP hr pass0 (pa_cons (pe_fld (pv 0) rfl) (pa_cons (pe_lc (own := [("x", 2)]) (g := gName 2) (tt := tYes) rfl scPScal.nd (pi_tup (pe_fld (pv 0) rfl)) (blkOk_by (N := ["self", "c", "x"]) (sc := defScope sPScal) (by decide +kernel)) (fun _ _ _ _ _ => pg_name (i := 2) scPScal.nd rfl (Or.inl rfl)) (fun _ _ _ _ _ => pts_nil)
          (fun _ _ _ _ _ => pe_op (r := rNum2 K fun _ a b => a * b) (op_nMul T N hr5) (pv 1) (pv 2))) pa_nil)))), ?_⟩
    refine ⟨_, rfl, a, cP K, da, _, _, rfl, ha, T.oP.cl, T.nPg, pf_g _ _, _, rfl, a, cP K, da, _, _, rfl, ha, T.oP.cl, T.nPr, pf_r _ _, ?_⟩
    refine ⟨Ra, rfl, ⟨us, SqT.of hra⟩, fun D hD => lc_tup (xs := us) (LcI K H D g (xs.map fun x => c * x)) (LcI.start hD) (fun i H2 _ cc => SqT.of (cc.same _ _ hra)) ?_ ?_⟩
    · intro i y H2 hv cc
      obtain ⟨z, ez, nz⟩ := pr_getL hu hv
      refine ⟨rfl, ?_⟩
      refine ⟨_, rfl, _, rfl, g, c, z, nv.same cc.same, nz.same cc.same, ok.oc, ok.ol _ (List.mem_of_getElem? ez), fun H3 p s3 np => cc.step s3 ?_ (by rw [List.length_map]; exact hl) np⟩
      rw [List.getElem?_map, ez]
      rfl
    · intro H2 cc
      have e : us.length = (xs.map fun x => c * x).length := by rw [pr_len hu, List.length_map]
      rw [e] at cc
      obtain ⟨vs1, h1, n1⟩ := cc.done
      exact mk_poly (hg.same cc.same) (.inl h1) (its_of n1) (by rw [List.length_map]; exact hl) fun H3 p2 s3 => q H3 p2 (cc.same.trans s3)
def spPMon (K : PySem.W.Frag) : Sp := fun vs H Q _ => ∃ (a : Addr) (g : Gd) (xs : List (El g)), vs = [.ref a] ∧ PAt K H a g xs ∧ Tr xs ∧ MonOk xs ∧ xs.length ≤ 1000 ∧ ∀ H' p, Same H H' → PAt K H' p g (monic xs) → Q (.ref p) H'
abbrev MPZer (P : Program) (w : World) (K : PySem.W.Frag) (mg : Str → Option Value) (base : Heap) : Prop := MFn P w K mg base CX0 1 (cP K) "is_zero" ["self"] [] (spPZer K)
abbrev MPScal (P : Program) (w : World) (K : PySem.W.Frag) (mg : Str → Option Value) (base : Heap) : Prop := MFn P w K mg base CX0 11 (cP K) "scaled" ["self", "c"] [] (spPScal K)
theorem scPMon : FnScope ["self"] ["self"] (defScope sPMon) := ⟨rfl, rfl, rfl, by decide +kernel, rfl, by decide +kernel, by decide +kernel⟩
theorem ok_PMon {f : Addr} {fd : FuncData} (T : Txt K mg) (N : NumP P w K mg base) (F : FnP K dPMon f fd) (MZ : MPZer P w K mg base) (MS : MPScal P w K mg base) : FnOk P w K mg base CX0 12 f fd ["self"] (spPMon K) := by
  refine okN F scPMon (fun vs H Q E h => ?_) (fun cdv A outer s H vs Q E hr h => ?_)
  · obtain ⟨a, g, xs, rfl, _⟩ := h
    rfl
  · obtain ⟨a, g, xs, rfl, pa, tr, ok, hl, q⟩ := h
    have hr5 : Room 5 _ := hr.mono (by decide)
    obtain ⟨da, Ga, Ra, ha, hg, ⟨us, hra, hu⟩⟩ := id pa
    refine ⟨_, pss_cons (ps_if (pt_val (pe_m0 (pv 0) T.oP.cl MZ (hr.mono (by decide)) pass0)) (pss_one (ps_ret (pv 0))) pss_nil)
      (pss_one (ps_ret (pe_m (pv 0) T.oP.cl MS hr pass0 (pa_cons (pe_mR (r := rNumInv K) (pe_ix ix_tup (pe_fld (pv 0) rfl) (pe_un un_neg pe_int) (fun _ _ => rfl)) hr5 (fun x H Q h => conv_inv T N h)) pa_nil)))), ?_⟩
    refine ⟨_, rfl, a, da, _, rfl, ha, pf_no _ _ (by decide +kernel) (by decide +kernel), a, g, xs, rfl, pa, _, rfl, ?_⟩
    by_cases e : xs = []
    · refine if_t (decide_eq_true e) ?_
      refine ⟨_, rfl, q H a (Same.refl H) ?_⟩
      unfold monic
      rw [if_pos e]
      exact e ▸ pa
    · refine if_f (decide_eq_false e) ?_
      have hly := lst_get e
      obtain ⟨v, ev, nv⟩ := pr_get hu hly
      rw [← pr_len hu] at ev
      refine ⟨_, rfl, a, da, _, rfl, ha, pf_no _ _ (by decide +kernel) (by decide +kernel), _, rfl, a, cP K, da, _, _, rfl, ha, T.oP.cl, T.nPr, pf_r _ _, _, rfl, Ra, us, _, v, rfl, rfl, SqT.of hra, atI_m1 ev, g, lst xs, nv, ok.ol _ (List.mem_of_getElem? hly), tr_lst tr e, fun H1 p s1 np => ?_⟩
      refine ⟨a, _, g, xs, _, rfl, pa.same s1, ⟨p, rfl, np⟩, ok.sc, hl, fun H2 p2 s2 pp => q H2 p2 (s1.trans s2) ?_⟩
      unfold monic
      rw [if_neg e]
      exact pp
end
end K9

namespace K9
open PySem PySem.Spec PyProof.Rows L2
theorem pmod_len {K : Type} [Fld K] {a b : List K} (hb : b ≠ []) : (pmod a b).length < b.length := by
  have h0 : 0 < b.length := List.length_pos_iff.mpr hb
  have h1 := divGo_len2 (h := Fld.inv (lst b)) h0 (a.length + 1 - b.length) a [] (by omega) (fun _ => by omega)
  have h2 := trim_len (divRow a b).2
  unfold pmod
  have e : (divRow a b).2 = (divGo b (Fld.inv (lst b)) (a.length + 1 - b.length) a []).2 := rfl
  rw [← e] at h1
  by_cases e : a.length + 1 - b.length = 0
  · rw [if_pos e, if_pos e] at h1; omega
  · rw [if_neg e, if_neg e] at h1; omega
section
variable {P : Program} {w : World} {K : PySem.W.Frag} {mg : Str → Option Value} {base : Heap}
abbrev MP2 (P : Program) (w : World) (K : PySem.W.Frag) (mg : Str → Option Value) (base : Heap) (m : Str) (A : (g : Gd) → List (El g) → List (El g) → Prop) (op : (g : Gd) → List (El g) → List (El g) → List (El g)) : Prop :=
  MFn P w K mg base CX0 11 (cP K) m ["self", "other"] [] (spP2 K A op)
/-- Poly's methods -/
structure PolM (P : Program) (w : World) (K : PySem.W.Frag) (mg : Str → Option Value) (base : Heap) : Prop where
  add : MP2 P w K mg base "__add__" (fun _ => AddOk) (fun _ => padd)
  sub : MP2 P w K mg base "__sub__" (fun _ xs ys => AddOk xs (negR ys)) (fun _ => psub)
  mul : MP2 P w K mg base "__mul__" (fun _ => MulOk) (fun _ => pmul)
  fdiv : MP2 P w K mg base "__floordiv__" (fun _ => DvOk) (fun _ => pdiv)
  mod : MP2 P w K mg base "__mod__" (fun _ => DvOk) (fun _ => pmod)
  deg : MFn P w K mg base CX0 1 (cP K) "degree" ["self"] [] (spPDeg K)
  zer : MPZer P w K mg base
  scal : MPScal P w K mg base
  mon : MFn P w K mg base CX0 12 (cP K) "monic" ["self"] [] (spPMon K)
  mkp : CPoly P w K mg base
  chk : GChk P w K mg base
/-- two polynomials of unlike grounds -/
def spBad (K : PySem.W.Frag) : Sp := fun vs H _ E => ∃ (a b : Addr) (g g' : Gd) (xs : List (El g)) (ys : List (El g')), vs = [.ref a, .ref b] ∧ PAt K H a g xs ∧ PAt K H b g' ys ∧ g ≠ g' ∧ E (.ref (cM K)) none H
/-- two of like grounds -/
def spLike (K : PySem.W.Frag) (A : (g : Gd) → List (El g) → List (El g) → Prop) (R : (g : Gd) → List (El g) → List (El g) → V → Hp → Prop) : Sp := fun vs H Q _ => ∃ (a b : Addr) (g : Gd) (xs ys : List (El g)), vs = [.ref a, .ref b] ∧ PAt K H a g xs ∧ PAt K H b g ys ∧
  Tr xs ∧ Tr ys ∧ A g xs ys ∧ xs.length ≤ 50 ∧ ys.length ≤ 50 ∧ ∀ H' v, Same H H' → R g xs ys v H' → Q v H'
def spDv (K : PySem.W.Frag) (A : (g : Gd) → List (El g) → List (El g) → Prop) (R : (g : Gd) → List (El g) → List (El g) → V → Hp → Prop) : Sp := fun vs H Q E => spLike K A R vs H Q E ∨ spBad K vs H Q E
theorem spDv.len {A : (g : Gd) → List (El g) → List (El g) → Prop} {R : (g : Gd) → List (El g) → List (El g) → V → Hp → Prop} {vs : List V} {H : Hp} {Q : VK} {E : XK} (h : spDv K A R vs H Q E) : vs.length = 2 := by
  rcases h with ⟨a, b, g, xs, ys, rfl, _⟩ | ⟨a, b, g, g', xs, ys, rfl, _⟩ <;> rfl
def rPoly (K : PySem.W.Frag) (op : (g : Gd) → List (El g) → List (El g) → List (El g)) : (g : Gd) → List (El g) → List (El g) → V → Hp → Prop := fun g xs ys v H => ∃ p, v = .ref p ∧ PAt K H p g (op g xs ys)
def spGcd (K : PySem.W.Frag) : Sp := spDv K (fun _ xs ys => EuOk ys.length xs ys) (rPoly K fun _ => cdiv)
theorem chk_like {H : Hp} {a b : Addr} {g : Gd} {xs ys : List (El g)} {Q : VK} {E : XK} (ha : PAt K H a g xs) (hb : PAt K H b g ys) (q : Q .non H) : spChk K [.ref a, .ref b] H Q E := chk_same ha hb q
theorem chk_bad {H : Hp} {vs : List V} {Q Q' : VK} {E : XK} (h : spBad K vs H Q' E) : spChk K vs H Q E := by
  obtain ⟨a, b, g, g', xs, ys, rfl, ha, hb, ne, q⟩ := h
  exact ⟨a, b, g, g', xs, ys, rfl, ha, hb, fun h => absurd h ne, fun _ => q⟩
theorem scGcd : FnScope ["f", "g"] ["f", "g"] (defScope sGcd) := ⟨rfl, rfl, rfl, by decide +kernel, rfl, by decide +kernel, by decide +kernel⟩
theorem ok_Gcd {f : Addr} {fd : FuncData} (T : Txt K mg) (M : PolM P w K mg base) (F : FnP K dGcd f fd) : FnOk P w K mg base (L2.CX P w) 13 f fd ["f", "g"] (spGcd K) := by
  refine okX F scGcd (fun vs H Q E h => spDv.len h) (fun cdv A outer s H vs Q E hr h => ?_)
  refine ⟨_, pss_cons (ps_expr (pe_g M.chk (hr.mono (by decide)) (passes_call (W := fun cls d _ H => E cls d H) (takes_of rfl rfl rfl rfl) (fun _ _ _ _ h => h)) (pa_cons (pv 0) (pa_cons (pv 1) pa_nil))))
      (pss_cons (ps_while (passes_of rfl) (pt_not (pt_val (pe_m0 (E := E0) (pv 1) T.oP.cl M.zer (hr.mono (by decide)) pass0)))
         (pss_one (ps_par rfl scGcd.nd (i := 0) (j := 1) rfl rfl (by decide) rfl rfl (pa_cons (pv 1) (pa_cons (pe_op (op_mB (E := E0) T.oP M.mod rfl (hr.mono (by decide)) pass0) (pv 0) (pv 1)) pa_nil)) rfl)))
       (pss_one (ps_ret (pe_m0 (E := E0) (pv 0) T.oP.cl M.mon hr pass0)))), ?_⟩
  rcases h with ⟨a, b, g, xs, ys, rfl, pa, pb, ta, tb, ok, lx, ly, q⟩ | hb
  · refine ⟨_, rfl, _, rfl, a, b, g, g, xs, ys, rfl, pa, pb, fun _ => ?_, fun h => absurd rfl h⟩
    refine ⟨fun n σ H' => ∃ (fa ga : Addr) (f' g' : List (El g)), σ = [some (.ref fa), some (.ref ga)] ∧ Same H H' ∧ PAt K H' fa g f' ∧ PAt K H' ga g g' ∧ Tr f' ∧ Tr g' ∧ EuOk n f' g' ∧ gcdF n f' g' = gcdF ys.length xs ys ∧ g'.length ≤ n ∧ f'.length ≤ 50 ∧ g'.length ≤ 50,
      ⟨ys.length, a, b, xs, ys, rfl, Same.refl H, pa, pb, ta, tb, ok, rfl, Nat.le_refl _, lx, ly⟩, ?_⟩
    rintro n σ H' ⟨fa, ga, f', g', rfl, s1, pf', pg', tf, tg, ok', he, hn, l1, l2⟩
    obtain ⟨df, Gf, Rf, hf, hfx⟩ := id pf'
    obtain ⟨dg, Gg, Rg, hg, hgx⟩ := id pg'
    refine ⟨_, rfl, ga, dg, _, rfl, hg, pf_no _ _ (by decide +kernel) (by decide +kernel), ga, g, g', rfl, pg', _, rfl, ?_⟩
    by_cases e : g' = []
    · refine if_f (by rw [decide_eq_true e] <;> rfl) ?_
      subst e
      have he2 : gcdF n f' ([] : List (El g)) = f' := by
        cases n <;> rfl
      have ok2 : MonOk f' := by
        cases n with
        | zero => exact ok'
        | succ n => exact ok'
      rw [he2] at he
      refine ⟨_, rfl, fa, df, _, rfl, hf, pf_no _ _ (by decide +kernel) (by decide +kernel), fa, g, f', rfl, pf', tf, ok2, by omega, fun H2 p s2 pp => q H2 _ (s1.trans s2) ⟨p, rfl, ?_⟩⟩
      show PAt K H2 p g (monic (gcdF ys.length xs ys))
      rw [← he]
      exact pp
    · refine if_t (by rw [decide_eq_false e] <;> rfl) ?_
      cases n with
      | zero => exact absurd (List.length_eq_zero_iff.mp (Nat.le_zero.mp hn)) e
      | succ n =>
        have ok2 : DivOk f' g' ∧ EuOk n g' (pmod f' g') := by
          have := ok'
          unfold EuOk at this
          rw [if_neg e] at this
          exact this
        have he2 : gcdF n g' (pmod f' g') = gcdF ys.length xs ys := by
          rw [← he]
          show _ = if g' = [] then f' else gcdF n g' (pmod f' g')
          rw [if_neg e]
        have hl := pmod_len (a := f') e
        refine ⟨fun σ' H2 => ∃ p, σ' = [some (.ref ga), some (.ref p)] ∧ Same H' H2 ∧ PAt K H2 p g (pmod f' g'), fun σ' H2 ⟨p, e1, s2, pp⟩ => ⟨n, Nat.lt_succ_self _, ga, p, g', pmod f' g', e1, s1.trans s2, pg'.same s2, pp, tg, tr_trim _, ok2.2, he2, by omega, l2, by omega⟩, ?_⟩
        refine ⟨_, rfl, _, rfl, _, rfl, fa, ga, df, dg, _, _, rfl, rfl, hf, hg, fa, ga, g, f', g', rfl, pf', pg', ⟨e, tr_lst tg e, ok2.1⟩, by omega, by omega, fun H2 p s2 pp => ?_⟩
        exact ⟨_, _, rfl, p, rfl, s2, pp⟩
  · obtain ⟨a, b, g, g', xs, ys, rfl, pa, pb, ne, q⟩ := hb
    exact ⟨_, rfl, _, rfl, a, b, g, g', xs, ys, rfl, pa, pb, fun h => absurd h ne, fun _ => q⟩
end
end K9

namespace K9
open PySem PySem.Spec PyProof.Rows L2
section
variable {P : Program} {w : World} {K : PySem.W.Frag} {mg : Str → Option Value} {base : Heap}
abbrev GGcd (P : Program) (w : World) (K : PySem.W.Frag) (mg : Str → Option Value) (base : Heap) : Prop := GFn P w K mg base (L2.CX P w) 13 "common_divisor" ["f", "g"] [] (spGcd K)
/-- the own way out of a call of two polynomials -/
theorem pmul_len {K : Type} [Fld K] (a b : List K) : (pmul a b).length ≤ a.length + b.length - 1 := by
  have := trim_len (mulRow a b)
  rw [mulRow_len] at this
  exact this
theorem pdiv_len {K : Type} [Fld K] (a b : List K) : (pdiv a b).length ≤ a.length + 1 - b.length := by
  have h := trim_len (divRow a b).1
  have h2 := (divGo_len b (Fld.inv (lst b)) (a.length + 1 - b.length) a []).1
  have e : (divRow a b).1 = (divGo b (Fld.inv (lst b)) (a.length + 1 - b.length) a []).1 := rfl
  rw [← e] at h2
  unfold pdiv
  simp at h2
  omega
theorem scaled_len {K : Type} [Fld K] (c : K) (a : List K) : (scaled c a).length ≤ a.length := by
  have := trim_len (a.map fun x => c * x)
  rw [List.length_map] at this
  exact this
theorem monic_len {K : Type} [Fld K] (a : List K) : (monic a).length ≤ a.length := by
  unfold monic
  split
  · exact Nat.zero_le _
  · exact scaled_len _ _
theorem gcdF_len {K : Type} [Fld K] : ∀ (n : Nat) (f g : List K), (gcdF n f g).length ≤ max f.length g.length
  | 0, f, g => by show f.length ≤ _; omega
  | n + 1, f, g => by
    show (if g = [] then f else gcdF n g (pmod f g)).length ≤ _
    split
    · omega
    · rename_i h
      have := gcdF_len n g (pmod f g)
      have := pmod_len (a := f) h
      omega
theorem cdiv_len {K : Type} [Fld K] (f g : List K) : (cdiv f g).length ≤ max f.length g.length := Nat.le_trans (monic_len _) (gcdF_len _ _ _)
def LcmOk {K : Type} [Fld K] (f g : List K) : Prop := f ≠ [] → g ≠ [] → EuOk g.length f g ∧ MulOk f g ∧ DvOk (pmul f g) (cdiv f g) ∧ MonOk (pdiv (pmul f g) (cdiv f g))
def spLcm (K : PySem.W.Frag) : Sp := spDv K (fun _ => LcmOk) (rPoly K fun _ => cmul)
theorem scLcm : FnScope ["f", "g"] ["f", "g"] (defScope sLcm) := ⟨rfl, rfl, rfl, by decide +kernel, rfl, by decide +kernel, by decide +kernel⟩
theorem ok_Lcm {f : Addr} {fd : FuncData} (T : Txt K mg) (M : PolM P w K mg base) (G : GGcd P w K mg base) (F : FnP K dLcm f fd) : FnOk P w K mg base (L2.CX P w) 14 f fd ["f", "g"] (spLcm K) := by
  refine okX F scLcm (fun vs H Q E h => spDv.len h) (fun cdv A outer s H vs Q E hr h => ?_)
  refine ⟨_, pss_cons (ps_expr (pe_g M.chk (hr.mono (by decide)) (passes_call (W := fun cls d _ H => E cls d H) (takes_of rfl rfl rfl rfl) (fun _ _ _ _ h => h)) (pa_cons (pv 0) (pa_cons (pv 1) pa_nil))))
      (pss_cons (ps_if (PW.pt (pw_or (pt_val (pe_m0 (E := E0) (pv 0) T.oP.cl M.zer (hr.mono (by decide)) pass0)) (pw_or1 (pt_val (pe_m0 (E := E0) (pv 1) T.oP.cl M.zer (hr.mono (by decide)) pass0)))))
         (pss_one (ps_ret (pe_c (E := E0) M.mkp (hr.mono (by decide)) pass0 (pa_cons (pe_fld (pv 0) rfl) (pa_cons (pe_lst pa_nil) pa_nil))))) pss_nil)
       (pss_one (ps_ret (pe_m0 (E := E0) (pe_op (op_mB (E := E0) T.oP M.fdiv rfl (hr.mono (by decide)) pass0) (pe_op (op_mB (E := E0) T.oP M.mul rfl (hr.mono (by decide)) pass0) (pv 0) (pv 1)) (pe_g (E := E0) G hr passL (pa_cons (pv 0) (pa_cons (pv 1) pa_nil)))) T.oP.cl M.mon (hr.mono (by decide)) pass0)))), ?_⟩
  rcases h with ⟨a, b, g, xs, ys, rfl, pa, pb, ta, tb, ok, lx, ly, q⟩ | hb
  · refine ⟨_, rfl, _, rfl, a, b, g, g, xs, ys, rfl, pa, pb, fun _ => ?_, fun h => absurd rfl h⟩
    obtain ⟨da, Ga, Ra, ha, hga, hra⟩ := id pa
    obtain ⟨db, Gb, Rb, hb, hgb, hrb⟩ := id pb
    refine ⟨_, rfl, a, da, _, rfl, ha, pf_no _ _ (by decide +kernel) (by decide +kernel), a, g, xs, rfl, pa, _, rfl, ?_⟩
    have zero : (xs = [] ∨ ys = []) → cmul xs ys = [] := fun h => by
      unfold cmul
      rw [if_pos h]
    have emp : cmul xs ys = [] → tMake (cP K) (spPInit K) [] E0 (fun (σ : L2.St) (H1 : Hp) (Q1 : List V → Hp → Prop) => ∀ p, H p = none → Q1 [.ref Ga, .ref p] (upd H p (.lst []))) [] H Q := fun ez p hp => by
      have s1 := same_upd (o := .lst []) hp
      exact mk_poly (xs := []) (us := []) (hga.same s1) (.inl upd_same) .nil (Nat.zero_le _) fun H2 p2 s2 pp => q H2 _ (s1.trans s2) ⟨p2, rfl, by show PAt K H2 p2 g (cmul xs ys); rw [ez]; exact pp⟩
    by_cases e1 : xs = []
    · refine if_t (by rw [decide_eq_true e1]) (if_t rfl ?_)
      refine ⟨_, rfl, a, cP K, da, _, _, rfl, ha, T.oP.cl, T.nPg, pf_g _ _, Nat.zero_le _, fun p hp => ?_⟩
      exact emp (zero (.inl e1)) p hp
    · refine if_f (by rw [decide_eq_false e1]) ?_
      refine ⟨_, rfl, b, db, _, rfl, hb, pf_no _ _ (by decide +kernel) (by decide +kernel), b, g, ys, rfl, pb, _, rfl, ?_⟩
      by_cases e2 : ys = []
      · refine if_t (by rw [decide_eq_true e2]) ?_
        refine ⟨_, rfl, a, cP K, da, _, _, rfl, ha, T.oP.cl, T.nPg, pf_g _ _, Nat.zero_le _, fun p hp => ?_⟩
        exact emp (zero (.inr e2)) p hp
      · refine if_f (by rw [decide_eq_false e2]) ?_
        obtain ⟨oe, om, od, on⟩ := ok e1 e2
        have hml := pmul_len xs ys
        have hcl := cdiv_len xs ys
        have hdl := pdiv_len (pmul xs ys) (cdiv xs ys)
        refine ⟨_, rfl, _, rfl, a, b, da, db, _, _, rfl, rfl, ha, hb, a, b, g, xs, ys, rfl, pa, pb, om, by omega, by omega, fun H1 p1 s1 pp1 => ?_⟩
        refine ⟨_, rfl, _, rfl, .inl ⟨a, b, g, xs, ys, rfl, pa.same s1, pb.same s1, ta, tb, oe, lx, ly, fun H2 v2 s2 r2 => ?_⟩⟩
        obtain ⟨p2, rfl, pp2⟩ := r2
        have pp1' := pp1.same s2
        obtain ⟨d1, G1, R1, h1, _⟩ := id pp1'
        obtain ⟨d2, G2, R2, h2, _⟩ := id pp2
        refine ⟨p1, p2, d1, d2, _, _, rfl, rfl, h1, h2, p1, p2, g, _, _, rfl, pp1', pp2, od, by show (pmul xs ys).length ≤ _; omega, by show (cdiv xs ys).length ≤ _; omega, fun H3 p3 s3 pp3 => ?_⟩
        obtain ⟨d3, G3, R3, h3, _⟩ := id pp3
        refine ⟨p3, d3, _, rfl, h3, pf_no _ _ (by decide +kernel) (by decide +kernel), p3, g, _, rfl, pp3, tr_trim _, on, by show (pdiv (pmul xs ys) (cdiv xs ys)).length ≤ _; omega, fun H4 p4 s4 pp4 => q H4 _ (((s1.trans s2).trans s3).trans s4) ⟨p4, rfl, ?_⟩⟩
        show PAt K H4 p4 g (cmul xs ys)
        unfold cmul
        rw [if_neg (by intro h; rcases h with h | h; exact e1 h; exact e2 h)]
        exact pp4
  · obtain ⟨a, b, g, g', xs, ys, rfl, pa, pb, ne, q⟩ := hb
    exact ⟨_, rfl, _, rfl, a, b, g, g', xs, ys, rfl, pa, pb, fun h => absurd h ne, fun _ => q⟩
/-! ### are_coprime -/
def spCop (K : PySem.W.Frag) : Sp := spDv K (fun _ xs ys => EuOk ys.length xs ys) (fun _ xs ys v _ => v = .bl (decide ((cdiv xs ys).length = 1)))
theorem scCop : FnScope ["f", "g"] ["f", "g"] (defScope sCop) := ⟨rfl, rfl, rfl, by decide +kernel, rfl, by decide +kernel, by decide +kernel⟩
theorem ok_Cop {f : Addr} {fd : FuncData} (T : Txt K mg) (M : PolM P w K mg base) (G : GGcd P w K mg base) (F : FnP K dCop f fd) : FnOk P w K mg base (L2.CX P w) 14 f fd ["f", "g"] (spCop K) := by
  refine okX F scCop (fun vs H Q E h => spDv.len h) (fun cdv A outer s H vs Q E hr h => ?_)
  refine ⟨_, pss_one (ps_ret (pe_cmpR op_eq (pe_m0 (E := E0) (pe_g G hr (passes_call (W := fun cls d _ H => E cls d H) (takes_of rfl rfl rfl rfl) (fun _ _ _ _ h => h)) (pa_cons (pv 0) (pa_cons (pv 1) pa_nil))) T.oP.cl M.deg (hr.mono (by decide)) pass0) pe_int (nomark _))), ?_⟩
  rcases h with ⟨a, b, g, xs, ys, rfl, pa, pb, ta, tb, ok, lx, ly, q⟩ | hb
  · refine ⟨_, rfl, _, rfl, .inl ⟨a, b, g, xs, ys, rfl, pa, pb, ta, tb, ok, lx, ly, fun H1 v s1 r1 => ?_⟩⟩
    obtain ⟨p, rfl, pp⟩ := r1
    obtain ⟨dp, Gp, Rp, hp, _⟩ := id pp
    refine ⟨p, dp, _, rfl, hp, pf_no _ _ (by decide +kernel) (by decide +kernel), p, g, _, rfl, pp, ?_⟩
    refine ⟨rfl, q _ _ s1 ?_⟩
    congr 1
    rw [Bool.eq_iff_iff]
    simp
    omega
  · obtain ⟨a, b, g, g', xs, ys, rfl, pa, pb, ne, q⟩ := hb
    exact ⟨_, rfl, _, rfl, .inr ⟨a, b, g, g', xs, ys, rfl, pa, pb, ne, q⟩⟩
end
end K9

namespace K9
open PySem PySem.Spec PyProof.Rows L2
section
variable {P : Program} {w : World} {K : PySem.W.Frag} {mg : Str → Option Value} {base : Heap}
theorem psub_len {K : Type} [Fld K] (a b : List K) : (psub a b).length ≤ max a.length b.length := by
  have := trim_len (addRow a (negR b))
  rw [addRow_len] at this
  unfold negR at this
  rw [List.length_map] at this
  exact this
theorem negR_len {K : Type} [Fld K] (a : List K) : (negR a).length = a.length := by
  unfold negR
  rw [List.length_map]
theorem mk_pre {H1 : Hp} {x dx : Addr} (nx : H1 x = none) (nd : H1 dx = none) : Same H1 (upd (upd H1 dx (.own x)) x (.ins (cP K) dx [])) := fun b u e => by
  rw [upd_ne (ne_of_none e nx), upd_ne (ne_of_none e nd)]; exact e
/-- the three, as one tuple -/
def rCof (K : PySem.W.Frag) : (g : Gd) → List (El g) → List (El g) → V → Hp → Prop := fun g xs ys v H => ∃ p d u t, v = .ref p ∧ H p = some (.tup [.ref d, .ref u, .ref t]) ∧ PAt K H d g (cofs xs ys).1 ∧ PAt K H u g (cofs xs ys).2.1 ∧ PAt K H t g (cofs xs ys).2.2
def spCof (K : PySem.W.Frag) : Sp := spDv K (fun _ xs ys => CofOk ys.length (cof0 xs ys)) (rCof K)
/-- f - (f // g) * g is f % g -/
def SubMod : Prop := ∀ (g : Gd) (x y : List (El g)), Tr x → Tr y → y ≠ [] → psub x (pmul (pdiv x y) y) = pmod x y
theorem scCof : FnScope ["f", "g", "one", "none", "u", "v", "s", "t", "quotient", "head"] ["f", "g"] (defScope sCof) := ⟨rfl, rfl, rfl, by decide +kernel, rfl, by decide +kernel, by decide +kernel⟩
theorem cofEnd0 {K : Type} [Fld K] {c : Cof K} (h : c.f = []) : cofEnd c = ([], [], []) := by
  unfold cofEnd
  rw [if_pos h, h]
theorem cofEnd1 {K : Type} [Fld K] {c : Cof K} (h : c.f ≠ []) : cofEnd c = (scaled (Fld.inv (lst c.f)) c.f, scaled (Fld.inv (lst c.f)) c.u, scaled (Fld.inv (lst c.f)) c.v) := by
  unfold cofEnd
  rw [if_neg h]
theorem ok_Cof {f : Addr} {fd : FuncData} (T : Txt K mg) (N : NumP P w K mg base) (M : PolM P w K mg base) (SM : SubMod) (F : FnP K dCof f fd) : FnOk P w K mg base (L2.CX P w) 12 f fd ["f", "g"] (spCof K) := by
  refine okX F scCof (fun vs H Q E h => spDv.len h) (fun cdv A outer s H vs Q E hr h => ?_)
  have hr5 : Room 5 _ := hr.mono (by decide)
  refine ⟨_, pss_cons (ps_expr (pe_g M.chk (hr.mono (by decide)) (passes_call (W := fun cls d _ H => E cls d H) (takes_of rfl rfl rfl rfl) (fun _ _ _ _ h => h)) (pa_cons (pv 0) (pa_cons (pv 1) pa_nil))))
      (pss_cons (ps_set (i := 2) scCof.nd rfl (Or.inl rfl) (pe_c (E := E0) M.mkp (hr.mono (by decide)) pass0 (pa_cons (pe_fld (pv 0) rfl) (pa_cons (pe_lst (pa_cons pe_int pa_nil)) pa_nil))))
      (pss_cons (ps_set (i := 3) scCof.nd rfl (Or.inl rfl) (pe_c (E := E0) M.mkp (hr.mono (by decide)) pass0 (pa_cons (pe_fld (pv 0) rfl) (pa_cons (pe_lst pa_nil) pa_nil))))
      (pss_cons (ps_par rfl scCof.nd (i := 4) (j := 5) rfl rfl (by decide) rfl rfl (pa_cons (pv 2) (pa_cons (pv 3) pa_nil)) rfl)
      (pss_cons (ps_par rfl scCof.nd (i := 6) (j := 7) rfl rfl (by decide) rfl rfl (pa_cons (pv 3) (pa_cons (pv 2) pa_nil)) rfl)
      (pss_cons (ps_while (passes_of rfl) (pt_not (pt_val (pe_m0 (E := E0) (pv 1) T.oP.cl M.zer (hr.mono (by decide)) pass0)))
         (pss_cons (ps_set (i := 8) scCof.nd rfl (Or.inl rfl) (pe_op (op_mB (E := E0) T.oP M.fdiv rfl hr pass0) (pv 0) (pv 1)))
         (pss_cons (ps_par rfl scCof.nd (i := 0) (j := 1) rfl rfl (by decide) rfl rfl (pa_cons (pv 1) (pa_cons (pe_op (op_mB (E := E0) T.oP M.sub rfl hr pass0) (pv 0) (pe_op (op_mB (E := E0) T.oP M.mul rfl hr pass0) (pv 8) (pv 1))) pa_nil)) rfl)
         (pss_cons (ps_par rfl scCof.nd (i := 4) (j := 6) rfl rfl (by decide) rfl rfl (pa_cons (pv 6) (pa_cons (pe_op (op_mB (E := E0) T.oP M.sub rfl hr pass0) (pv 4) (pe_op (op_mB (E := E0) T.oP M.mul rfl hr pass0) (pv 8) (pv 6))) pa_nil)) rfl)
         (pss_one (ps_par rfl scCof.nd (i := 5) (j := 7) rfl rfl (by decide) rfl rfl (pa_cons (pv 7) (pa_cons (pe_op (op_mB (E := E0) T.oP M.sub rfl hr pass0) (pv 5) (pe_op (op_mB (E := E0) T.oP M.mul rfl hr pass0) (pv 8) (pv 7))) pa_nil)) rfl))))))
      (pss_cons (ps_if (pt_val (pe_m0 (E := E0) (pv 0) T.oP.cl M.zer (hr.mono (by decide)) pass0)) (pss_one (ps_ret (pe_tup (pa_cons (pv 0) (pa_cons (pv 3) (pa_cons (pv 3) pa_nil)))))) pss_nil)
      (pss_cons (ps_set (i := 9) scCof.nd rfl (Or.inl rfl) (pe_mR (r := rNumInv K) (pe_ix ix_tup (pe_fld (pv 0) rfl) (pe_un un_neg pe_int) (fun _ _ => rfl)) hr5 (fun x H Q h => conv_inv T N h)))
      (pss_one (ps_ret (pe_tup (pa_cons (pe_m (E := E0) (pv 0) T.oP.cl M.scal hr pass0 (pa_cons (pv 9) pa_nil)) (pa_cons (pe_m (E := E0) (pv 4) T.oP.cl M.scal hr pass0 (pa_cons (pv 9) pa_nil)) (pa_cons (pe_m (E := E0) (pv 5) T.oP.cl M.scal hr pass0 (pa_cons (pv 9) pa_nil)) pa_nil))))))))))))), ?_⟩
  rcases h with ⟨a, b, g, xs, ys, rfl, pa, pb, ta, tb, ok, lx, ly, q⟩ | hb
  · refine ⟨_, rfl, _, rfl, a, b, g, g, xs, ys, rfl, pa, pb, fun _ => ?_, fun h => absurd rfl h⟩
    obtain ⟨da, Ga, Ra, ha, hga, hra⟩ := id pa
    -- one
    refine ⟨_, rfl, a, cP K, da, _, _, rfl, ha, T.oP.cl, T.nPg, pf_g _ _, by show 1 ≤ sizeLine; decide, fun p0 hp0 => ?_⟩
    have s1 := same_upd (o := .lst [.int 1]) hp0
    intro po dx0 nx0 nd0 ne0
    have sm0 := mk_pre (K := K) nx0 nd0
    refine ⟨po, dx0, Ga, p0, g, [.int 1], [ofI g 1], rfl, upd_same, (hga.same s1).same sm0, .inl (sm0 _ _ upd_same), .cons (.inl ⟨1, rfl, rfl⟩) .nil, by show 1 ≤ 1000; decide, fun H1 R0 tr0 hx0 k0 => ⟨rfl, ?_⟩⟩
    have s2 : Same _ H1 := fun b o e => k0 b o (ne_of_none e nx0) (sm0 _ _ e)
    have ppo : PAt K H1 po g (trim [ofI g 1]) := ⟨dx0, Ga, R0, hx0, (hga.same s1).same s2, tr0⟩
    have one_tr : trim [ofI g 1] = [1] := by
      rw [ofI_one]
      exact trim_snoc Fld.one_ne []
    rw [one_tr] at ppo
    have s02 := s1.trans s2
    -- none
    refine ⟨_, rfl, a, cP K, da, _, _, rfl, s02 _ _ ha, T.oP.cl, T.nPg, pf_g _ _, Nat.zero_le _, fun p1 hp1 => ?_⟩
    have s3 := same_upd (o := .lst []) hp1
    intro pn dx1 nx1 nd1 ne1
    have sm1 := mk_pre (K := K) nx1 nd1
    refine ⟨pn, dx1, Ga, p1, g, [], [], rfl, upd_same, (hga.same (s02.trans s3)).same sm1, .inl (sm1 _ _ upd_same), .nil, Nat.zero_le _, fun H2 R1 tr1 hx1 k1 => ⟨rfl, ?_⟩⟩
    have s4 : Same _ H2 := fun b o e => k1 b o (ne_of_none e nx1) (sm1 _ _ e)
    have ppn : PAt K H2 pn g [] := ⟨dx1, Ga, R1, hx1, (hga.same (s02.trans s3)).same s4, tr1⟩
    have s04 := (s02.trans s3).trans s4
    have ppo2 := ppo.same (s3.trans s4)
    refine ⟨_, rfl, _, rfl, _, _, rfl, ?_⟩
    refine ⟨_, rfl, _, rfl, _, _, rfl, ?_⟩
    refine ⟨fun n σ H' => ∃ (fa ga ua va sa ta' : Addr) (v8 : Option V) (c : Cof (El g)), σ = [some (.ref fa), some (.ref ga), some (.ref po), some (.ref pn), some (.ref ua), some (.ref va), some (.ref sa), some (.ref ta'), v8, none] ∧ Same H2 H' ∧
        PAt K H' fa g c.f ∧ PAt K H' ga g c.g ∧ PAt K H' ua g c.u ∧ PAt K H' va g c.v ∧ PAt K H' sa g c.s ∧ PAt K H' ta' g c.t ∧ Tr c.f ∧ Tr c.g ∧ CofOk n c ∧ cofF n c = cofF ys.length (cof0 xs ys) ∧ c.g.length ≤ n ∧
        c.u.length + max c.f.length c.g.length ≤ 51 ∧ c.s.length + max c.f.length c.g.length ≤ 51 ∧ c.v.length + max c.f.length c.g.length ≤ 51 ∧ c.t.length + max c.f.length c.g.length ≤ 51,
      ⟨ys.length, a, b, po, pn, pn, po, none, cof0 xs ys, rfl, Same.refl H2, pa.same s04, pb.same s04, ppo2, ppn, ppn, ppo2, ta, tb, ok, rfl, Nat.le_refl _, by show 1 + max xs.length ys.length ≤ 51; omega, by show 0 + max xs.length ys.length ≤ 51; omega, by show 0 + max xs.length ys.length ≤ 51; omega, by show 1 + max xs.length ys.length ≤ 51; omega⟩, ?_⟩
    rintro n σ H' ⟨fa, ga, ua, va, sa, ta', v8, c, rfl, sH, pf', pg', pu', pv', ps', pt', tf, tg, okc, he, hn, l1, l2, l3, l4⟩
    obtain ⟨df, Gf, Rf, hf, hfx, ⟨fus, hft, hfn⟩⟩ := id pf'
    obtain ⟨dg, Gg, Rg, hg, hgx⟩ := id pg'
    obtain ⟨du, Gu, Ru, hu, hux⟩ := id pu'
    obtain ⟨dv, Gv, Rv, hv, hvx⟩ := id pv'
    obtain ⟨ds, Gs, Rs, hs, hsx⟩ := id ps'
    obtain ⟨dt, Gt, Rt, ht, htx⟩ := id pt'
    refine ⟨_, rfl, ga, dg, _, rfl, hg, pf_no _ _ (by decide +kernel) (by decide +kernel), ga, g, c.g, rfl, pg', _, rfl, ?_⟩
    by_cases e : c.g = []
    · refine if_f (by rw [decide_eq_true e] <;> rfl) ?_
      have he2 : cofF n c = c := by
        cases n with
        | zero => rfl
        | succ n =>
          show (if c.g = [] then c else cofF n c.next) = c
          rw [if_pos e]
      have ok2 : CofEndOk c := by
        cases n with
        | zero => exact okc
        | succ n =>
          have := okc
          unfold CofOk at this
          rw [if_pos e] at this
          exact this
      rw [he2] at he
      refine ⟨_, rfl, fa, df, _, rfl, hf, pf_no _ _ (by decide +kernel) (by decide +kernel), fa, g, c.f, rfl, pf', _, rfl, ?_⟩
      by_cases e1 : c.f = []
      · refine if_t (decide_eq_true e1) ?_
        refine ⟨_, rfl, _, rfl, _, rfl, by show 3 ≤ sizeLine; decide, fun p hp => ?_⟩
        have s5 := same_upd (o := .tup [.ref fa, .ref pn, .ref pn]) hp
        have ec : cofs xs ys = ([], [], []) := by
          show cofEnd (cofF ys.length (cof0 xs ys)) = _
          rw [← he]
          exact cofEnd0 e1
        refine q _ _ ((s04.trans sH).trans s5) ⟨p, fa, pn, pn, rfl, upd_same, ?_, ?_, ?_⟩
        · rw [ec]
          have := pf'.same s5
          rw [e1] at this
          exact this
        · rw [ec]; exact ppn.same (sH.trans s5)
        · rw [ec]; exact ppn.same (sH.trans s5)
      · refine if_f (decide_eq_false e1) ?_
        have ec : cofs xs ys = (scaled (Fld.inv (lst c.f)) c.f, scaled (Fld.inv (lst c.f)) c.u, scaled (Fld.inv (lst c.f)) c.v) := by
          show cofEnd (cofF ys.length (cof0 xs ys)) = _
          rw [← he]
          exact cofEnd1 e1
        have hly := lst_get e1
        obtain ⟨vl, ev, nv⟩ := pr_get hfn hly
        rw [← pr_len hfn] at ev
        refine ⟨_, rfl, fa, cP K, df, _, _, rfl, hf, T.oP.cl, T.nPr, pf_r _ _, _, rfl, Rf, fus, _, vl, rfl, rfl, SqT.of hft, atI_m1 ev, g, lst c.f, nv, ok2.of _ (List.mem_of_getElem? hly), tr_lst tf e1, fun H3 ph s5 nh => ?_⟩
        refine ⟨_, rfl, fa, df, _, rfl, s5 _ _ hf, pf_no _ _ (by decide +kernel) (by decide +kernel), _, rfl, fa, _, g, c.f, _, rfl, pf'.same s5, ⟨ph, rfl, nh⟩, ⟨ok2.oinv, ok2.of⟩, by omega, fun H4 p4 s6 pp4 => ?_⟩
        refine ⟨_, rfl, ua, du, _, rfl, (s5.trans s6) _ _ hu, pf_no _ _ (by decide +kernel) (by decide +kernel), _, rfl, ua, _, g, c.u, _, rfl, pu'.same (s5.trans s6), ⟨ph, rfl, nh.same s6⟩, ⟨ok2.oinv, ok2.ou⟩, by omega, fun H5 p5 s7 pp5 => ?_⟩
        refine ⟨_, rfl, va, dv, _, rfl, ((s5.trans s6).trans s7) _ _ hv, pf_no _ _ (by decide +kernel) (by decide +kernel), _, rfl, va, _, g, c.v, _, rfl, pv'.same ((s5.trans s6).trans s7), ⟨ph, rfl, nh.same (s6.trans s7)⟩, ⟨ok2.oinv, ok2.ov⟩, by omega, fun H6 p6 s8 pp6 => ?_⟩
        refine ⟨by show 3 ≤ sizeLine; decide, fun p hp => ?_⟩
        have s9 := same_upd (o := .tup [.ref p4, .ref p5, .ref p6]) hp
        refine q _ _ ((s04.trans sH).trans ((((s5.trans s6).trans s7).trans s8).trans s9)) ⟨p, p4, p5, p6, rfl, upd_same, ?_, ?_, ?_⟩
        · rw [ec]; exact pp4.same ((s7.trans s8).trans s9)
        · rw [ec]; exact pp5.same (s8.trans s9)
        · rw [ec]; exact pp6.same s9
    · refine if_t (by rw [decide_eq_false e] <;> rfl) ?_
      cases n with
      | zero => exact absurd (List.length_eq_zero_iff.mp (Nat.le_zero.mp hn)) e
      | succ n =>
        have ok2 : CofStepOk c ∧ CofOk n c.next := by
          have := okc
          unfold CofOk at this
          rw [if_neg e] at this
          exact this
        have he2 : cofF n c.next = cofF ys.length (cof0 xs ys) := by
          rw [← he]
          show _ = if c.g = [] then c else cofF n c.next
          rw [if_neg e]
        obtain ⟨st, ok3⟩ := ok2
        have hl := pmod_len (a := c.f) e
        have hpos : 0 < c.g.length := List.length_pos_iff.mpr e
        have hql := pdiv_len c.f c.g
        have hm1 := pmul_len (pdiv c.f c.g) c.g
        have hm2 := pmul_len (pdiv c.f c.g) c.s
        have hm3 := pmul_len (pdiv c.f c.g) c.t
        have hs2 := psub_len c.u (pmul (pdiv c.f c.g) c.s)
        have hs3 := psub_len c.v (pmul (pdiv c.f c.g) c.t)
        have n1 : c.next.f.length = c.g.length := rfl
        have n2 : c.next.g.length = (pmod c.f c.g).length := rfl
        have n3 : c.next.u.length = c.s.length := rfl
        have n4 : c.next.v.length = c.t.length := rfl
        have n5 : c.next.s.length = (psub c.u (pmul (pdiv c.f c.g) c.s)).length := rfl
        have n6 : c.next.t.length = (psub c.v (pmul (pdiv c.f c.g) c.t)).length := rfl
        refine ⟨fun σ' H3 => ∃ (pg ps pt pq : Addr), σ' = [some (.ref ga), some (.ref pg), some (.ref po), some (.ref pn), some (.ref sa), some (.ref ta'), some (.ref ps), some (.ref pt), some (.ref pq), none] ∧ Same H' H3 ∧ PAt K H3 pg g c.next.g ∧ PAt K H3 ps g c.next.s ∧ PAt K H3 pt g c.next.t,
          fun σ' H3 ⟨pg, ps, pt, pq, e1, s5, x1, x2, x3⟩ => ⟨n, Nat.lt_succ_self _, ga, pg, sa, ta', ps, pt, _, c.next, e1, sH.trans s5, pg'.same s5, x1, ps'.same s5, pt'.same s5, x2, x3, tg, tr_trim _, ok3, he2, by omega, by omega, by omega, by omega, by omega⟩, ?_⟩
        -- quotient
        refine ⟨_, rfl, _, rfl, fa, ga, df, dg, _, _, rfl, rfl, hf, hg, fa, ga, g, c.f, c.g, rfl, pf', pg', ⟨e, tr_lst tg e, st.div⟩, by omega, by omega, fun H3 pq s5 ppq => ?_⟩
        have ppq' : PAt K H3 pq g (pdiv c.f c.g) := ppq
        obtain ⟨dq, Gq, Rq, hq, hqx⟩ := id ppq'
        -- f, g
        refine ⟨_, rfl, _, rfl, _, rfl, _, rfl, pq, ga, dq, dg, _, _, rfl, rfl, hq, s5 _ _ hg, pq, ga, g, _, c.g, rfl, ppq', pg'.same s5, st.qg, by omega, by omega, fun H4 p4 s6 pp4 => ?_⟩
        have pp4' : PAt K H4 p4 g (pmul (pdiv c.f c.g) c.g) := pp4
        obtain ⟨d4, G4, R4, h4, _⟩ := id pp4'
        have s56 := s5.trans s6
        refine ⟨fa, p4, df, d4, _, _, rfl, rfl, s56 _ _ hf, h4, fa, p4, g, c.f, _, rfl, pf'.same s56, pp4', st.f_, by omega, by omega, fun H5 p5 s7 pp5 => ?_⟩
        have pp5' : PAt K H5 p5 g (pmod c.f c.g) := by
          have := SM g c.f c.g tf tg e
          rw [← this]
          exact pp5
        refine ⟨_, _, rfl, ?_⟩
        have s57 := s56.trans s7
        -- u, s
        refine ⟨_, rfl, _, rfl, _, rfl, _, rfl, pq, sa, dq, ds, _, _, rfl, rfl, (s6.trans s7) _ _ hq, s57 _ _ hs, pq, sa, g, _, c.s, rfl, ppq'.same (s6.trans s7), ps'.same s57, st.qs, by omega, by omega, fun H6 p6 s8 pp6 => ?_⟩
        have pp6' : PAt K H6 p6 g (pmul (pdiv c.f c.g) c.s) := pp6
        obtain ⟨d6, G6, R6, h6, _⟩ := id pp6'
        have s58 := s57.trans s8
        refine ⟨ua, p6, du, d6, _, _, rfl, rfl, s58 _ _ hu, h6, ua, p6, g, c.u, _, rfl, pu'.same s58, pp6', st.u_, by omega, by omega, fun H7 p7 s9 pp7 => ?_⟩
        have pp7' : PAt K H7 p7 g c.next.s := pp7
        refine ⟨_, _, rfl, ?_⟩
        have s59 := s58.trans s9
        -- v, t
        refine ⟨_, rfl, _, rfl, _, rfl, _, rfl, pq, ta', dq, dt, _, _, rfl, rfl, (((s6.trans s7).trans s8).trans s9) _ _ hq, s59 _ _ ht, pq, ta', g, _, c.t, rfl, ppq'.same (((s6.trans s7).trans s8).trans s9), pt'.same s59, st.qt, by omega, by omega, fun H8 p8 s10 pp8 => ?_⟩
        have pp8' : PAt K H8 p8 g (pmul (pdiv c.f c.g) c.t) := pp8
        obtain ⟨d8, G8, R8, h8, _⟩ := id pp8'
        have s510 := s59.trans s10
        refine ⟨va, p8, dv, d8, _, _, rfl, rfl, s510 _ _ hv, h8, va, p8, g, c.v, _, rfl, pv'.same s510, pp8', st.v_, by omega, by omega, fun H9 p9 s11 pp9 => ?_⟩
        have pp9' : PAt K H9 p9 g c.next.t := pp9
        exact ⟨_, _, rfl, p5, p7, p9, pq, rfl, s510.trans s11, pp5'.same (((s8.trans s9).trans s10).trans s11), pp7'.same (s10.trans s11), pp9'⟩
  · obtain ⟨a, b, g, g', xs, ys, rfl, pa, pb, ne, q⟩ := hb
    exact ⟨_, rfl, _, rfl, a, b, g, g', xs, ys, rfl, pa, pb, fun h => absurd h ne, fun _ => q⟩
end
end K9

namespace K9
open PySem PySem.Spec PyProof.Rows L2
section
variable {P : Program} {w : World} {K : PySem.W.Frag} {mg : Str → Option Value} {base : Heap}
abbrev iL (ns : List Int) : HO := .lst (ns.map V.int)
theorem iL_snoc (ns : List Int) (n : Int) : HO.lst (ns.map V.int ++ [.int n]) = iL (ns ++ [n]) := by
  show _ = HO.lst ((ns ++ [n]).map V.int)
  rw [List.map_append] <;> rfl
theorem sl_lt {n : Nat} (h : n ≤ 10000) : n < sizeLine := Nat.lt_of_le_of_lt h (by rw [sizeLine_eq]; decide)
theorem updS {H : Hp} {a : Addr} {o : HO} (h : H a = some o) : upd H a o = H := by
  funext b
  unfold upd
  split
  · rename_i e
    rw [e, h]
  · rfl
/-! ### _law_numbers -/
def spLNums (K : PySem.W.Frag) : Sp := fun vs H Q _ => ∃ (a : Addr) (xs : List Int), vs = [.ref a] ∧ SqL K H a (xs.map V.int) ∧ ∀ H' p ns, Same H H' → H p = none → H' p = some (iL ns) → Q (.ref p) H'
theorem scLNums : FnScope ["_law_script", "_law_found", "_law_k", "_law_cell", "_law_turn", "_law_i", "_law_mixed_here"] ["_law_script"] (defScope sLNums) := ⟨rfl, rfl, rfl, by decide +kernel, rfl, by decide +kernel, by decide +kernel⟩
theorem ok_LNums {f : Addr} {fd : FuncData} (T : Txt K mg) (F : FnP K dLNums f fd) : FnOk P w K mg base CX0 1 f fd ["_law_script"] (spLNums K) := by
  refine okN F scLNums (fun vs H Q E h => ?_) (fun cdv A outer s H vs Q E hr h => ?_)
  · obtain ⟨a, xs, rfl, _⟩ := h
    rfl
  · obtain ⟨a, xs, rfl, hx, q⟩ := h
    refine ⟨_, pss_cons (ps_set (i := 1) scLNums.nd rfl (Or.inl rfl) (pe_lst pa_nil))
      (pss_cons (ps_for PassesOwn.never rfl (pi_range1 rfl T.b_range (pa_cons (pe_callB (call_min2 rfl) (by rfl) T.b_min (by decide +kernel) (pa_cons (pe_callB call_len_seq (by rfl) T.b_len PySem.boot_len (pa_cons (pv 0) pa_nil)) (pa_cons pe_int pa_nil))) pa_nil)) (pg_name (i := 2) scLNums.nd rfl (Or.inl rfl))
        (pss_cons (ps_set (i := 3) scLNums.nd rfl (Or.inl rfl) (pe_callB call_abs (by rfl) T.b_abs (by decide +kernel) (pa_cons (pe_ix ix_list (pv 0) (pv 2) (fun _ _ => rfl)) pa_nil)))
        (pss_one (ps_if (pt_cmpR op_ge (pv 3) (pe_op op_pow pe_int pe_int) (nomark _))
          (pss_one (ps_for PassesOwn.never rfl (pi_range1 rfl T.b_range (pa_cons pe_int pa_nil)) (pg_name (i := 4) scLNums.nd rfl (Or.inl rfl))
            (pss_one (ps_if (pt_cmpR op_gt (pv 3) pe_int (nomark _))
              (pss_cons (ps_expr (pe_bm PySem.F.plainAttrs_list PySem.F.slot_list_append PySem.F.type_list_append mt_append (pv 1) (pa_cons (pe_op op_mod (pv 3) pe_int) pa_nil)))
                (pss_one (ps_set (i := 3) scLNums.nd rfl (Or.inl rfl) (pe_op op_fdiv (pv 3) pe_int)))) pss_nil))))
          (pss_one (ps_for PassesOwn.never rfl (pi_range1 rfl T.b_range (pa_cons pe_int pa_nil)) (pg_name (i := 5) scLNums.nd rfl (Or.inl rfl))
            (pss_cons (ps_set (i := 3) scLNums.nd rfl (Or.inl rfl) (pe_op op_mod (pe_op op_add (pe_op op_add (pe_op op_mul (pv 3) pe_int) (pe_op op_mul pe_int (pe_op op_add (pv 5) (pv 2)))) pe_int) pe_int))
            (pss_cons (ps_set (i := 6) scLNums.nd rfl (Or.inl rfl) (pe_op op_mod (pe_op op_add (pe_op op_mul (pv 3) pe_int) (pe_op op_fdiv (pv 3) pe_int)) pe_int))
            (pss_one (ps_expr (pe_bm PySem.F.plainAttrs_list PySem.F.slot_list_append PySem.F.type_list_append mt_append (pv 1) (pa_cons (pe_op op_mod (pv 6) pe_int) pa_nil))))))))))))
      (pss_one (ps_ret (pv 1)))), ?_⟩
    refine ⟨Nat.zero_le _, fun p hp => ?_⟩
    have hsame : ∀ ns, Same H (upd H p (iL ns)) := fun ns => same_upd hp
    refine ⟨_, rfl, a, _, rfl, .inl (hx.ext (hsame [])), _, _, rfl, ?_⟩
    refine ⟨_, rfl, by split <;> omega, by split <;> omega, ?_⟩
    refine for_range (lo := 0) (fun k σ H' => ∃ (ns : List Int) (v2 v3 v4 v5 v6 : Option V), σ = [some (.ref a), some (.ref p), v2, v3, v4, v5, v6] ∧ H' = upd H p (iL ns) ∧ ns.length ≤ 60 * k) ⟨[], none, none, none, none, none, rfl, rfl, Nat.zero_le _⟩ ?_ ?_
    · rintro k σ H' hk ⟨ns, v2, v3, v4, v5, v6, rfl, rfl, hl⟩
      have hk2 : k < xs.length ∧ k < 63 := by
        rw [List.length_map] at hk
        split at hk <;> omega
      have hat : atI (xs.map V.int) (0 + (k : Int)) = some (.int xs[k]) := by
        rw [Int.zero_add]
        exact atI_nat (by rw [List.getElem?_map, List.getElem?_eq_getElem hk2.1]; rfl)
      refine ⟨_, rfl, _, rfl, a, _, _, _, rfl, rfl, hx.ext (hsame ns), hat, _, rfl, ?_⟩
      generalize (if xs[k] < 0 then -xs[k] else xs[k]) = c
      refine ⟨_, rfl, _, _, rfl, rfl, ⟨by decide, by decide, by decide⟩, _, _, rfl, rfl, _, rfl, ?_⟩
      rcases Bool.eq_false_or_eq_true (decide ((10 : Int) ^ Int.toNat 18 ≤ c)) with hb | hb
      · refine if_t hb ?_
        refine ⟨_, rfl, by decide, by decide, ?_⟩
        refine for_range (lo := 0) (n := 60) (fun t σ H' => ∃ (ns : List Int) (c : Int) (v4 : Option V), σ = [some (.ref a), some (.ref p), some (.int (0 + (k : Int))), some (.int c), v4, v5, v6] ∧ H' = upd H p (iL ns) ∧ ns.length ≤ 60 * k + t) ⟨ns, c, v4, rfl, rfl, hl⟩ ?_ ?_
        · rintro t σ H' ht ⟨ns, c, v4, rfl, rfl, hl⟩
          refine ⟨_, rfl, _, _, rfl, rfl, _, rfl, ?_⟩
          rcases Bool.eq_false_or_eq_true (decide ((0 : Int) < c)) with hc | hc
          · refine if_t hc ?_
            refine ⟨_, rfl, .inl ⟨rfl, _, SqL.of upd_same⟩, _, rfl, _, _, rfl, rfl, (by decide : (0 : Int) < 1009), p, _, _, rfl, rfl, upd_same, sl_lt (by rw [List.length_map]; omega), ?_⟩
            refine ⟨_, rfl, _, _, rfl, rfl, ⟨by decide, by decide⟩, ?_⟩
            refine ⟨ns ++ [c % 1009], c / 1009, _, rfl, ?_, by rw [List.length_append]; simp; omega⟩
            rw [upd_upd, iL_snoc]
          · refine if_f hc ?_
            exact ⟨ns, c, _, rfl, rfl, by omega⟩
        · rintro σ H' ⟨ns, c, v4, rfl, rfl, hl⟩
          exact ⟨ns, _, _, _, _, _, rfl, rfl, by omega⟩
      · refine if_f hb ?_
        refine ⟨_, rfl, by decide, by decide, ?_⟩
        refine for_range (lo := 0) (n := 5) (fun t σ H' => ∃ (ns : List Int) (c : Int) (v5 v6 : Option V), σ = [some (.ref a), some (.ref p), some (.int (0 + (k : Int))), some (.int c), v4, v5, v6] ∧ H' = upd H p (iL ns) ∧ ns.length ≤ 60 * k + t) ⟨ns, c, v5, v6, rfl, rfl, hl⟩ ?_ ?_
        · rintro t σ H' ht ⟨ns, c, v5, v6, rfl, rfl, hl⟩
          refine ⟨_, rfl, _, _, rfl, rfl, .inr ⟨by decide, by decide⟩, _, rfl, _, rfl, _, _, rfl, rfl, _, _, rfl, rfl, .inl ⟨by decide, by decide⟩, _, _, rfl, rfl, _, _, rfl, rfl, _, _, rfl, rfl, (by decide : (0 : Int) < 2147483647), ?_⟩
          refine ⟨_, rfl, _, _, rfl, rfl, .inr ⟨by decide, by decide⟩, _, rfl, _, _, rfl, rfl, ⟨by decide, by decide⟩, _, _, rfl, rfl, _, _, rfl, rfl, (by decide : (0 : Int) < 2147483629), ?_⟩
          refine ⟨_, rfl, .inl ⟨rfl, _, SqL.of upd_same⟩, _, rfl, _, _, rfl, rfl, (by decide : (0 : Int) < 1009), p, _, _, rfl, rfl, upd_same, sl_lt (by rw [List.length_map]; omega), ?_⟩
          exact ⟨ns ++ [_], _, _, _, rfl, Eq.trans upd_upd (congrArg (upd H p) (iL_snoc ns _)), by rw [List.length_append]; simp; omega⟩
        · rintro σ H' ⟨ns, c, v5, v6, rfl, rfl, hl⟩
          exact ⟨ns, _, _, _, _, _, rfl, rfl, by omega⟩
    · rintro σ H' ⟨ns, v2, v3, v4, v5, v6, rfl, rfl, hl⟩
      exact ⟨_, rfl, q _ p ns (hsame ns) hp upd_same⟩
/-! ### _law_next -/
def spLNext (K : PySem.W.Frag) : Sp := fun vs H Q _ => ∃ (p : Addr) (m : Int) (ns : List Int), vs = [.ref p, .int m] ∧ 0 < m ∧ H p = some (iL ns) ∧ ∀ r ns', 0 ≤ r → r < m → Q (.int r) (upd H p (iL ns'))
theorem scLNext : FnScope ["_law_numbers_here", "_law_many"] ["_law_numbers_here", "_law_many"] (defScope sLNext) := ⟨rfl, rfl, rfl, by decide +kernel, rfl, by decide +kernel, by decide +kernel⟩
theorem ok_LNext {f : Addr} {fd : FuncData} (T : Txt K mg) (F : FnP K dLNext f fd) : FnOk P w K mg base CX0 1 f fd ["_law_numbers_here", "_law_many"] (spLNext K) := by
  refine okN F scLNext (fun vs H Q E h => ?_) (fun cdv A outer s H vs Q E hr h => ?_)
  · obtain ⟨p, m, ns, rfl, _⟩ := h
    rfl
  · obtain ⟨p, m, ns, rfl, hm, hp, q⟩ := h
    refine ⟨_, pss_cons (ps_if (pt_cmpR op_eq (pe_callB call_len_seq (by rfl) T.b_len PySem.boot_len (pa_cons (pv 0) pa_nil)) pe_int (nomark _)) (pss_one (ps_ret pe_int)) pss_nil)
      (pss_one (ps_ret (pe_op op_mod (pe_bm PySem.F.plainAttrs_list PySem.F.slot_list_pop PySem.F.type_list_pop mt_popAt (pv 0) (pa_cons pe_int pa_nil)) (pv 1)))), ?_⟩
    refine ⟨_, rfl, p, _, rfl, .inl (SqL.of hp), rfl, _, rfl, ?_⟩
    cases ns with
    | nil =>
      refine if_t rfl ?_
      have := q 0 [] (Int.le_refl _) hm
      rw [updS hp] at this
      exact this
    | cons n ns =>
      refine if_f (decide_eq_false fun z => by injection z with z; simp at z; omega) ?_
      refine ⟨_, rfl, .inl ⟨rfl, _, SqL.of hp⟩, p, _, 0, 0, _, rfl, rfl, hp, by decide, by decide, by simp [seqIndex?], rfl, _, rfl, _, _, rfl, rfl, hm, ?_⟩
      exact q (n % m) ns (Int.emod_nonneg _ (by omega)) (Int.emod_lt_of_pos _ hm)
end
end K9

namespace K9
open PySem PySem.Spec PyProof.Rows L2
/-- all but the object at p stands as it did -/
def SameX (p : Addr) (H H' : Hp) : Prop := ∀ b o, b ≠ p → H b = some o → H' b = some o
theorem SameX.refl (p : Addr) (H : Hp) : SameX p H H := fun _ _ _ e => e
theorem SameX.trans {p : Addr} {H H1 H2 : Hp} (a : SameX p H H1) (b : SameX p H1 H2) : SameX p H H2 := fun c o n e => b c o n (a c o n e)
theorem Same.x {p : Addr} {H H1 : Hp} (a : Same H H1) : SameX p H H1 := fun c o _ e => a c o e
theorem SameX.upd {p : Addr} {H : Hp} {o : HO} : SameX p H (upd H p o) := fun c u n e => by rw [upd_ne n]; exact e
section
variable {P : Program} {w : World} {K : PySem.W.Frag} {mg : Str → Option Value} {base : Heap}
abbrev GNext (P : Program) (w : World) (K : PySem.W.Frag) (mg : Str → Option Value) (base : Heap) : Prop := GFn P w K mg base CX0 1 "_law_next" ["_law_numbers_here", "_law_many"] [] (spLNext K)
/-! ### _law_prime -/
def spLPrime (K : PySem.W.Frag) : Sp := fun vs H Q _ => ∃ (p : Addr) (ns : List Int), vs = [.ref p] ∧ H p = some (iL ns) ∧ ∀ H' ns' (g : Gd), g ≠ .p7 → SameX p H H' → H' p = some (iL ns') → Q (.int g.p) H'
theorem scLPrime : FnScope ["_law_numbers_here"] ["_law_numbers_here"] (defScope sLPrime) := ⟨rfl, rfl, rfl, by decide +kernel, rfl, by decide +kernel, by decide +kernel⟩
theorem ok_LPrime {f : Addr} {fd : FuncData} (T : Txt K mg) (F : FnP K dLPrime f fd) (GN : GNext P w K mg base) : FnOk P w K mg base CX0 2 f fd ["_law_numbers_here"] (spLPrime K) := by
  refine okN F scLPrime (fun vs H Q E h => ?_) (fun cdv A outer s H vs Q E hr h => ?_)
  · obtain ⟨p, ns, rfl, _⟩ := h
    rfl
  · obtain ⟨p, ns, rfl, hp, q⟩ := h
    refine ⟨_, pss_one (ps_ret (pe_ix ix_list (pe_lst (pa_cons pe_int (pa_cons pe_int (pa_cons pe_int (pa_cons pe_int pa_nil))))) (pe_g (E := E0) GN hr pass0 (pa_cons (pv 0) (pa_cons pe_int pa_nil))) (fun _ _ => rfl))), ?_⟩
    refine ⟨by show 4 ≤ sizeLine; rw [sizeLine_eq]; decide, fun l hl => ?_⟩
    have nlp : l ≠ p := fun e => by rw [e, hp] at hl; cases hl
    refine ⟨_, rfl, p, 4, ns, rfl, by decide, by rw [upd_ne nlp.symm]; exact hp, fun r ns' h0 h4 => ?_⟩
    have hL : SqL K (upd (upd H l (.lst [.int 0, .int 2, .int 3, .int 5])) p (iL ns')) l [.int 0, .int 2, .int 3, .int 5] := SqL.of (by rw [upd_ne nlp]; exact upd_same)
    have sx : SameX p H (upd (upd H l (.lst [.int 0, .int 2, .int 3, .int 5])) p (iL ns')) := (Same.x (same_upd hl)).trans SameX.upd
    have fin : ∀ (g : Gd), g ≠ .p7 → Q (.int g.p) _ := fun g hg => q _ ns' g hg sx upd_same
    have hr4 : r = 0 ∨ r = 1 ∨ r = 2 ∨ r = 3 := by omega
    rcases hr4 with rfl | rfl | rfl | rfl
    · exact ⟨l, _, _, _, rfl, rfl, hL, rfl, fin .q (by decide)⟩
    · exact ⟨l, _, _, _, rfl, rfl, hL, rfl, fin .p2 (by decide)⟩
    · exact ⟨l, _, _, _, rfl, rfl, hL, rfl, fin .p3 (by decide)⟩
    · exact ⟨l, _, _, _, rfl, rfl, hL, rfl, fin .p5 (by decide)⟩
/-! ### _law_ground -/
def spLGround (K : PySem.W.Frag) : Sp := fun vs H Q _ => ∃ (g : Gd), vs = [.int g.p] ∧ ∀ H' G, Same H H' → GAt K H' G g → Q (.ref G) H'
abbrev CGr (P : Program) (w : World) (K : PySem.W.Frag) (mg : Str → Option Value) (base : Heap) (dvs : List V) : Prop := CFn P w K mg base CX0 3 "Ground" (cG K) ["self", "p"] dvs (spGInit K)
theorem mk_gr {H1 : Hp} {x dx : Addr} {g : Gd} (nx : H1 x = none) (nd : H1 dx = none) : Same H1 (upd (upd (upd H1 dx (.own x)) x (.ins (cG K) dx [])) x (.ins (cG K) dx (gf g.p))) := fun b u e => by
  rw [upd_ne (ne_of_none e nx), upd_ne (ne_of_none e nx), upd_ne (ne_of_none e nd)]; exact e
theorem gr_at {H1 : Hp} {Q : VK} {E : XK} {g : Gd} (q : ∀ H' G, Same H1 H' → GAt K H' G g → Q (.ref G) H') :
    ∀ x dx, H1 x = none → H1 dx = none → dx ≠ x → spGInit K [.ref x, .int g.p] (upd (upd H1 dx (.own x)) x (.ins (cG K) dx [])) (fun v H2 => v = .non ∧ Q (.ref x) H2) E := fun x dx nx nd ne =>
  ⟨x, dx, g, rfl, upd_same, rfl, q _ x (mk_gr nx nd) ⟨dx, upd_same⟩⟩
theorem scLGround : FnScope ["_law_p"] ["_law_p"] (defScope sLGround) := ⟨rfl, rfl, rfl, by decide +kernel, rfl, by decide +kernel, by decide +kernel⟩
theorem ok_LGround {f : Addr} {fd : FuncData} (T : Txt K mg) (F : FnP K dLGround f fd) (G0 : CGr P w K mg base [.int 0]) (G1 : CGr P w K mg base []) : FnOk P w K mg base CX0 5 f fd ["_law_p"] (spLGround K) := by
  refine okN F scLGround (fun vs H Q E h => ?_) (fun cdv A outer s H vs Q E hr h => ?_)
  · obtain ⟨g, rfl, _⟩ := h
    rfl
  · obtain ⟨g, rfl, q⟩ := h
    refine ⟨_, pss_cons (ps_if (pt_cmpR op_eq (pv 0) pe_int (nomark _)) (pss_one (ps_ret (pe_c0 (E := E0) G0 hr pass0))) pss_nil)
      (pss_one (ps_ret (pe_c (E := E0) G1 hr pass0 (pa_cons (pv 0) pa_nil)))), ?_⟩
    refine ⟨_, rfl, rfl, _, rfl, ?_⟩
    by_cases hg : g = .q
    · subst hg
      refine if_t rfl ?_
      exact gr_at (g := .q) q
    · refine if_f (decide_eq_false fun z => hg (Gd.p_inj (g' := .q) (by injection z with z; exact Int.ofNat.inj z))) ?_
      refine ⟨_, rfl, ?_⟩
      exact gr_at q
/-! ### _law_rest -/
def spLRest (K : PySem.W.Frag) : Sp := fun vs H Q _ => ∃ (g : Gd) (x : Int), vs = [.int g.p, .int x] ∧ ∀ y, (g = .q → y = x) → Q (.int y) H
theorem scLRest : FnScope ["_law_p", "_law_x"] ["_law_p", "_law_x"] (defScope sLRest) := ⟨rfl, rfl, rfl, by decide +kernel, rfl, by decide +kernel, by decide +kernel⟩
theorem ok_LRest {f : Addr} {fd : FuncData} (T : Txt K mg) (F : FnP K dLRest f fd) : FnOk P w K mg base CX0 1 f fd ["_law_p", "_law_x"] (spLRest K) := by
  refine okN F scLRest (fun vs H Q E h => ?_) (fun cdv A outer s H vs Q E hr h => ?_)
  · obtain ⟨g, x, rfl, _⟩ := h
    rfl
  · obtain ⟨g, x, rfl, q⟩ := h
    refine ⟨_, pss_cons (ps_if (pt_cmpR op_eq (pv 0) pe_int (nomark _)) (pss_one (ps_ret (pv 1))) pss_nil)
      (pss_one (ps_ret (pe_op op_mod (pv 1) (pv 0)))), ?_⟩
    refine ⟨_, rfl, rfl, _, rfl, ?_⟩
    by_cases hg : g = .q
    · subst hg
      exact if_t rfl ⟨_, rfl, q x fun _ => rfl⟩
    · refine if_f (decide_eq_false fun z => hg (Gd.p_inj (g' := .q) (by injection z with z; exact Int.ofNat.inj z))) ?_
      have hp : (0 : Int) < (g.p : Int) := by
        cases g
        · exact absurd rfl hg
        · decide
        · decide
        · decide
        · decide
      exact ⟨_, rfl, _, rfl, _, _, rfl, rfl, hp, q _ fun h => absurd h hg⟩
/-! ### _law_trim -/
def spLTrim (K : PySem.W.Frag) : Sp := fun vs H Q _ => ∃ (a : Addr) (ns : List Int), vs = [.ref a] ∧ H a = some (iL ns) ∧ ∀ H' p k, Same H H' → H p = none → H' p = some (iL (ns.take k)) → Q (.ref p) H'
theorem scLTrim : FnScope ["_law_row_here"] ["_law_row_here"] (defScope sLTrim) := ⟨rfl, rfl, rfl, by decide +kernel, rfl, by decide +kernel, by decide +kernel⟩
theorem ok_LTrim {f : Addr} {fd : FuncData} (T : Txt K mg) (F : FnP K dLTrim f fd) : FnOk P w K mg base CX0 1 f fd ["_law_row_here"] (spLTrim K) := by
  refine okN F scLTrim (fun vs H Q E h => ?_) (fun cdv A outer s H vs Q E hr h => ?_)
  · obtain ⟨a, ns, rfl, _⟩ := h
    rfl
  · obtain ⟨a, ns, rfl, ha, q⟩ := h
    refine ⟨_, pss_cons (ps_set (i := 0) scLTrim.nd rfl (Or.inl rfl) (pe_callTy call_list_of (by rfl) T.b_list (by decide +kernel) (pa_cons (pv 0) pa_nil)))
      (pss_cons (ps_while PassesOwn.never (PW.pt (pw_and (pt_cmpR op_gt (pe_callB call_len_seq (by rfl) T.b_len PySem.boot_len (pa_cons (pv 0) pa_nil)) pe_int (nomark _))
          (pw_and1 (pt_cmpR op_eq (pe_ix ix_list (pv 0) (pe_un un_neg pe_int) (fun _ _ => rfl)) pe_int (nomark _)))))
        (pss_one (ps_expr (pe_bm0 PySem.F.plainAttrs_list PySem.F.slot_list_pop PySem.F.type_list_pop mt_pop (pv 0)))))
      (pss_one (ps_ret (pv 0)))), ?_⟩
    refine ⟨_, rfl, a, _, rfl, .inl (SqL.of ha), fun p hp => ?_⟩
    have s1 : ∀ o, Same H (upd H p o) := fun o => same_upd hp
    refine ⟨fun m σ H' => σ = [some (.ref p)] ∧ m ≤ ns.length ∧ H' = upd H p (iL (ns.take m)), ⟨ns.length, rfl, Nat.le_refl _, by rw [List.take_length]⟩, ?_⟩
    rintro m σ H' ⟨rfl, hm, rfl⟩
    have hl : ((ns.take m).map V.int).length = m := by rw [List.length_map, List.length_take]; omega
    refine ⟨_, rfl, p, _, rfl, .inl (SqL.of upd_same), _, _, rfl, rfl, _, rfl, ?_⟩
    rw [hl]
    cases m with
    | zero =>
      refine if_f rfl (if_f rfl ?_)
      exact ⟨_, rfl, q _ p 0 (s1 _) hp upd_same⟩
    | succ k =>
      refine if_t (decide_eq_true (by omega)) ?_
      have hk : k < ns.length := hm
      have hx : ns[k]? = some ns[k] := List.getElem?_eq_getElem hk
      have hat : ((ns.take (k + 1)).map V.int)[((ns.take (k + 1)).map V.int).length - 1]? = some (.int ns[k]) := by
        rw [hl, List.getElem?_map, List.getElem?_take_of_lt (by omega), Nat.add_sub_cancel, hx]
        rfl
      refine ⟨_, rfl, _, rfl, p, _, _, _, rfl, rfl, SqL.of upd_same, atI_m1 hat, rfl, _, rfl, ?_⟩
      by_cases h0 : ns[k] = 0
      · refine if_t (decide_eq_true (by rw [h0])) ?_
        refine ⟨fun σ' H2 => σ' = [some (.ref p)] ∧ H2 = upd H p (iL (ns.take k)), fun σ' H2 ⟨e1, e2⟩ => ⟨k, Nat.lt_succ_self _, e1, by omega, e2⟩, ?_⟩
        refine ⟨_, rfl, .inl ⟨rfl, _, SqL.of upd_same⟩, p, _, _, rfl, rfl, upd_same, hat, rfl, ?_⟩
        rw [upd_upd]
        congr 2
        show ((ns.take (k + 1)).map V.int).dropLast = (ns.take k).map V.int
        rw [take_get hx, List.map_append, List.map_singleton, List.dropLast_concat]
      · refine if_f (decide_eq_false fun z => h0 (by injection z)) ?_
        exact ⟨_, rfl, q _ p _ (s1 _) hp upd_same⟩
end
end K9

namespace K9
open PySem PySem.Spec PyProof.Rows L2
section
variable {X : Cx} {CX : CXT} {k : Nat} {x : Str} {ps : List Str} {sp : Sp} {E : L2.St → XK} {p pos : Pos} {e : Expr} {es : List Expr} {t : TA}
theorem pe_gS (G : GFn X.prog X.w X.K X.mg X.base CX k x ps [] sp) (hr : Room k X.A) (hx : ∀ σ, PassesAt CX X σ (E σ)) (ha : PA X (e :: es) t) (hg : Gl X x := by rfl) (hdb : (x == ("__debug__" : Str)) = false := by decide)
    (he : starEach (e :: es) X.env = (false, eval e X.env) :: starEach es X.env := by rfl) (hpl : (backTo pos (starEach es X.env)).any (·.1) = false := by rfl) : PE X (.Call (.Name x p) (e :: es) [] pos) (tCallS sp E t) := by
  obtain ⟨f, ⟨fd, ds, F, hd, hb⟩, hm, hk⟩ := G.ex
  cases hd
  exact pe_callS F hr hg hm hk hb hx ha hdb he hpl
end
section
variable {P : Program} {w : World} {K : PySem.W.Frag} {mg : Str → Option Value} {base : Heap}
/-! ### _law_row -/
def RowI (g : Gd) (ms : List Int) : Prop := ms.length ≤ 3 ∧ ∀ x ∈ ms, g = .q → -2 ≤ x ∧ x ≤ 2
def spLRow (K : PySem.W.Frag) : Sp := fun vs H Q _ => ∃ (p : Addr) (g : Gd) (ns : List Int), vs = [.ref p, .int g.p, .int 2] ∧ H p = some (iL ns) ∧ ∀ H' r ns' ms, SameX p H H' → H' p = some (iL ns') → H' r = some (iL ms) → RowI g ms → Q (.ref r) H'
theorem scLRow : FnScope ["_law_numbers_here", "_law_p", "_law_most", "_law_k"] ["_law_numbers_here", "_law_p", "_law_most"] (defScope sLRow) := ⟨rfl, rfl, rfl, by decide +kernel, rfl, by decide +kernel, by decide +kernel⟩
theorem ok_LRow {f : Addr} {fd : FuncData} (T : Txt K mg) (F : FnP K dLRow f fd) (GN : GNext P w K mg base) (GR : GFn P w K mg base CX0 1 "_law_rest" ["_law_p", "_law_x"] [] (spLRest K)) (GT : GFn P w K mg base CX0 1 "_law_trim" ["_law_row_here"] [] (spLTrim K)) :
    FnOk P w K mg base CX0 2 f fd ["_law_numbers_here", "_law_p", "_law_most"] (spLRow K) := by
  refine okN F scLRow (fun vs H Q E h => ?_) (fun cdv A outer s H vs Q E hr h => ?_)
  · obtain ⟨p, g, ns, rfl, _⟩ := h
    rfl
  · obtain ⟨p, g, ns, rfl, hp, q⟩ := h
    refine ⟨_, pss_one (ps_ret (pe_g (E := E0) GT hr pass0 (pa_cons (pe_lc (own := [("_law_k", 3)]) (g := gName 3) (tt := tYes) rfl scLRow.nd
        (pi_range1 rfl T.b_range (pa_cons (pe_g (E := E0) GN hr pass0 (pa_cons (pv 0) (pa_cons (pe_op op_add (pv 2) pe_int) pa_nil))) pa_nil))
        (blkOk_by (N := ["_law_numbers_here", "_law_p", "_law_most", "_law_k"]) (sc := defScope sLRow) (by decide +kernel)) (fun _ _ _ _ _ => pg_name (i := 3) scLRow.nd rfl (Or.inl rfl)) (fun _ _ _ _ _ => pts_nil)
        (fun _ _ _ _ _ => pe_g (sp := spLRest K) (dvs := []) (E := E0) GR hr pass0 (pa_cons (pv 1) (pa_cons (pe_op (r := rI0 fun i j => .int (i - j)) op_sub (pe_g (sp := spLNext K) (dvs := []) (E := E0) GN hr pass0 (pa_cons (pv 0) (pa_cons pe_int pa_nil))) pe_int) pa_nil)))) pa_nil))), ?_⟩
    refine ⟨_, rfl, _, rfl, _, _, rfl, rfl, p, 4, ns, rfl, by decide, hp, fun r ns1 h0 h4 => ?_⟩
    refine ⟨_, rfl, by omega, by omega, fun D hD => ?_⟩
    have nDp : D ≠ p := fun e => by rw [e, upd_same] at hD; cases hD
    have hD0 : H D = none := by rw [upd_ne nDp] at hD; exact hD
    refine lc_range (lo := 0) (n := r.toNat) (fun i H' => ∃ acc ns' : List Int, H' D = some (iL acc) ∧ H' p = some (iL ns') ∧ acc.length = i ∧ (∀ x ∈ acc, g = .q → -2 ≤ x ∧ x ≤ 2) ∧ ∀ b o, b ≠ p → b ≠ D → H b = some o → H' b = some o)
      ⟨[], ns1, upd_same, by rw [upd_ne nDp.symm]; exact upd_same, rfl, fun x hx => by simp at hx, fun b o n m e => by rw [upd_ne m, upd_ne n]; exact e⟩ ?_ ?_
    · rintro i H' hi ⟨acc, ns', hA, hP, hl, hr', sx⟩
      refine ⟨rfl, ?_⟩
      refine ⟨_, rfl, _, rfl, p, 5, ns', rfl, by decide, hP, fun z ns2 z0 z5 => ?_⟩
      refine ⟨_, _, rfl, rfl, g, z - 2, rfl, fun y hy => ?_⟩
      refine ⟨_, by rw [upd_ne nDp]; exact hA, sl_lt (by rw [List.length_map]; omega), acc ++ [y], ns2, ?_, ?_, by rw [List.length_append, hl] <;> rfl, fun x hx hg => ?_, ?_⟩
      · rw [upd_same]
        exact congrArg some (iL_snoc acc y)
      · rw [upd_ne nDp.symm]; exact upd_same
      · rcases List.mem_append.mp hx with h | h
        · exact hr' x h hg
        · rw [List.mem_singleton.mp h, hy hg]
          omega
      · intro b o n m e
        rw [upd_ne m, upd_ne n]
        exact sx b o n m e
    · rintro H' ⟨acc, ns', hA, hP, hl, hr', sx⟩
      refine ⟨D, acc, rfl, hA, fun H2 t k s2 ht hk => q H2 t ns' _ (fun b o n e => s2 _ _ (sx b o n (fun z => by rw [z, hD0] at e; cases e) e)) (s2 _ _ hP) hk ⟨?_, fun x hx => hr' x (List.mem_of_mem_take hx)⟩⟩
      rw [List.length_take]
      omega
/-! ### _law_poly -/
def spLPoly (K : PySem.W.Frag) : Sp := fun vs H Q _ => ∃ (G r : Addr) (g : Gd) (ms : List Int), vs = [.ref G, .ref r] ∧ GAt K H G g ∧ H r = some (iL ms) ∧ ms.length ≤ 1000 ∧ ∀ H' p, Same H H' → PAt K H' p g (trim (ms.map (ofI g))) → Q (.ref p) H'
theorem scLPoly : FnScope ["_law_ground_here", "_law_row_here", "_law_c"] ["_law_ground_here", "_law_row_here"] (defScope sLPoly) := ⟨rfl, rfl, rfl, by decide +kernel, rfl, by decide +kernel, by decide +kernel⟩
theorem ok_LPoly {f : Addr} {fd : FuncData} (T : Txt K mg) (F : FnP K dLPoly f fd) (MN : MNum P w K mg base) (CP : CPoly P w K mg base) : FnOk P w K mg base CX0 11 f fd ["_law_ground_here", "_law_row_here"] (spLPoly K) := by
  refine okN F scLPoly (fun vs H Q E h => ?_) (fun cdv A outer s H vs Q E hr h => ?_)
  · obtain ⟨G, r, g, ms, rfl, _⟩ := h
    rfl
  · obtain ⟨G, r, g, ms, rfl, ⟨dg, hG⟩, hR, hl, q⟩ := h
    have hr7 : Room 7 _ := hr.mono (by decide)
    refine ⟨_, pss_one (ps_ret (pe_c (E := E0) CP hr pass0 (pa_cons (pv 0) (pa_cons (pe_lc (own := [("_law_c", 2)]) (g := gName 2) (tt := tYes) rfl scLPoly.nd (pi_list (pv 1))
        (blkOk_by (N := ["_law_ground_here", "_law_row_here", "_law_c"]) (sc := defScope sLPoly) (by decide +kernel)) (fun _ _ _ _ _ => pg_name (i := 2) scLPoly.nd rfl (Or.inl rfl)) (fun _ _ _ _ _ => pts_nil)
        (fun _ _ _ _ _ => pe_m (sp := spGNum K) (dvs := [.int 1]) (E := E0) (pv 0) T.oG.cl MN hr7 pass0 (pa_cons (pv 2) pa_nil))) pa_nil)))), ?_⟩
    refine ⟨_, rfl, _, rfl, r, rfl, ⟨_, SqL.of hR⟩, fun D hD => lc_list (xs := ms.map V.int) (LcI K H D g (ms.map (ofI g))) (LcI.start hD) (fun i H2 _ c => SqL.of (c.same _ _ hR)) ?_ ?_⟩
    · intro i v H2 hv c
      rw [List.getElem?_map] at hv
      obtain ⟨n, en, rfl⟩ := Option.map_eq_some_iff.mp hv
      refine ⟨rfl, ?_⟩
      refine ⟨_, rfl, G, dg, _, rfl, c.same _ _ hG, gf_no _ (by decide +kernel), _, rfl, G, g, n, rfl, ⟨dg, c.same _ _ hG⟩, fun H3 p s3 np => c.step s3 ?_ (by rw [List.length_map]; exact hl) np⟩
      rw [List.getElem?_map, en]
      rfl
    · intro H2 c
      have e : (ms.map V.int).length = (ms.map (ofI g)).length := by rw [List.length_map, List.length_map]
      rw [e] at c
      obtain ⟨vs1, h1, n1⟩ := c.done
      exact mk_poly ⟨dg, c.same _ _ hG⟩ (.inl h1) (its_of n1) (by rw [List.length_map]; exact hl) fun H3 p2 s3 => q H3 p2 (c.same.trans s3)
end
end K9

namespace K9
open PySem PySem.Spec PyProof.Rows L2
section
variable {P : Program} {w : World} {K : PySem.W.Frag} {mg : Str → Option Value} {base : Heap}
abbrev GDv (P : Program) (w : World) (K : PySem.W.Frag) (mg : Str → Option Value) (base : Heap) (k : Nat) (x : Str) (sp : Sp) : Prop := GFn P w K mg base (L2.CX P w) k x ["f", "g"] [] sp
def tMixC (i : Int) (sp : Sp) (W : WX) : TS := tIfS (tTest (tOp rEq (tVar 0) (tC (.int i)))) (tDrop (tCallS sp (WE W) (tCons (tVar 1) (tCons (tVar 2) tNil)))) tNext
def tMix (K : PySem.W.Frag) (W : WX) : TS := tSeq (tMixC 0 (spGcd K) W) (tSeq (tMixC 1 (spLcm K) W) (tSeq (tMixC 2 (spCof K) W) (tMixC 3 (spCop K) W)))
def spMix (K : PySem.W.Frag) : Sp := fun vs H Q _ => ∃ (i : Nat) (a b : Addr) (g : Gd) (xs : List (El g)) (ys : List (El .p7)), vs = [.int (i : Int), .ref a, .ref b] ∧ i < 4 ∧ PAt K H a g xs ∧ PAt K H b .p7 ys ∧ g ≠ .p7 ∧ Q (.bl true) H
theorem scLMix : FnScope ["_law_which", "_law_f", "_law_g"] ["_law_which", "_law_f", "_law_g"] (defScope sLMix) := ⟨rfl, rfl, rfl, by decide +kernel, rfl, by decide +kernel, by decide +kernel⟩
theorem mix_bad {A : (g : Gd) → List (El g) → List (El g) → Prop} {R : (g : Gd) → List (El g) → List (El g) → V → Hp → Prop} {vs : List V} {H : Hp} {Q Q' : VK} {E : XK} (h : spBad K vs H Q' E) : spDv K A R vs H Q E := .inr h
theorem ok_LMix {f : Addr} {fd : FuncData} (T : Txt K mg) (F : FnP K dLMix f fd) (G1 : GDv P w K mg base 13 "common_divisor" (spGcd K)) (G2 : GDv P w K mg base 14 "common_multiple" (spLcm K)) (G3 : GDv P w K mg base 12 "cofactors" (spCof K)) (G4 : GDv P w K mg base 14 "are_coprime" (spCop K)) :
    FnOk P w K mg base CX0 15 f fd ["_law_which", "_law_f", "_law_g"] (spMix K) := by
  refine okN F scLMix (fun vs H Q E h => ?_) (fun cdv A outer s H vs Q E hr h => ?_)
  · obtain ⟨i, a, b, g, xs, ys, rfl, _⟩ := h
    rfl
  · obtain ⟨i, a, b, g, xs, ys, rfl, hi, pa, pb, ne, q⟩ := h
    refine ⟨_, pss_cons (ps_try_only (tb := tMix K) (ts := fun _ _ _ => tRet (tC (.bl true))) (Wout := fun _ _ _ _ => False) rfl rfl ⟨rfl, by decide, Or.inl T.gM⟩ takes0
        (fun W pn xe tk _ => pss_cons (ps_if (pt_cmpR op_eq (pv 0) pe_int (nomark _)) (pss_one (ps_expr (pe_gS G1 (hr.mono (by decide)) (fun σ => passAt tk σ) (by exact (pa_cons (pv 1) (pa_cons (pv 2) pa_nil)))))) pss_nil)
          (pss_cons (ps_if (pt_cmpR op_eq (pv 0) pe_int (nomark _)) (pss_one (ps_expr (pe_gS G2 hr (fun σ => passAt tk σ) (by exact (pa_cons (pv 1) (pa_cons (pv 2) pa_nil)))))) pss_nil)
          (pss_cons (ps_if (pt_cmpR op_eq (pv 0) pe_int (nomark _)) (pss_one (ps_expr (pe_gS G3 (hr.mono (by decide)) (fun σ => passAt tk σ) (by exact (pa_cons (pv 1) (pa_cons (pv 2) pa_nil)))))) pss_nil)
          (pss_one (ps_if (pt_cmpR op_eq (pv 0) pe_int (nomark _)) (pss_one (ps_expr (pe_gS G4 hr (fun σ => passAt tk σ) (by exact (pa_cons (pv 1) (pa_cons (pv 2) pa_nil)))))) pss_nil)))))
        (fun _ _ _ _ _ _ _ => pss_one (ps_ret pe_bl)))
      (pss_one (ps_ret pe_bl)), ?_⟩
    have bad : ∀ (E' : XK), E' (.ref (cM K)) none H → spBad K [.ref a, .ref b] H Q E' := fun E' h => ⟨a, b, g, .p7, xs, ys, rfl, pa, pb, ne, h⟩
    have hi4 : i = 0 ∨ i = 1 ∨ i = 2 ∨ i = 3 := by omega
    rcases hi4 with rfl | rfl | rfl | rfl
    · exact ⟨_, rfl, rfl, _, rfl, if_t rfl ⟨_, rfl, _, rfl, .inr (bad _ ⟨true, T.eM, fun _ p hp => q, fun z => nomatch z⟩)⟩⟩
    · exact ⟨_, rfl, rfl, _, rfl, if_f rfl ⟨_, rfl, rfl, _, rfl, if_t rfl ⟨_, rfl, _, rfl, .inr (bad _ ⟨true, T.eM, fun _ p hp => q, fun z => nomatch z⟩)⟩⟩⟩
    · exact ⟨_, rfl, rfl, _, rfl, if_f rfl ⟨_, rfl, rfl, _, rfl, if_f rfl ⟨_, rfl, rfl, _, rfl, if_t rfl ⟨_, rfl, _, rfl, .inr (bad _ ⟨true, T.eM, fun _ p hp => q, fun z => nomatch z⟩)⟩⟩⟩⟩
    · exact ⟨_, rfl, rfl, _, rfl, if_f rfl ⟨_, rfl, rfl, _, rfl, if_f rfl ⟨_, rfl, rfl, _, rfl, if_f rfl ⟨_, rfl, rfl, _, rfl, if_t rfl ⟨_, rfl, _, rfl, .inr (bad _ ⟨true, T.eM, fun _ p hp => q, fun z => nomatch z⟩)⟩⟩⟩⟩⟩
end
end K9

namespace K9
open PySem PySem.Spec PyProof.Rows L2
/-- what the law's walk takes from the mirror -/
structure LawF {K : Type} [Fld K] (a b c : List K) : Prop where
  mb : MulOk a b
  mc : MulOk a c
  e1 : EuOk (pmul a c).length (pmul a b) (pmul a c)
  e2 : EuOk (pmul a b).length (pmul a c) (pmul a b)
  co : CofOk (pmul a c).length (cof0 (pmul a b) (pmul a c))
  cd : (cofs (pmul a b) (pmul a c)).1 = cdiv (pmul a b) (pmul a c)
  mu : MulOk (cofs (pmul a b) (pmul a c)).2.1 (pmul a b)
  mv : MulOk (cofs (pmul a b) (pmul a c)).2.2 (pmul a c)
  ad : AddOk (pmul (cofs (pmul a b) (pmul a c)).2.1 (pmul a b)) (pmul (cofs (pmul a b) (pmul a c)).2.2 (pmul a c))
  lu : (cofs (pmul a b) (pmul a c)).2.1.length ≤ 100
  lv : (cofs (pmul a b) (pmul a c)).2.2.length ≤ 100
  bz : padd (pmul (cofs (pmul a b) (pmul a c)).2.1 (pmul a b)) (pmul (cofs (pmul a b) (pmul a c)).2.2 (pmul a c)) = cdiv (pmul a b) (pmul a c)
  sy : cdiv (pmul a c) (pmul a b) = cdiv (pmul a b) (pmul a c)
  z : pmul a b = [] → pmul a c = [] → cdiv (pmul a b) (pmul a c) = []
  nz : ¬ (pmul a b = [] ∧ pmul a c = []) → cdiv (pmul a b) (pmul a c) ≠ [] ∧ lst (cdiv (pmul a b) (pmul a c)) = 1 ∧ DivOk (pmul a b) (cdiv (pmul a b) (pmul a c)) ∧ pmod (pmul a b) (cdiv (pmul a b) (pmul a c)) = [] ∧
    DivOk (pmul a c) (cdiv (pmul a b) (pmul a c)) ∧ pmod (pmul a c) (cdiv (pmul a b) (pmul a c)) = []
  one : (pmul a b = [] ∨ pmul a c = []) → ¬ (pmul a b = [] ∧ pmul a c = []) → AddOk (pmul a b) (pmul a c) ∧ MonOk (padd (pmul a b) (pmul a c)) ∧ monic (padd (pmul a b) (pmul a c)) = cdiv (pmul a b) (pmul a c)
  ane : pmul a b ≠ [] → pmul a c ≠ [] → a ≠ []
  da : pmul a b ≠ [] → pmul a c ≠ [] → DivOk (cdiv (pmul a b) (pmul a c)) a ∧ pmod (cdiv (pmul a b) (pmul a c)) a = []
  rest : pmul a b ≠ [] → pmul a c ≠ [] → EuOk (pdiv (pmul a c) (cdiv (pmul a b) (pmul a c))).length (pdiv (pmul a b) (cdiv (pmul a b) (pmul a c))) (pdiv (pmul a c) (cdiv (pmul a b) (pmul a c))) ∧
    (cdiv (pdiv (pmul a b) (cdiv (pmul a b) (pmul a c))) (pdiv (pmul a c) (cdiv (pmul a b) (pmul a c)))).length = 1
  lc : LcmOk (pmul a b) (pmul a c)
  ll : pmul a b ≠ [] → pmul a c ≠ [] → MulOk (cmul (pmul a b) (pmul a c)) (cdiv (pmul a b) (pmul a c)) ∧ MulOk (pmul a b) (pmul a c) ∧ MonOk (pmul (pmul a b) (pmul a c)) ∧
    pmul (cmul (pmul a b) (pmul a c)) (cdiv (pmul a b) (pmul a c)) = monic (pmul (pmul a b) (pmul a c))
section
variable {K : PySem.W.Frag} {H H' : Hp} {p a b : Addr} {g : Gd} {o : List V}
theorem ne_lst {x C dx : Addr} {fs : List (Str × V)} (h : H x = some (.ins C dx fs)) (hp : H p = some (.lst o)) : x ≠ p := fun e => by
  rw [e, hp] at h; cases h
theorem ne_lst2 {x : Addr} {us : List V} (h : H x = some (.tup us)) (hp : H p = some (.lst o)) : x ≠ p := fun e => by
  rw [e, hp] at h; cases h
theorem QAt.x {r : Rat} (h : QAt K H a r) (s : SameX p H H') (hp : H p = some (.lst o)) : QAt K H' a r := let ⟨dx, e⟩ := h; ⟨dx, s _ _ (ne_lst e hp) e⟩
theorem ZAt.x {m n : Int} (h : ZAt K H a m n) (s : SameX p H H') (hp : H p = some (.lst o)) : ZAt K H' a m n := let ⟨dx, e⟩ := h; ⟨dx, s _ _ (ne_lst e hp) e⟩
theorem NAt.x : {g : Gd} → {x : El g} → NAt K H a g x → SameX p H H' → H p = some (.lst o) → NAt K H' a g x
  | .q, _, h, s, hp => QAt.x h s hp
  | .p2, _, h, s, hp => ZAt.x h s hp
  | .p3, _, h, s, hp => ZAt.x h s hp
  | .p5, _, h, s, hp => ZAt.x h s hp
  | .p7, _, h, s, hp => ZAt.x h s hp
theorem GAt.x (h : GAt K H a g) (s : SameX p H H') (hp : H p = some (.lst o)) : GAt K H' a g := let ⟨dx, e⟩ := h; ⟨dx, s _ _ (ne_lst e hp) e⟩
theorem PAt.x {xs : List (El g)} (h : PAt K H a g xs) (s : SameX p H H') (hp : H p = some (.lst o)) : PAt K H' a g xs :=
  let ⟨dx, G, R, e, hg, us, hu, hn⟩ := h
  ⟨dx, G, R, s _ _ (ne_lst e hp) e, hg.x s hp, us, s _ _ (ne_lst2 hu hp) hu, Paired.mapP hn fun _ _ ⟨b, e1, n⟩ => ⟨b, e1, n.x s hp⟩⟩
theorem PAt.ins {xs : List (El g)} (h : PAt K H a g xs) : ∃ dx G R, H a = some (.ins (cP K) dx (pf G R)) := let ⟨dx, G, R, e, _⟩ := h; ⟨dx, G, R, e⟩
variable {Q : VK} {E : XK}
theorem ob2 {A : (g : Gd) → List (El g) → List (El g) → Prop} {op : (g : Gd) → List (El g) → List (El g) → List (El g)} {xs ys : List (El g)} (pa : PAt K H a g xs) (pb : PAt K H b g ys) (ok : A g xs ys) (l1 : xs.length ≤ 400) (l2 : ys.length ≤ 400)
    (q : ∀ H' p, Same H H' → PAt K H' p g (op g xs ys) → Q (.ref p) H') : rOwnB (cP K) (spP2 K A op) E (.ref a) (.ref b) H Q := by
  obtain ⟨dx, G, R, ha⟩ := pa.ins
  obtain ⟨dy, G', R', hb⟩ := pb.ins
  exact ⟨a, b, dx, dy, _, _, rfl, rfl, ha, hb, a, b, g, xs, ys, rfl, pa, pb, ok, l1, l2, q⟩
theorem obE {xs : List (El g)} (pa : PAt K H a g xs) (pb : PAt K H b g xs) (q : ∀ H', Same H H' → Q (.bl true) H') : rOwnB (cP K) (spPEq K) E (.ref a) (.ref b) H Q := by
  obtain ⟨dx, G, R, ha⟩ := pa.ins
  obtain ⟨dy, G', R', hb⟩ := pb.ins
  exact ⟨a, b, dx, dy, _, _, rfl, rfl, ha, hb, a, b, g, xs, rfl, pa, pb, q⟩
theorem obN {xs : List (El g)} (pa : PAt K H a g xs) (pb : PAt K H b g xs) (q : ∀ H', Same H H' → Q (.bl false) H') : rOwnN (cP K) (spPEq K) E (.ref a) (.ref b) H Q := by
  obtain ⟨dx, G, R, ha⟩ := pa.ins
  obtain ⟨dy, G', R', hb⟩ := pb.ins
  exact ⟨a, b, dx, dy, _, _, rfl, rfl, ha, hb, a, b, g, xs, rfl, pa, pb, fun H' s => ⟨true, rfl, q H' s⟩⟩
theorem obZ {σ : L2.St} {xs : List (El g)} (pa : PAt K H a g xs) (q : Q (.bl (decide (xs = []))) H) : ∃ a' dx fs, V.ref a = .ref a' ∧ H a' = some (.ins (cP K) dx fs) ∧ fs.lookup ("is_zero" : Str) = none ∧ tNil σ H fun vs H2 => spPZer K (V.ref a :: (vs ++ [])) H2 Q E := by
  obtain ⟨dx, G, R, ha⟩ := pa.ins
  exact ⟨a, dx, _, rfl, ha, pf_no _ _ (by decide +kernel) (by decide +kernel), a, g, xs, rfl, pa, q⟩
theorem obM {σ : L2.St} {xs : List (El g)} (pa : PAt K H a g xs) (t : Tr xs) (ok : MonOk xs) (l : xs.length ≤ 1000) (q : ∀ H' p, Same H H' → PAt K H' p g (monic xs) → Q (.ref p) H') :
    ∃ a' dx fs, V.ref a = .ref a' ∧ H a' = some (.ins (cP K) dx fs) ∧ fs.lookup ("monic" : Str) = none ∧ tNil σ H fun vs H2 => spPMon K (V.ref a :: (vs ++ [])) H2 Q E := by
  obtain ⟨dx, G, R, ha⟩ := pa.ins
  exact ⟨a, dx, _, rfl, ha, pf_no _ _ (by decide +kernel) (by decide +kernel), a, g, xs, rfl, pa, t, ok, l, q⟩
theorem obD {σ : L2.St} {xs : List (El g)} (pa : PAt K H a g xs) (q : Q (.int ((xs.length : Int) - 1)) H) : ∃ a' dx fs, V.ref a = .ref a' ∧ H a' = some (.ins (cP K) dx fs) ∧ fs.lookup ("degree" : Str) = none ∧ tNil σ H fun vs H2 => spPDeg K (V.ref a :: (vs ++ [])) H2 Q E := by
  obtain ⟨dx, G, R, ha⟩ := pa.ins
  exact ⟨a, dx, _, rfl, ha, pf_no _ _ (by decide +kernel) (by decide +kernel), a, g, xs, rfl, pa, q⟩
theorem obL {A : (g : Gd) → List (El g) → List (El g) → Prop} {R : (g : Gd) → List (El g) → List (El g) → V → Hp → Prop} {xs ys : List (El g)} (pa : PAt K H a g xs) (pb : PAt K H b g ys) (t1 : Tr xs) (t2 : Tr ys) (ok : A g xs ys) (l1 : xs.length ≤ 50) (l2 : ys.length ≤ 50)
    (q : ∀ H' v, Same H H' → R g xs ys v H' → Q v H') : spDv K A R [.ref a, .ref b] H Q E := .inl ⟨a, b, g, xs, ys, rfl, pa, pb, t1, t2, ok, l1, l2, q⟩
theorem zz_and {σ : L2.St} {xs ys : List (El g)} {Q : Bool → Hp → Prop} (h5 : σ[5]? = some (some (.ref a))) (h6 : σ[6]? = some (some (.ref b))) (pa : PAt K H a g xs) (pb : PAt K H b g ys) (q : Q (decide (xs = []) && decide (ys = [])) H) :
    tAnd (tB (tMeth (cP K) "is_zero" (spPZer K) [] E0 (tVar 5) tNil)) (tB (tMeth (cP K) "is_zero" (spPZer K) [] E0 (tVar 6) tNil)) σ H Q := by
  refine ⟨_, h5, obZ pa ⟨_, rfl, ?_⟩⟩
  cases e : decide (xs = []) with
  | true =>
    rw [e] at q
    exact if_t rfl ⟨_, h6, obZ pb ⟨_, rfl, q⟩⟩
  | false =>
    rw [e] at q
    exact if_f rfl q
theorem zz_or {σ : L2.St} {xs ys : List (El g)} {Q : Bool → Hp → Prop} (h5 : σ[5]? = some (some (.ref a))) (h6 : σ[6]? = some (some (.ref b))) (pa : PAt K H a g xs) (pb : PAt K H b g ys) (q : Q (decide (xs = []) || decide (ys = [])) H) :
    tOr (tB (tMeth (cP K) "is_zero" (spPZer K) [] E0 (tVar 5) tNil)) (tB (tMeth (cP K) "is_zero" (spPZer K) [] E0 (tVar 6) tNil)) σ H Q := by
  refine ⟨_, h5, obZ pa ⟨_, rfl, ?_⟩⟩
  cases e : decide (xs = []) with
  | true =>
    rw [e] at q
    exact if_t rfl q
  | false =>
    rw [e] at q
    exact if_f rfl ⟨_, h6, obZ pb ⟨_, rfl, q⟩⟩
/-- what stands at the law's names -/
structure Env1 (K : PySem.W.Frag) (H : Hp) (g : Gd) (G Aa Fa Ga Za Oa Da Ua Va : Addr) (a f h d u v : List (El g)) : Prop where
  hG : GAt K H G g
  pa : PAt K H Aa g a
  pf : PAt K H Fa g f
  ph : PAt K H Ga g h
  pz : PAt K H Za g []
  po : PAt K H Oa g d
  pd : PAt K H Da g d
  pu : PAt K H Ua g u
  pv : PAt K H Va g v
theorem Env1.same {G Aa Fa Ga Za Oa Da Ua Va : Addr} {a f h d u v : List (El g)} (L : Env1 K H g G Aa Fa Ga Za Oa Da Ua Va a f h d u v) (s : Same H H') : Env1 K H' g G Aa Fa Ga Za Oa Da Ua Va a f h d u v :=
  ⟨L.hG.same s, L.pa.same s, L.pf.same s, L.ph.same s, L.pz.same s, L.po.same s, L.pd.same s, L.pu.same s, L.pv.same s⟩
end
end K9

namespace K9
open PySem PySem.Spec PyProof.Rows L2
section
variable {P : Program} {w : World} {K : PySem.W.Frag} {mg : Str → Option Value} {base : Heap}
/-- what the law calls -/
structure LawC (P : Program) (w : World) (K : PySem.W.Frag) (mg : Str → Option Value) (base : Heap) : Prop where
  nums : GFn P w K mg base CX0 1 "_law_numbers" ["_law_script"] [] (spLNums K)
  prime : GFn P w K mg base CX0 2 "_law_prime" ["_law_numbers_here"] [] (spLPrime K)
  ground : GFn P w K mg base CX0 5 "_law_ground" ["_law_p"] [] (spLGround K)
  row : GFn P w K mg base CX0 2 "_law_row" ["_law_numbers_here", "_law_p", "_law_most"] [] (spLRow K)
  poly : GFn P w K mg base CX0 11 "_law_poly" ["_law_ground_here", "_law_row_here"] [] (spLPoly K)
  mix : GFn P w K mg base CX0 15 "_law_mixed" ["_law_which", "_law_f", "_law_g"] [] (spMix K)
  g1 : GDv P w K mg base 13 "common_divisor" (spGcd K)
  g2 : GDv P w K mg base 14 "common_multiple" (spLcm K)
  g3 : GDv P w K mg base 12 "cofactors" (spCof K)
  g4 : GDv P w K mg base 14 "are_coprime" (spCop K)
  gr : CGr P w K mg base []
  one : MFn P w K mg base CX0 8 (cG K) "one" ["self"] [] (spGC K fun _ => 1)
  eq : MFn P w K mg base CX0 3 (cP K) "__eq__" ["self", "other"] [] (spPEq K)
def spLaw (K : PySem.W.Frag) : Sp := fun vs H Q _ => ∃ (a : Addr) (xs : List Int), vs = [.ref a] ∧ SqL K H a (xs.map V.int) ∧ ∀ H', Q (.bl true) H'
def LawHolds : Prop := ∀ (g : Gd) (ma mb mc : List Int), RowI g ma → RowI g mb → RowI g mc → LawF (trim (ma.map (ofI g))) (trim (mb.map (ofI g))) (trim (mc.map (ofI g)))
abbrev nLaw : List Str := ["_law_script", "_law_numbers_here", "_law_p", "_law_ground_here", "_law_a", "_law_f", "_law_g", "_law_zero", "_law_found", "_law_d", "_law_u", "_law_v", "_law_which", "_law_both"]
theorem scLaw : FnScope nLaw ["_law_script"] (defScope sLaw) := ⟨rfl, rfl, rfl, by decide +kernel, rfl, by decide +kernel, by decide +kernel⟩
theorem ok_Law {f : Addr} {fd : FuncData} (T : Txt K mg) (N : NumP P w K mg base) (M : PolM P w K mg base) (C : LawC P w K mg base) (LF : LawHolds) (F : FnP K dLaw f fd) : FnOk P w K mg base CX0 16 f fd ["_law_script"] (spLaw K) := by
  refine okN F scLaw (fun vs H Q E h => ?_) (fun cdv A outer s H vs Q E hr h => ?_)
  · obtain ⟨a, xs, rfl, _⟩ := h
    rfl
  · obtain ⟨sc, xs, rfl, hx, q⟩ := h
    have hr11 : Room 11 _ := hr.mono (by decide)
    have hr13 : Room 13 _ := hr.mono (by decide)
    have hr14 : Room 14 _ := hr.mono (by decide)
    have hr4 : Room 4 _ := hr.mono (by decide)
    have hr1 : Room 1 _ := hr.mono (by decide)
    refine ⟨_,
      pss_cons (ps_set (i := 1) scLaw.nd rfl (Or.inl rfl) (pe_g (E := E0) C.nums (hr.mono (by decide)) pass0 (pa_cons (pv 0) pa_nil)))
      (pss_cons (ps_set (i := 2) scLaw.nd rfl (Or.inl rfl) (pe_g (E := E0) C.prime (hr.mono (by decide)) pass0 (pa_cons (pv 1) pa_nil)))
      (pss_cons (ps_set (i := 3) scLaw.nd rfl (Or.inl rfl) (pe_g (E := E0) C.ground (hr.mono (by decide)) pass0 (pa_cons (pv 2) pa_nil)))
      (pss_cons (ps_set (i := 4) scLaw.nd rfl (Or.inl rfl) (pe_g (E := E0) C.poly hr11 pass0 (pa_cons (pv 3) (pa_cons (pe_g (E := E0) C.row (hr.mono (by decide)) pass0 (pa_cons (pv 1) (pa_cons (pv 2) (pa_cons pe_int pa_nil)))) pa_nil))))
      (pss_cons (ps_set (i := 5) scLaw.nd rfl (Or.inl rfl) (pe_op (op_mB (E := E0) T.oP M.mul rfl hr11 pass0) (pv 4) (pe_g (E := E0) C.poly hr11 pass0 (pa_cons (pv 3) (pa_cons (pe_g (E := E0) C.row (hr.mono (by decide)) pass0 (pa_cons (pv 1) (pa_cons (pv 2) (pa_cons pe_int pa_nil)))) pa_nil)))))
      (pss_cons (ps_set (i := 6) scLaw.nd rfl (Or.inl rfl) (pe_op (op_mB (E := E0) T.oP M.mul rfl hr11 pass0) (pv 4) (pe_g (E := E0) C.poly hr11 pass0 (pa_cons (pv 3) (pa_cons (pe_g (E := E0) C.row (hr.mono (by decide)) pass0 (pa_cons (pv 1) (pa_cons (pv 2) (pa_cons pe_int pa_nil)))) pa_nil)))))
      (pss_cons (ps_set (i := 7) scLaw.nd rfl (Or.inl rfl) (pe_c (E := E0) M.mkp (hr.mono (by decide)) pass0 (pa_cons (pv 3) (pa_cons (pe_lst pa_nil) pa_nil))))
      (pss_cons (ps_set (i := 8) scLaw.nd rfl (Or.inl rfl) (pe_g (E := E0) C.g1 hr13 passL (pa_cons (pv 5) (pa_cons (pv 6) pa_nil))))
      (pss_cons (ps_asg (pe_g (E := E0) C.g3 (hr.mono (by decide)) passL (pa_cons (pv 5) (pa_cons (pv 6) pa_nil))) (pg_tup rfl (pgs_cons (pg_name (i := 9) scLaw.nd rfl (Or.inl rfl)) (pgs_cons (pg_name (i := 10) scLaw.nd rfl (Or.inl rfl)) (pgs_cons (pg_name (i := 11) scLaw.nd rfl (Or.inl rfl)) pgs_nil)))))
      (pss_cons (ps_if (PW.pt (pw_or (pt_cmpR (op_mNe (E := E0) T.oP C.eq hr4 pass0) (pv 9) (pv 8) (nomark _))
          (pw_or (pt_cmpR (op_mNe (E := E0) T.oP C.eq hr4 pass0) (pe_op (op_mB (E := E0) T.oP M.add rfl hr11 pass0) (pe_op (op_mB (E := E0) T.oP M.mul rfl hr11 pass0) (pv 10) (pv 5)) (pe_op (op_mB (E := E0) T.oP M.mul rfl hr11 pass0) (pv 11) (pv 6))) (pv 9) (nomark _))
          (pw_or1 (pt_cmpR (op_mNe (E := E0) T.oP C.eq hr4 pass0) (pe_g (E := E0) C.g1 hr13 passL (pa_cons (pv 6) (pa_cons (pv 5) pa_nil))) (pv 8) (nomark _)))))) (pss_one (ps_ret pe_bl)) pss_nil)
      (pss_cons (ps_for PassesOwn.never rfl (pi_range1 rfl T.b_range (pa_cons pe_int pa_nil)) (pg_name (i := 12) scLaw.nd rfl (Or.inl rfl))
          (pss_one (ps_if (pt_not (pt_val (pe_g (E := E0) C.mix hr pass0 (pa_cons (pv 12) (pa_cons (pv 5) (pa_cons (pe_c (E := E0) M.mkp (hr.mono (by decide)) pass0 (pa_cons (pe_c (E := E0) C.gr (hr.mono (by decide)) pass0 (pa_cons pe_int pa_nil)) (pa_cons (pe_lst (pa_cons pe_int pa_nil)) pa_nil))) pa_nil)))))) (pss_one (ps_ret pe_bl)) pss_nil)))
      (pss_cons (ps_if (PW.pt (pw_and (pt_val (pe_m0 (E := E0) (pv 5) T.oP.cl M.zer hr1 pass0)) (pw_and1 (pt_val (pe_m0 (E := E0) (pv 6) T.oP.cl M.zer hr1 pass0)))))
          (pss_one (ps_ret (pe_and (pe_cmpR (op_mEq (E := E0) C.eq (hr.mono (by decide)) pass0) (pv 8) (pv 7) (nomark _))
            (pe_and (pe_cmpR (op_mEq (E := E0) C.eq (hr.mono (by decide)) pass0) (pe_g (E := E0) C.g2 hr14 passL (pa_cons (pv 5) (pa_cons (pv 6) pa_nil))) (pv 7) (nomark _))
            (pe_one (pe_cmpR op_isBl (pe_g (E := E0) C.g4 hr14 passL (pa_cons (pv 5) (pa_cons (pv 6) pa_nil))) pe_bl (nomark _))))))) pss_nil)
      (pss_cons (ps_if (PW.pt (pw_or (pt_cmpR (op_nNe T N (hr.mono (by decide))) (pe_ix ix_tup (pe_fld (pv 8) rfl) (pe_un un_neg pe_int) (fun _ _ => rfl)) (pe_m0 (E := E0) (pv 3) T.oG.cl C.one (hr.mono (by decide)) pass0) (nomark _))
          (pw_or (pt_not (pt_val (pe_m0 (E := E0) (pe_op (op_mB (E := E0) T.oP M.mod rfl hr11 pass0) (pv 5) (pv 8)) T.oP.cl M.zer hr1 pass0)))
          (pw_or1 (pt_not (pt_val (pe_m0 (E := E0) (pe_op (op_mB (E := E0) T.oP M.mod rfl hr11 pass0) (pv 6) (pv 8)) T.oP.cl M.zer hr1 pass0))))))) (pss_one (ps_ret pe_bl)) pss_nil)
      (pss_cons (ps_if (PW.pt (pw_or (pt_val (pe_m0 (E := E0) (pv 5) T.oP.cl M.zer hr1 pass0)) (pw_or1 (pt_val (pe_m0 (E := E0) (pv 6) T.oP.cl M.zer hr1 pass0)))))
          (pss_one (ps_ret (pe_and (pe_cmpR (op_mEq (E := E0) C.eq (hr.mono (by decide)) pass0) (pe_g (E := E0) C.g2 hr14 passL (pa_cons (pv 5) (pa_cons (pv 6) pa_nil))) (pv 7) (nomark _))
            (pe_one (pe_cmpR (op_mEq (E := E0) C.eq (hr.mono (by decide)) pass0) (pv 8) (pe_m0 (E := E0) (pe_op (op_mB (E := E0) T.oP M.add rfl hr11 pass0) (pv 5) (pv 6)) T.oP.cl M.mon (hr.mono (by decide)) pass0) (nomark _)))))) pss_nil)
      (pss_cons (ps_if (PW.pt (pw_or (pt_not (pt_val (pe_m0 (E := E0) (pe_op (op_mB (E := E0) T.oP M.mod rfl hr11 pass0) (pv 8) (pv 4)) T.oP.cl M.zer hr1 pass0)))
          (pw_or1 (pt_cmpR op_notBl (pe_g (E := E0) C.g4 hr14 passL (pa_cons (pe_op (op_mB (E := E0) T.oP M.fdiv rfl hr11 pass0) (pv 5) (pv 8)) (pa_cons (pe_op (op_mB (E := E0) T.oP M.fdiv rfl hr11 pass0) (pv 6) (pv 8)) pa_nil))) pe_bl (nomark _))))) (pss_one (ps_ret pe_bl)) pss_nil)
      (pss_cons (ps_if (pt_cmpR op_ne (pe_g (E := E0) C.g4 hr14 passL (pa_cons (pv 5) (pa_cons (pv 6) pa_nil))) (pe_cmpR op_eq (pe_m0 (E := E0) (pv 8) T.oP.cl M.deg hr1 pass0) pe_int (nomark _)) (nomark _)) (pss_one (ps_ret pe_bl)) pss_nil)
      (pss_cons (ps_set (i := 13) scLaw.nd rfl (Or.inl rfl) (pe_g (E := E0) C.g2 hr14 passL (pa_cons (pv 5) (pa_cons (pv 6) pa_nil))))
      (pss_one (ps_ret (pe_cmpR (op_mEq (E := E0) C.eq (hr.mono (by decide)) pass0) (pe_op (op_mB (E := E0) T.oP M.mul rfl hr11 pass0) (pv 13) (pv 8)) (pe_m0 (E := E0) (pe_op (op_mB (E := E0) T.oP M.mul rfl hr11 pass0) (pv 5) (pv 6)) T.oP.cl M.mon (hr.mono (by decide)) pass0) (nomark _)))))))))))))))))))), ?_⟩
    -- numbers, prime, ground
    refine ⟨_, rfl, sc, xs, rfl, hx, fun H1 p ns s1 hp0 hp1 => ?_⟩
    refine ⟨_, rfl, p, ns, rfl, hp1, fun H2 ns2 g ng sx2 hp2 => ?_⟩
    refine ⟨_, rfl, g, rfl, fun H3 G s3 hG3 => ?_⟩
    have hp3 := s3 _ _ hp2
    -- a
    refine ⟨_, rfl, _, rfl, _, rfl, p, g, ns2, rfl, hp3, fun H4 r1 ns4 ma sx4 hp4 hr4' ria => ?_⟩
    have hG4 := hG3.x sx4 hp3
    refine ⟨G, r1, g, ma, rfl, hG4, hr4', by have := ria.1; omega, fun H5 Aa s5 pA => ?_⟩
    have hG5 := hG4.same s5
    have hp5 := s5 _ _ hp4
    -- f
    refine ⟨_, rfl, _, rfl, _, rfl, _, rfl, p, g, ns4, rfl, hp5, fun H6 r2 ns6 mb sx6 hp6 hr6 rib => ?_⟩
    have hG6 := hG5.x sx6 hp5
    have pA6 := pA.x sx6 hp5
    refine ⟨G, r2, g, mb, rfl, hG6, hr6, by have := rib.1; omega, fun H7 Ba s7 pB => ?_⟩
    have L1 := LF g ma mb mb ria rib rib
    have la : (trim (ma.map (ofI g))).length ≤ 3 := Nat.le_trans (trim_len _) (by rw [List.length_map]; exact ria.1)
    have lb : (trim (mb.map (ofI g))).length ≤ 3 := Nat.le_trans (trim_len _) (by rw [List.length_map]; exact rib.1)
    refine ob2 (pA6.same s7) pB L1.mb (by omega) (by omega) fun H8 Fa s8 pF => ?_
    have pF8 : PAt K H8 Fa g (pmul (trim (ma.map (ofI g))) (trim (mb.map (ofI g)))) := pF
    have pA8 := (pA6.same s7).same s8
    have hG8 := (hG6.same s7).same s8
    have hp8 := s8 _ _ (s7 _ _ hp6)
    -- g
    refine ⟨_, rfl, _, rfl, _, rfl, _, rfl, p, g, ns6, rfl, hp8, fun H9 r3 ns9 mc sx9 hp9 hr9 ric => ?_⟩
    have hG9 := hG8.x sx9 hp8
    have pA9 := pA8.x sx9 hp8
    have pF9 := pF8.x sx9 hp8
    refine ⟨G, r3, g, mc, rfl, hG9, hr9, by have := ric.1; omega, fun H10 Ca s10 pC => ?_⟩
    have L := LF g ma mb mc ria rib ric
    have lc : (trim (mc.map (ofI g))).length ≤ 3 := Nat.le_trans (trim_len _) (by rw [List.length_map]; exact ric.1)
    have ta : Tr (trim (ma.map (ofI g))) := tr_trim _
    generalize trim (ma.map (ofI g)) = a at *
    generalize trim (mb.map (ofI g)) = b at *
    generalize trim (mc.map (ofI g)) = c at *
    refine ob2 (pA9.same s10) pC L.mc (by omega) (by omega) fun H11 Ga s11 pH => ?_
    have pH11 : PAt K H11 Ga g (pmul a c) := pH
    have pA11 := (pA9.same s10).same s11
    have pF11 := (pF9.same s10).same s11
    have hG11 := (hG9.same s10).same s11
    have lf : (pmul a b).length ≤ 5 := by have := pmul_len a b; omega
    have lh : (pmul a c).length ≤ 5 := by have := pmul_len a c; omega
    have tf : Tr (pmul a b) := tr_trim _
    have th : Tr (pmul a c) := tr_trim _
    have hcl := cdiv_len (pmul a b) (pmul a c)
    obtain ⟨mb', mc', e1, e2, co, cd, mu, mv, ad, lu, lv, bz, sy, hz, nz, one, ane, da, rest, hlc, ll⟩ := L
    have lcm_le : (cmul (pmul a b) (pmul a c)).length ≤ 30 := by
      unfold cmul
      split
      · exact Nat.zero_le _
      · have h1 := monic_len (pdiv (pmul (pmul a b) (pmul a c)) (cdiv (pmul a b) (pmul a c)))
        have h2 := pdiv_len (pmul (pmul a b) (pmul a c)) (cdiv (pmul a b) (pmul a c))
        have h3 := pmul_len (pmul a b) (pmul a c)
        omega
    have td : Tr (cdiv (pmul a b) (pmul a c)) := by
      unfold cdiv monic
      split
      · exact tr_nil
      · exact tr_trim _
    generalize pmul a b = f at *
    generalize pmul a c = h at *
    -- zero
    refine ⟨_, rfl, Nat.zero_le _, fun p1 hp1' => ?_⟩
    have s12 := same_upd (o := .lst []) hp1'
    intro Za dx1 nx1 nd1 ne1
    have sm1 := mk_pre (K := K) nx1 nd1
    refine ⟨Za, dx1, G, p1, g, [], [], rfl, upd_same, (hG11.same s12).same sm1, .inl (sm1 _ _ upd_same), .nil, Nat.zero_le _, fun H13 R1 tr1 hx1 k1 => ⟨rfl, ?_⟩⟩
    have s13 : Same _ H13 := fun b o e => k1 b o (ne_of_none e nx1) (sm1 _ _ e)
    have pZ13 : PAt K H13 Za g [] := ⟨dx1, G, R1, hx1, (hG11.same s12).same s13, tr1⟩
    have s113 := s12.trans s13
    -- found
    refine ⟨_, rfl, _, rfl, obL (pF11.same s113) (pH11.same s113) tf th e1 (by omega) (by omega) fun H14 vO s14 rO => ?_⟩
    obtain ⟨Oa, rfl, pO⟩ := rO
    have pO14 : PAt K H14 Oa g (cdiv f h) := pO
    have s114 := s113.trans s14
    -- cofactors
    refine ⟨_, rfl, _, rfl, obL (pF11.same s114) (pH11.same s114) tf th co (by omega) (by omega) fun H15 vC s15 rC => ?_⟩
    obtain ⟨pc, Da, Ua, Va, rfl, hpc, pD, pU, pV⟩ := rC
    have s115 := s114.trans s15
    rw [cd] at pD
    have L := Env1.mk (hG11.same s115) (pA11.same s115) (pF11.same s115) (pH11.same s115) (pZ13.same (s14.trans s15)) (pO14.same s15) pD pU pV
    generalize (cofs f h).2.1 = u at *
    generalize (cofs f h).2.2 = v at *
    clear pA pA6 pF pF8 pA8 pA9 pF9 pH pH11 pA11 pF11 pO pO14 pD pU pV
    refine ⟨pc, _, rfl, SqT.of hpc, rfl, _, _, rfl, _, _, rfl, _, _, rfl, rfl, ?_⟩
    -- the first check
    refine ⟨_, rfl, _, rfl, obN L.pd L.po fun H16 s16 => ⟨_, rfl, if_f rfl ?_⟩⟩
    replace L := L.same s16
    refine ⟨_, rfl, _, rfl, ob2 L.pu L.pf mu (by omega) (by omega) fun H17 q1 s17 pq1 => ?_⟩
    have pq1' : PAt K H17 q1 g (pmul u f) := pq1
    replace L := L.same s17
    have lm1 := pmul_len u f
    have lm2 := pmul_len v h
    refine ⟨_, rfl, _, rfl, ob2 L.pv L.ph mv (by omega) (by omega) fun H18 q2 s18 pq2 => ?_⟩
    have pq2' : PAt K H18 q2 g (pmul v h) := pq2
    replace L := L.same s18
    refine ob2 (pq1'.same s18) pq2' ad (by omega) (by omega) fun H19 q3 s19 pq3 => ?_
    have pq3' : PAt K H19 q3 g (cdiv f h) := bz ▸ pq3
    replace L := L.same s19
    refine ⟨_, rfl, obN pq3' L.pd fun H20 s20 => ⟨_, rfl, if_f rfl ?_⟩⟩
    replace L := L.same s20
    refine ⟨_, rfl, _, rfl, obL L.ph L.pf th tf e2 (by omega) (by omega) fun H21 vO s21 rO => ?_⟩
    obtain ⟨q4, rfl, pq4⟩ := rO
    have pq4' : PAt K H21 q4 g (cdiv f h) := sy ▸ pq4
    replace L := L.same s21
    refine ⟨_, rfl, obN pq4' L.po fun H22 s22 => ⟨_, rfl, if_f rfl ?_⟩⟩
    replace L := L.same s22
    -- unlike grounds
    refine ⟨_, rfl, by decide, by decide, ?_⟩
    refine for_range (lo := 0) (n := 4) (fun i σ H' => ∃ v12, σ = [some (.ref sc), some (.ref p), some (.int g.p), some (.ref G), some (.ref Aa), some (.ref Fa), some (.ref Ga), some (.ref Za), some (.ref Oa), some (.ref Da), some (.ref Ua), some (.ref Va), v12, none] ∧ Same H22 H') ⟨none, rfl, Same.refl H22⟩ ?_ ?_
    · rintro i σ H23 hi ⟨v12, rfl, s23⟩
      have L := L.same s23
      refine ⟨_, rfl, _, rfl, ?_⟩
      intro x7 dx7 nx7 nd7 ne7
      refine ⟨x7, dx7, .p7, rfl, upd_same, rfl, by show 1 ≤ sizeLine; decide, fun l7 hl7 => ?_⟩
      have t1 := mk_gr (K := K) (g := .p7) nx7 nd7
      have hG7 : GAt K (upd (upd (upd H23 dx7 (.own x7)) x7 (.ins (cG K) dx7 [])) x7 (.ins (cG K) dx7 (gf Gd.p7.p))) x7 .p7 := ⟨dx7, upd_same⟩
      have t2 := same_upd (o := .lst [.int 1]) hl7
      intro x8 dx8 nx8 nd8 ne8
      have t3 := mk_pre (K := K) nx8 nd8
      refine ⟨x8, dx8, x7, l7, .p7, [.int 1], [ofI .p7 1], rfl, upd_same, (hG7.same t2).same t3, .inl (t3 _ _ upd_same), .cons (.inl ⟨1, rfl, rfl⟩) .nil, by show 1 ≤ 1000; decide, fun H24 R8 tr8 hx8 k8 => ⟨rfl, ?_⟩⟩
      have t4 : Same _ H24 := fun b o e => k8 b o (ne_of_none e nx8) (t3 _ _ e)
      have s24 : Same H23 H24 := (Same.trans t1 t2).trans t4
      exact ⟨i, Fa, x8, g, f, _, by rw [Int.zero_add] <;> rfl, hi, L.pf.same s24, ⟨dx8, x7, R8, hx8, (hG7.same t2).same t4, tr8⟩, ng, _, rfl, if_f rfl ⟨_, rfl, s23.trans s24⟩⟩
    rintro σ H23 ⟨v12, rfl, s23⟩
    replace L := L.same s23
    clear s1 s3 s5 s7 s8 s10 s11 s12 s13 s113 s14 s114 s15 s115 s16 s17 s18 s19 s20 s21 s22 s23
    refine zz_and rfl rfl L.pf L.ph ?_
    by_cases hb : f = [] ∧ h = []
    · refine if_t (by rw [decide_eq_true hb.1, decide_eq_true hb.2] <;> rfl) ?_
      have ez := hz hb.1 hb.2
      rw [ez] at L
      refine ⟨_, rfl, _, rfl, obE L.po L.pz fun H24 s24 => ⟨true, rfl, iteT ?_⟩⟩
      replace L := L.same s24
      refine ⟨_, rfl, _, rfl, obL L.pf L.ph tf th hlc (by omega) (by omega) fun H25 v5 s25 r5 => ?_⟩
      obtain ⟨q5, rfl, pq5⟩ := r5
      have pq5' : PAt K H25 q5 g (cmul f h) := pq5
      have ec : cmul f h = [] := by unfold cmul; rw [if_pos (.inl hb.1)]
      rw [ec] at pq5'
      replace L := L.same s25
      refine ⟨_, rfl, obE pq5' L.pz fun H26 s26 => ⟨true, rfl, iteT ?_⟩⟩
      replace L := L.same s26
      refine ⟨_, rfl, _, rfl, obL L.pf L.ph tf th e1 (by omega) (by omega) fun H27 v5 s27 r5 => ?_⟩
      have r5' : v5 = .bl (decide ((cdiv f h).length = 1)) := r5
      rw [ez] at r5'
      subst r5'
      exact ⟨_, _, rfl, rfl, q _⟩
    refine if_f (by
      rw [Bool.and_eq_false_iff, decide_eq_false_iff_not, decide_eq_false_iff_not]
      by_cases e : f = []
      · exact .inr fun e2 => hb ⟨e, e2⟩
      · exact .inl e) ?_
    obtain ⟨dne, dl, odf, edf, odh, edh⟩ := nz hb
    have dl0 : lst (cdiv f h) ≠ 0 := by rw [dl]; exact Fld.one_ne
    have ld : (cdiv f h).length ≤ 5 := by omega
    -- found.row[-1], the rests
    obtain ⟨dO, GO, RO, hO, hgO, us, hRO, hus⟩ := id L.po
    obtain ⟨dg, hG⟩ := id L.hG
    have hly := lst_get dne
    obtain ⟨vl, ev, nv⟩ := pr_get hus hly
    rw [← pr_len hus] at ev
    rw [dl] at nv
    refine ⟨_, rfl, Oa, cP K, dO, _, _, rfl, hO, T.oP.cl, T.nPr, pf_r _ _, _, rfl, RO, us, _, vl, rfl, rfl, SqT.of hRO, atI_m1 ev, ?_⟩
    refine ⟨_, rfl, G, dg, _, rfl, hG, gf_no _ (by decide +kernel), G, g, rfl, ⟨dg, hG⟩, fun H24 p1 s24 n1 => ?_⟩
    refine ⟨g, 1, nv.same s24, ⟨p1, rfl, n1⟩, fun H25 s25 => ⟨_, rfl, if_f rfl ?_⟩⟩
    replace L := (L.same s24).same s25
    refine ⟨_, rfl, _, rfl, ob2 L.pf L.po ⟨dne, dl0, odf⟩ (by omega) (by omega) fun H26 q5 s26 pq5 => ?_⟩
    have pq5' : PAt K H26 q5 g [] := edf ▸ pq5
    refine obZ pq5' ⟨_, rfl, if_f (by simp) ?_⟩
    replace L := L.same s26
    refine ⟨_, rfl, _, rfl, ob2 L.ph L.po ⟨dne, dl0, odh⟩ (by omega) (by omega) fun H27 q6 s27 pq6 => ?_⟩
    have pq6' : PAt K H27 q6 g [] := edh ▸ pq6
    refine obZ pq6' ⟨_, rfl, if_f (by simp) ?_⟩
    replace L := L.same s27
    -- one is zero
    refine zz_or rfl rfl L.pf L.ph ?_
    by_cases ho : f = [] ∨ h = []
    · obtain ⟨oad, omn, emn⟩ := one ho hb
      refine if_t (by
        rcases ho with e | e
        · rw [decide_eq_true e, Bool.true_or]
        · rw [decide_eq_true e, Bool.or_true]) ?_
      refine ⟨_, rfl, _, rfl, obL L.pf L.ph tf th hlc (by omega) (by omega) fun H28 v5 s28 r5 => ?_⟩
      obtain ⟨q7, rfl, pq7⟩ := r5
      have pq7' : PAt K H28 q7 g (cmul f h) := pq7
      have ec : cmul f h = [] := by unfold cmul; rw [if_pos ho]
      rw [ec] at pq7'
      replace L := L.same s28
      refine ⟨_, rfl, obE pq7' L.pz fun H29 s29 => ⟨true, rfl, iteT ?_⟩⟩
      replace L := L.same s29
      refine ⟨_, rfl, _, rfl, _, rfl, ob2 L.pf L.ph oad (by omega) (by omega) fun H30 q8 s30 pq8 => ?_⟩
      have pq8' : PAt K H30 q8 g (padd f h) := pq8
      have lpa : (padd f h).length ≤ 5 := Nat.le_trans (trim_len _) (by rw [addRow_len]; omega)
      refine obM pq8' (tr_trim _) omn (by omega) fun H31 q9 s31 pq9 => ?_
      have pq9' : PAt K H31 q9 g (cdiv f h) := emn ▸ pq9
      exact obE (L.po.same (s30.trans s31)) pq9' fun H32 _ => q _
    refine if_f (by
      rw [Bool.or_eq_false_iff, decide_eq_false_iff_not, decide_eq_false_iff_not]
      exact ⟨fun e => ho (.inl e), fun e => ho (.inr e)⟩) ?_
    have hf : f ≠ [] := fun e => ho (.inl e)
    have hh : h ≠ [] := fun e => ho (.inr e)
    have ane' := ane hf hh
    obtain ⟨oda, eda⟩ := da hf hh
    obtain ⟨orest, erest⟩ := rest hf hh
    obtain ⟨ol1, ol2, ol3, el⟩ := ll hf hh
    refine ⟨_, rfl, _, rfl, ob2 L.po L.pa ⟨ane', tr_lst ta ane', oda⟩ (by omega) (by omega) fun H28 q7 s28 pq7 => ?_⟩
    have pq7' : PAt K H28 q7 g [] := eda ▸ pq7
    refine obZ pq7' ⟨_, rfl, if_f (by simp) ?_⟩
    replace L := L.same s28
    have ldf := pdiv_len f (cdiv f h)
    have ldh := pdiv_len h (cdiv f h)
    refine ⟨_, rfl, _, rfl, ob2 L.pf L.po ⟨dne, dl0, odf⟩ (by omega) (by omega) fun H29 q8 s29 pq8 => ?_⟩
    have pq8' : PAt K H29 q8 g (pdiv f (cdiv f h)) := pq8
    replace L := L.same s29
    refine ⟨_, rfl, _, rfl, ob2 L.ph L.po ⟨dne, dl0, odh⟩ (by omega) (by omega) fun H30 q9 s30 pq9 => ?_⟩
    have pq9' : PAt K H30 q9 g (pdiv h (cdiv f h)) := pq9
    replace L := L.same s30
    refine obL (pq8'.same s30) pq9' (tr_trim _) (tr_trim _) orest (by omega) (by omega) fun H31 v5 s31 r5 => ?_
    have r5' : v5 = .bl (decide ((cdiv (pdiv f (cdiv f h)) (pdiv h (cdiv f h))).length = 1)) := r5
    rw [decide_eq_true erest] at r5'
    subst r5'
    replace L := L.same s31
    refine ⟨_, _, rfl, rfl, _, rfl, if_f rfl ?_⟩
    -- the degree
    refine ⟨_, rfl, _, rfl, obL L.pf L.ph tf th e1 (by omega) (by omega) fun H32 v5 s32 r5 => ?_⟩
    have r5' : v5 = .bl (decide ((cdiv f h).length = 1)) := r5
    subst r5'
    replace L := L.same s32
    refine ⟨_, rfl, obD L.po ⟨rfl, ?_⟩⟩
    have edeg : decide (V.int (((cdiv f h).length : Int) - 1) = V.int 0) = decide ((cdiv f h).length = 1) := by
      rw [Bool.eq_iff_iff]
      simp
      omega
    rw [edeg]
    refine ⟨rfl, _, rfl, if_f (by simp) ?_⟩
    -- both
    refine ⟨_, rfl, _, rfl, obL L.pf L.ph tf th hlc (by omega) (by omega) fun H33 v5 s33 r5 => ?_⟩
    obtain ⟨q10, rfl, pq10⟩ := r5
    have pq10' : PAt K H33 q10 g (cmul f h) := pq10
    replace L := L.same s33
    have lm3 := pmul_len (cmul f h) (cdiv f h)
    have lm4 := pmul_len f h
    refine ⟨_, rfl, _, rfl, ob2 pq10' L.po ol1 (by omega) (by omega) fun H34 q11 s34 pq11 => ?_⟩
    have pq11' : PAt K H34 q11 g (monic (pmul f h)) := el ▸ pq11
    replace L := L.same s34
    refine ⟨_, rfl, _, rfl, ob2 L.pf L.ph ol2 (by omega) (by omega) fun H35 q12 s35 pq12 => ?_⟩
    have pq12' : PAt K H35 q12 g (pmul f h) := pq12
    refine obM pq12' (tr_trim _) ol3 (by omega) fun H36 q13 s36 pq13 => ?_
    exact obE (pq11'.same (s35.trans s36)) pq13 fun H37 _ => q _
end
end K9

namespace K9
open PySem PySem.Spec PyProof.Rows L2
section
variable {P : Program} {w : World} {K : PySem.W.Frag} {mg : Str → Option Value} {base : Heap} {CX : CXT} {k : Nat} {x m : Str} {C f : Addr} {fd : FuncData} {ps : List Str} {sp : Sp} {name qual : Str} {params : Arguments} {body : List Stmt} {scope : Scope} {dvs : List V} {kws : List (Str × V)}
theorem toG {ds : List V} (F : FunD K name qual params body scope dvs kws f fd) (ok : FnOk P w K mg base CX k f fd ps sp) (b : ∃ d, Vals ds d ∧ Binds K fd ps d) (hm : mg x = some (.ref f)) : GFn P w K mg base CX k x ps ds sp :=
  let ⟨d, v, b⟩ := b; ⟨f, ⟨fd, d, ok, v, b⟩, hm, F.kp⟩
theorem toM {ds : List V} (ok : FnOk P w K mg base CX k f fd ps sp) (b : ∃ d, Vals ds d ∧ Binds K fd ps d) (hm : Meth K C m f) : MFn P w K mg base CX k C m ps ds sp :=
  let ⟨d, v, b⟩ := b; ⟨f, ⟨fd, d, ok, v, b⟩, hm⟩
theorem toC {ds : List V} (ok : FnOk P w K mg base CX k f fd ps sp) (b : ∃ d, Vals ds d ∧ Binds K fd ps d) (hk : Mk K C f) (hm : mg x = some (.ref C)) : CFn P w K mg base CX k x C ps ds sp :=
  let ⟨d, v, b⟩ := b; ⟨f, ⟨fd, d, ok, v, b⟩, hk, hm⟩
theorem b0 (b : Binds K fd ps []) : ∃ d, Vals ([] : List V) d ∧ Binds K fd ps d := ⟨[], .nil, b⟩
end
section
variable {P : Program} {w : World} {K : PySem.W.Frag} {mg : Str → Option Value} {base : Heap} {h : Heap}
theorem eIsInt (X : K.In h) (G : h.Ns mainGlobals mg) (c : SaysK K) (T : Txt K mg) : GFn P w K mg base CX0 1 "is_integer" ["value"] [] (spIsInt K) := by
  obtain ⟨fd, F⟩ := c.d.def_ 0 (d := dIsInt) rfl
  exact toG F (ok_IsInt T F) (b0 (FunD.bindsN (ps := ["value"]) F fun _ _ _ _ _ _ us hl => match us, hl with | [_], _ => rfl)) (He.glo_ok X G (c.d.fact 0 (f := .glo "is_integer") rfl))
theorem eRInit (X : K.In h) (G : h.Ns mainGlobals mg) (c : SaysK K) (T : Txt K mg) : CFn P w K mg base CX0 1 "Ratio" (cQ K) ["self", "n", "d"] [] (spRInit K) := by
  obtain ⟨fd, F⟩ := c.d.def_ 1 (d := dRInit) rfl
  exact toC (ok_RInit T F) (FunD.binds1 (ps := ["self", "n", "d"]) F 3 1 (by intro z; cases z) (by rfl) fun _ _ _ _ _ _ _ us its hl hi => match us, its, hl, hi with | [_, _, _], [_], _, _ => ⟨_, rfl, rfl⟩) (He.mkr_ok (c.d.fact 24 (f := .mkr "Ratio") rfl)) (He.glo_ok X G (c.d.fact 22 (f := .glo "Ratio") rfl))
theorem eREq (X : K.In h) (G : h.Ns mainGlobals mg) (c : SaysK K) (T : Txt K mg) : MFn P w K mg base CX0 1 (cQ K) "__eq__" ["self", "other"] [] (spEq (eqQ K)) := by
  obtain ⟨fd, F⟩ := c.d.def_ 2 (d := dREq) rfl
  exact toM (ok_REq T F) (b0 (FunD.bindsN (ps := ["self", "other"]) F fun _ _ _ _ _ _ us hl => match us, hl with | [_, _], _ => rfl)) (He.meth_ok (c.d.fact 41 (f := .meth "Ratio" "__eq__") rfl))
theorem eRAdd (X : K.In h) (G : h.Ns mainGlobals mg) (c : SaysK K) (T : Txt K mg) : MFn P w K mg base CX0 3 (cQ K) "__add__" ["self", "other"] [] (spQ2 K (· + ·)) := by
  obtain ⟨fd, F⟩ := c.d.def_ 3 (d := dRAdd) rfl
  exact toM (ok_RAdd T F (eRInit (P := P) (w := w) (base := base) X G c T)) (b0 (FunD.bindsN (ps := ["self", "other"]) F fun _ _ _ _ _ _ us hl => match us, hl with | [_, _], _ => rfl)) (He.meth_ok (c.d.fact 42 (f := .meth "Ratio" "__add__") rfl))
theorem eRSub (X : K.In h) (G : h.Ns mainGlobals mg) (c : SaysK K) (T : Txt K mg) : MFn P w K mg base CX0 3 (cQ K) "__sub__" ["self", "other"] [] (spQ2 K (· - ·)) := by
  obtain ⟨fd, F⟩ := c.d.def_ 4 (d := dRSub) rfl
  exact toM (ok_RSub T F (eRInit (P := P) (w := w) (base := base) X G c T)) (b0 (FunD.bindsN (ps := ["self", "other"]) F fun _ _ _ _ _ _ us hl => match us, hl with | [_, _], _ => rfl)) (He.meth_ok (c.d.fact 43 (f := .meth "Ratio" "__sub__") rfl))
theorem eRMul (X : K.In h) (G : h.Ns mainGlobals mg) (c : SaysK K) (T : Txt K mg) : MFn P w K mg base CX0 3 (cQ K) "__mul__" ["self", "other"] [] (spQ2 K (· * ·)) := by
  obtain ⟨fd, F⟩ := c.d.def_ 5 (d := dRMul) rfl
  exact toM (ok_RMul T F (eRInit (P := P) (w := w) (base := base) X G c T)) (b0 (FunD.bindsN (ps := ["self", "other"]) F fun _ _ _ _ _ _ us hl => match us, hl with | [_, _], _ => rfl)) (He.meth_ok (c.d.fact 44 (f := .meth "Ratio" "__mul__") rfl))
theorem eRNeg (X : K.In h) (G : h.Ns mainGlobals mg) (c : SaysK K) (T : Txt K mg) : MFn P w K mg base CX0 3 (cQ K) "__neg__" ["self"] [] (spQ1 K (fun _ => True) (- ·)) := by
  obtain ⟨fd, F⟩ := c.d.def_ 6 (d := dRNeg) rfl
  exact toM (ok_RNeg T F (eRInit (P := P) (w := w) (base := base) X G c T)) (b0 (FunD.bindsN (ps := ["self"]) F fun _ _ _ _ _ _ us hl => match us, hl with | [_], _ => rfl)) (He.meth_ok (c.d.fact 45 (f := .meth "Ratio" "__neg__") rfl))
theorem eRZer (X : K.In h) (G : h.Ns mainGlobals mg) (c : SaysK K) (T : Txt K mg) : MFn P w K mg base CX0 1 (cQ K) "is_zero" ["self"] [] (spQZ K) := by
  obtain ⟨fd, F⟩ := c.d.def_ 7 (d := dRZer) rfl
  exact toM (ok_RZer T F) (b0 (FunD.bindsN (ps := ["self"]) F fun _ _ _ _ _ _ us hl => match us, hl with | [_], _ => rfl)) (He.meth_ok (c.d.fact 46 (f := .meth "Ratio" "is_zero") rfl))
theorem eRInv (X : K.In h) (G : h.Ns mainGlobals mg) (c : SaysK K) (T : Txt K mg) : MFn P w K mg base CX0 3 (cQ K) "inverse" ["self"] [] (spQ1 K (fun r => r ≠ 0) (·⁻¹)) := by
  obtain ⟨fd, F⟩ := c.d.def_ 8 (d := dRInv) rfl
  exact toM (ok_RInv T F (eRInit (P := P) (w := w) (base := base) X G c T)) (b0 (FunD.bindsN (ps := ["self"]) F fun _ _ _ _ _ _ us hl => match us, hl with | [_], _ => rfl)) (He.meth_ok (c.d.fact 47 (f := .meth "Ratio" "inverse") rfl))
theorem eIsPr (X : K.In h) (G : h.Ns mainGlobals mg) (c : SaysK K) (T : Txt K mg) : GFn P w K mg base CX0 2 "is_small_prime" ["value"] [] (spIsPr K) := by
  obtain ⟨fd, F⟩ := c.d.def_ 9 (d := dIsPr) rfl
  exact toG F (ok_IsPr T F (eIsInt (P := P) (w := w) (base := base) X G c T)) (b0 (FunD.bindsN (ps := ["value"]) F fun _ _ _ _ _ _ us hl => match us, hl with | [_], _ => rfl)) (He.glo_ok X G (c.d.fact 1 (f := .glo "is_small_prime") rfl))
theorem eZInit (X : K.In h) (G : h.Ns mainGlobals mg) (c : SaysK K) (T : Txt K mg) : CFn P w K mg base CX0 3 "Residue" (cZ K) ["self", "p", "n"] [] (spZInit K) := by
  obtain ⟨fd, F⟩ := c.d.def_ 10 (d := dZInit) rfl
  exact toC (ok_ZInit T F (eIsInt (P := P) (w := w) (base := base) X G c T) (eIsPr (P := P) (w := w) (base := base) X G c T)) (b0 (FunD.bindsN (ps := ["self", "p", "n"]) F fun _ _ _ _ _ _ us hl => match us, hl with | [_, _, _], _ => rfl)) (He.mkr_ok (c.d.fact 29 (f := .mkr "Residue") rfl)) (He.glo_ok X G (c.d.fact 27 (f := .glo "Residue") rfl))
theorem eZEq (X : K.In h) (G : h.Ns mainGlobals mg) (c : SaysK K) (T : Txt K mg) : MFn P w K mg base CX0 1 (cZ K) "__eq__" ["self", "other"] [] (spEq (eqZ K)) := by
  obtain ⟨fd, F⟩ := c.d.def_ 11 (d := dZEq) rfl
  exact toM (ok_ZEq T F) (b0 (FunD.bindsN (ps := ["self", "other"]) F fun _ _ _ _ _ _ us hl => match us, hl with | [_, _], _ => rfl)) (He.meth_ok (c.d.fact 48 (f := .meth "Residue" "__eq__") rfl))
theorem eZAdd (X : K.In h) (G : h.Ns mainGlobals mg) (c : SaysK K) (T : Txt K mg) : MFn P w K mg base CX0 5 (cZ K) "__add__" ["self", "other"] [] (spZ2 K (· + ·)) := by
  obtain ⟨fd, F⟩ := c.d.def_ 12 (d := dZAdd) rfl
  exact toM (ok_ZAdd T F (eZInit (P := P) (w := w) (base := base) X G c T)) (b0 (FunD.bindsN (ps := ["self", "other"]) F fun _ _ _ _ _ _ us hl => match us, hl with | [_, _], _ => rfl)) (He.meth_ok (c.d.fact 49 (f := .meth "Residue" "__add__") rfl))
theorem eZSub (X : K.In h) (G : h.Ns mainGlobals mg) (c : SaysK K) (T : Txt K mg) : MFn P w K mg base CX0 5 (cZ K) "__sub__" ["self", "other"] [] (spZ2 K (· - ·)) := by
  obtain ⟨fd, F⟩ := c.d.def_ 13 (d := dZSub) rfl
  exact toM (ok_ZSub T F (eZInit (P := P) (w := w) (base := base) X G c T)) (b0 (FunD.bindsN (ps := ["self", "other"]) F fun _ _ _ _ _ _ us hl => match us, hl with | [_, _], _ => rfl)) (He.meth_ok (c.d.fact 50 (f := .meth "Residue" "__sub__") rfl))
theorem eZMul (X : K.In h) (G : h.Ns mainGlobals mg) (c : SaysK K) (T : Txt K mg) : MFn P w K mg base CX0 5 (cZ K) "__mul__" ["self", "other"] [] (spZ2 K (· * ·)) := by
  obtain ⟨fd, F⟩ := c.d.def_ 14 (d := dZMul) rfl
  exact toM (ok_ZMul T F (eZInit (P := P) (w := w) (base := base) X G c T)) (b0 (FunD.bindsN (ps := ["self", "other"]) F fun _ _ _ _ _ _ us hl => match us, hl with | [_, _], _ => rfl)) (He.meth_ok (c.d.fact 51 (f := .meth "Residue" "__mul__") rfl))
theorem eZNeg (X : K.In h) (G : h.Ns mainGlobals mg) (c : SaysK K) (T : Txt K mg) : MFn P w K mg base CX0 5 (cZ K) "__neg__" ["self"] [] (spZ1 K (fun _ => True) (fun _ n => -n)) := by
  obtain ⟨fd, F⟩ := c.d.def_ 15 (d := dZNeg) rfl
  exact toM (ok_ZNeg T F (eZInit (P := P) (w := w) (base := base) X G c T)) (b0 (FunD.bindsN (ps := ["self"]) F fun _ _ _ _ _ _ us hl => match us, hl with | [_], _ => rfl)) (He.meth_ok (c.d.fact 52 (f := .meth "Residue" "__neg__") rfl))
theorem eZZer (X : K.In h) (G : h.Ns mainGlobals mg) (c : SaysK K) (T : Txt K mg) : MFn P w K mg base CX0 1 (cZ K) "is_zero" ["self"] [] (spZZ K) := by
  obtain ⟨fd, F⟩ := c.d.def_ 16 (d := dZZer) rfl
  exact toM (ok_ZZer T F) (b0 (FunD.bindsN (ps := ["self"]) F fun _ _ _ _ _ _ us hl => match us, hl with | [_], _ => rfl)) (He.meth_ok (c.d.fact 53 (f := .meth "Residue" "is_zero") rfl))
theorem eZInv (X : K.In h) (G : h.Ns mainGlobals mg) (c : SaysK K) (T : Txt K mg) : MFn P w K mg base CX0 5 (cZ K) "inverse" ["self"] [] (spZ1 K (fun n => n ≠ 0) zinv) := by
  obtain ⟨fd, F⟩ := c.d.def_ 17 (d := dZInv) rfl
  exact toM (ok_ZInv T F (eZInit (P := P) (w := w) (base := base) X G c T)) (b0 (FunD.bindsN (ps := ["self"]) F fun _ _ _ _ _ _ us hl => match us, hl with | [_], _ => rfl)) (He.meth_ok (c.d.fact 54 (f := .meth "Residue" "inverse") rfl))
theorem eZOver (X : K.In h) (G : h.Ns mainGlobals mg) (c : SaysK K) (T : Txt K mg) : MFn P w K mg base CX0 6 (cZ K) "over" ["self", "other"] [] (spZOv K) := by
  obtain ⟨fd, F⟩ := c.d.def_ 18 (d := dZOver) rfl
  exact toM (ok_ZOver T F (eZMul (P := P) (w := w) (base := base) X G c T) (eZInv (P := P) (w := w) (base := base) X G c T)) (b0 (FunD.bindsN (ps := ["self", "other"]) F fun _ _ _ _ _ _ us hl => match us, hl with | [_, _], _ => rfl)) (He.meth_ok (c.d.fact 55 (f := .meth "Residue" "over") rfl))
theorem eGInit (X : K.In h) (G : h.Ns mainGlobals mg) (c : SaysK K) (T : Txt K mg) : CFn P w K mg base CX0 3 "Ground" (cG K) ["self", "p"] [] (spGInit K) := by
  obtain ⟨fd, F⟩ := c.d.def_ 19 (d := dGInit) rfl
  exact toC (ok_GInit T F (eIsInt (P := P) (w := w) (base := base) X G c T) (eIsPr (P := P) (w := w) (base := base) X G c T)) (FunD.binds1 (ps := ["self", "p"]) F 2 1 (by intro z; cases z) (by rfl) fun _ _ _ _ _ _ _ us its hl hi => match us, its, hl, hi with | [_, _], [_], _, _ => ⟨_, rfl, rfl⟩) (He.mkr_ok (c.d.fact 34 (f := .mkr "Ground") rfl)) (He.glo_ok X G (c.d.fact 32 (f := .glo "Ground") rfl))
theorem eGEq (X : K.In h) (G : h.Ns mainGlobals mg) (c : SaysK K) (T : Txt K mg) : MFn P w K mg base CX0 1 (cG K) "__eq__" ["self", "other"] [] (spGEq K) := by
  obtain ⟨fd, F⟩ := c.d.def_ 20 (d := dGEq) rfl
  exact toM (ok_GEq T F) (b0 (FunD.bindsN (ps := ["self", "other"]) F fun _ _ _ _ _ _ us hl => match us, hl with | [_, _], _ => rfl)) (He.meth_ok (c.d.fact 56 (f := .meth "Ground" "__eq__") rfl))
theorem eGNum (X : K.In h) (G : h.Ns mainGlobals mg) (c : SaysK K) (T : Txt K mg) : MFn P w K mg base CX0 7 (cG K) "number" ["self", "n", "d"] [.int 1] (spGNum K) := by
  obtain ⟨fd, F⟩ := c.d.def_ 21 (d := dGNum) rfl
  exact toM (ok_GNum T F (eRInit (P := P) (w := w) (base := base) X G c T) (eZInit (P := P) (w := w) (base := base) X G c T) (eZOver (P := P) (w := w) (base := base) X G c T)) (FunD.binds1 (ps := ["self", "n", "d"]) F 2 0 (by intro z; cases z) (by rfl) fun _ _ _ _ _ _ _ us its hl hi => match us, its, hl, hi with | [_, _], [_], _, _ => ⟨_, rfl, rfl⟩) (He.meth_ok (c.d.fact 57 (f := .meth "Ground" "number") rfl))
theorem eGZero (X : K.In h) (G : h.Ns mainGlobals mg) (c : SaysK K) (T : Txt K mg) : MFn P w K mg base CX0 8 (cG K) "zero" ["self"] [] (spGC K fun _ => 0) := by
  obtain ⟨fd, F⟩ := c.d.def_ 22 (d := dGZero) rfl
  exact toM (ok_GZero T F (eGNum (P := P) (w := w) (base := base) X G c T)) (b0 (FunD.bindsN (ps := ["self"]) F fun _ _ _ _ _ _ us hl => match us, hl with | [_], _ => rfl)) (He.meth_ok (c.d.fact 58 (f := .meth "Ground" "zero") rfl))
theorem eGOne (X : K.In h) (G : h.Ns mainGlobals mg) (c : SaysK K) (T : Txt K mg) : MFn P w K mg base CX0 8 (cG K) "one" ["self"] [] (spGC K fun _ => 1) := by
  obtain ⟨fd, F⟩ := c.d.def_ 23 (d := dGOne) rfl
  exact toM (ok_GOne T F (eGNum (P := P) (w := w) (base := base) X G c T)) (b0 (FunD.bindsN (ps := ["self"]) F fun _ _ _ _ _ _ us hl => match us, hl with | [_], _ => rfl)) (He.meth_ok (c.d.fact 59 (f := .meth "Ground" "one") rfl))
theorem eGMem (X : K.In h) (G : h.Ns mainGlobals mg) (c : SaysK K) (T : Txt K mg) : MFn P w K mg base CX0 1 (cG K) "is_member" ["self", "value"] [] (spGMem K) := by
  obtain ⟨fd, F⟩ := c.d.def_ 24 (d := dGMem) rfl
  exact toM (ok_GMem T F) (b0 (FunD.bindsN (ps := ["self", "value"]) F fun _ _ _ _ _ _ us hl => match us, hl with | [_, _], _ => rfl)) (He.meth_ok (c.d.fact 60 (f := .meth "Ground" "is_member") rfl))
theorem eTaken (X : K.In h) (G : h.Ns mainGlobals mg) (c : SaysK K) (T : Txt K mg) : GFn P w K mg base CX0 8 "taken" ["ground", "item"] [] (spTaken K) := by
  obtain ⟨fd, F⟩ := c.d.def_ 25 (d := dTaken) rfl
  exact toG F (ok_Taken T F (eIsInt (P := P) (w := w) (base := base) X G c T) (eGNum (P := P) (w := w) (base := base) X G c T) (eGMem (P := P) (w := w) (base := base) X G c T)) (b0 (FunD.bindsN (ps := ["ground", "item"]) F fun _ _ _ _ _ _ us hl => match us, hl with | [_, _], _ => rfl)) (He.glo_ok X G (c.d.fact 2 (f := .glo "taken") rfl))
theorem eNumM (X : K.In h) (G : h.Ns mainGlobals mg) (c : SaysK K) (T : Txt K mg) : NumM P w K mg base := ⟨eRAdd X G c T, eRSub X G c T, eRMul X G c T, eRNeg X G c T, eRInv X G c T, eRZer X G c T, eREq X G c T, eZAdd X G c T, eZSub X G c T, eZMul X G c T, eZNeg X G c T, eZInv X G c T, eZZer X G c T, eZEq X G c T⟩
theorem eTrim (X : K.In h) (G : h.Ns mainGlobals mg) (c : SaysK K) (T : Txt K mg) : GFn P w K mg base CX0 2 "trimmed" ["row"] [] (spTrim K) := by
  obtain ⟨fd, F⟩ := c.d.def_ 26 (d := dTrim) rfl
  exact toG F (ok_Trim T (eNumM (P := P) (w := w) (base := base) X G c T) F) (b0 (FunD.bindsN (ps := ["row"]) F fun _ _ _ _ _ _ us hl => match us, hl with | [_], _ => rfl)) (He.glo_ok X G (c.d.fact 3 (f := .glo "trimmed") rfl))
theorem eSumR (X : K.In h) (G : h.Ns mainGlobals mg) (c : SaysK K) (T : Txt K mg) : GFn P w K mg base CX0 9 "sum_row" ["ground", "a", "b"] [] (spSum K) := by
  obtain ⟨fd, F⟩ := c.d.def_ 27 (d := dSumR) rfl
  exact toG F (ok_SumR T (eNumM (P := P) (w := w) (base := base) X G c T) F (eGZero (P := P) (w := w) (base := base) X G c T)) (b0 (FunD.bindsN (ps := ["ground", "a", "b"]) F fun _ _ _ _ _ _ us hl => match us, hl with | [_, _, _], _ => rfl)) (He.glo_ok X G (c.d.fact 4 (f := .glo "sum_row") rfl))
theorem eProdR (X : K.In h) (G : h.Ns mainGlobals mg) (c : SaysK K) (T : Txt K mg) : GFn P w K mg base CX0 9 "product_row" ["ground", "a", "b"] [] (spProd K) := by
  obtain ⟨fd, F⟩ := c.d.def_ 28 (d := dProdR) rfl
  exact toG F (ok_ProdR T (eNumM (P := P) (w := w) (base := base) X G c T) F (eGZero (P := P) (w := w) (base := base) X G c T)) (b0 (FunD.bindsN (ps := ["ground", "a", "b"]) F fun _ _ _ _ _ _ us hl => match us, hl with | [_, _, _], _ => rfl)) (He.glo_ok X G (c.d.fact 5 (f := .glo "product_row") rfl))
theorem eDiv (X : K.In h) (G : h.Ns mainGlobals mg) (c : SaysK K) (T : Txt K mg) : GFn P w K mg base CX0 6 "division" ["ground", "a", "b"] [] (spDiv K) := by
  obtain ⟨fd, F⟩ := c.d.def_ 29 (d := dDiv) rfl
  exact toG F (ok_Div T (eNumM (P := P) (w := w) (base := base) X G c T) F) (b0 (FunD.bindsN (ps := ["ground", "a", "b"]) F fun _ _ _ _ _ _ us hl => match us, hl with | [_, _, _], _ => rfl)) (He.glo_ok X G (c.d.fact 6 (f := .glo "division") rfl))
theorem ePInit (X : K.In h) (G : h.Ns mainGlobals mg) (c : SaysK K) (T : Txt K mg) : CFn P w K mg base CX0 9 "Poly" (cP K) ["self", "ground", "row"] [] (spPInit K) := by
  obtain ⟨fd, F⟩ := c.d.def_ 30 (d := dPInit) rfl
  exact toC (ok_PInit T F (eTrim (P := P) (w := w) (base := base) X G c T) (eTaken (P := P) (w := w) (base := base) X G c T)) (b0 (FunD.bindsN (ps := ["self", "ground", "row"]) F fun _ _ _ _ _ _ us hl => match us, hl with | [_, _, _], _ => rfl)) (He.mkr_ok (c.d.fact 38 (f := .mkr "Poly") rfl)) (He.glo_ok X G (c.d.fact 36 (f := .glo "Poly") rfl))
theorem eChk (X : K.In h) (G : h.Ns mainGlobals mg) (c : SaysK K) (T : Txt K mg) : GFn P w K mg base (L2.CX P w) 3 "check_grounds" ["f", "g"] [] (spChk K) := by
  obtain ⟨fd, F⟩ := c.d.def_ 41 (d := dChk) rfl
  exact toG F (ok_Chk T F (eGEq (P := P) (w := w) (base := base) X G c T)) (b0 (FunD.bindsN (ps := ["f", "g"]) F fun _ _ _ _ _ _ us hl => match us, hl with | [_, _], _ => rfl)) (He.glo_ok X G (c.d.fact 7 (f := .glo "check_grounds") rfl))
theorem ePAdd (X : K.In h) (G : h.Ns mainGlobals mg) (c : SaysK K) (T : Txt K mg) : MFn P w K mg base CX0 11 (cP K) "__add__" ["self", "other"] [] (spP2 K (fun _ => AddOk) (fun _ => padd)) := by
  obtain ⟨fd, F⟩ := c.d.def_ 32 (d := dPAdd) rfl
  exact toM (ok_PAdd T F (eChk (P := P) (w := w) (base := base) X G c T) (ePInit (P := P) (w := w) (base := base) X G c T) (eSumR (P := P) (w := w) (base := base) X G c T)) (b0 (FunD.bindsN (ps := ["self", "other"]) F fun _ _ _ _ _ _ us hl => match us, hl with | [_, _], _ => rfl)) (He.meth_ok (c.d.fact 62 (f := .meth "Poly" "__add__") rfl))
theorem ePSub (X : K.In h) (G : h.Ns mainGlobals mg) (c : SaysK K) (T : Txt K mg) : MFn P w K mg base CX0 11 (cP K) "__sub__" ["self", "other"] [] (spP2 K (fun _ xs ys => AddOk xs (negR ys)) (fun _ => psub)) := by
  obtain ⟨fd, F⟩ := c.d.def_ 33 (d := dPSub) rfl
  exact toM (ok_PSub T (eNumM (P := P) (w := w) (base := base) X G c T) F (eChk (P := P) (w := w) (base := base) X G c T) (ePInit (P := P) (w := w) (base := base) X G c T) (eSumR (P := P) (w := w) (base := base) X G c T)) (b0 (FunD.bindsN (ps := ["self", "other"]) F fun _ _ _ _ _ _ us hl => match us, hl with | [_, _], _ => rfl)) (He.meth_ok (c.d.fact 63 (f := .meth "Poly" "__sub__") rfl))
theorem ePMul (X : K.In h) (G : h.Ns mainGlobals mg) (c : SaysK K) (T : Txt K mg) : MFn P w K mg base CX0 11 (cP K) "__mul__" ["self", "other"] [] (spP2 K (fun _ => MulOk) (fun _ => pmul)) := by
  obtain ⟨fd, F⟩ := c.d.def_ 34 (d := dPMul) rfl
  exact toM (ok_PMul T F (eChk (P := P) (w := w) (base := base) X G c T) (ePInit (P := P) (w := w) (base := base) X G c T) (eProdR (P := P) (w := w) (base := base) X G c T)) (b0 (FunD.bindsN (ps := ["self", "other"]) F fun _ _ _ _ _ _ us hl => match us, hl with | [_, _], _ => rfl)) (He.meth_ok (c.d.fact 64 (f := .meth "Poly" "__mul__") rfl))
theorem ePFdiv (X : K.In h) (G : h.Ns mainGlobals mg) (c : SaysK K) (T : Txt K mg) : MFn P w K mg base CX0 11 (cP K) "__floordiv__" ["self", "other"] [] (spP2 K (fun _ => DvOk) (fun _ => pdiv)) := by
  obtain ⟨fd, F⟩ := c.d.def_ 35 (d := dPFdiv) rfl
  exact toM (ok_PFdiv T F (eChk (P := P) (w := w) (base := base) X G c T) (ePInit (P := P) (w := w) (base := base) X G c T) (eDiv (P := P) (w := w) (base := base) X G c T)) (b0 (FunD.bindsN (ps := ["self", "other"]) F fun _ _ _ _ _ _ us hl => match us, hl with | [_, _], _ => rfl)) (He.meth_ok (c.d.fact 65 (f := .meth "Poly" "__floordiv__") rfl))
theorem ePMod (X : K.In h) (G : h.Ns mainGlobals mg) (c : SaysK K) (T : Txt K mg) : MFn P w K mg base CX0 11 (cP K) "__mod__" ["self", "other"] [] (spP2 K (fun _ => DvOk) (fun _ => pmod)) := by
  obtain ⟨fd, F⟩ := c.d.def_ 36 (d := dPMod) rfl
  exact toM (ok_PMod T F (eChk (P := P) (w := w) (base := base) X G c T) (ePInit (P := P) (w := w) (base := base) X G c T) (eDiv (P := P) (w := w) (base := base) X G c T)) (b0 (FunD.bindsN (ps := ["self", "other"]) F fun _ _ _ _ _ _ us hl => match us, hl with | [_, _], _ => rfl)) (He.meth_ok (c.d.fact 66 (f := .meth "Poly" "__mod__") rfl))
theorem ePEq (X : K.In h) (G : h.Ns mainGlobals mg) (c : SaysK K) (T : Txt K mg) : MFn P w K mg base CX0 3 (cP K) "__eq__" ["self", "other"] [] (spPEq K) := by
  obtain ⟨fd, F⟩ := c.d.def_ 31 (d := dPEq) rfl
  exact toM (ok_PEq T (eNumM (P := P) (w := w) (base := base) X G c T) F (eGEq (P := P) (w := w) (base := base) X G c T)) (b0 (FunD.bindsN (ps := ["self", "other"]) F fun _ _ _ _ _ _ us hl => match us, hl with | [_, _], _ => rfl)) (He.meth_ok (c.d.fact 61 (f := .meth "Poly" "__eq__") rfl))
theorem ePDeg (X : K.In h) (G : h.Ns mainGlobals mg) (c : SaysK K) (T : Txt K mg) : MFn P w K mg base CX0 1 (cP K) "degree" ["self"] [] (spPDeg K) := by
  obtain ⟨fd, F⟩ := c.d.def_ 37 (d := dPDeg) rfl
  exact toM (ok_PDeg T F) (b0 (FunD.bindsN (ps := ["self"]) F fun _ _ _ _ _ _ us hl => match us, hl with | [_], _ => rfl)) (He.meth_ok (c.d.fact 67 (f := .meth "Poly" "degree") rfl))
theorem ePZer (X : K.In h) (G : h.Ns mainGlobals mg) (c : SaysK K) (T : Txt K mg) : MFn P w K mg base CX0 1 (cP K) "is_zero" ["self"] [] (spPZer K) := by
  obtain ⟨fd, F⟩ := c.d.def_ 38 (d := dPZer) rfl
  exact toM (ok_PZer T F) (b0 (FunD.bindsN (ps := ["self"]) F fun _ _ _ _ _ _ us hl => match us, hl with | [_], _ => rfl)) (He.meth_ok (c.d.fact 68 (f := .meth "Poly" "is_zero") rfl))
theorem ePScal (X : K.In h) (G : h.Ns mainGlobals mg) (c : SaysK K) (T : Txt K mg) : MFn P w K mg base CX0 11 (cP K) "scaled" ["self", "c"] [] (spPScal K) := by
  obtain ⟨fd, F⟩ := c.d.def_ 39 (d := dPScal) rfl
  exact toM (ok_PScal T (eNumM (P := P) (w := w) (base := base) X G c T) F (ePInit (P := P) (w := w) (base := base) X G c T)) (b0 (FunD.bindsN (ps := ["self", "c"]) F fun _ _ _ _ _ _ us hl => match us, hl with | [_, _], _ => rfl)) (He.meth_ok (c.d.fact 69 (f := .meth "Poly" "scaled") rfl))
theorem ePMon (X : K.In h) (G : h.Ns mainGlobals mg) (c : SaysK K) (T : Txt K mg) : MFn P w K mg base CX0 12 (cP K) "monic" ["self"] [] (spPMon K) := by
  obtain ⟨fd, F⟩ := c.d.def_ 40 (d := dPMon) rfl
  exact toM (ok_PMon T (eNumM (P := P) (w := w) (base := base) X G c T) F (ePZer (P := P) (w := w) (base := base) X G c T) (ePScal (P := P) (w := w) (base := base) X G c T)) (b0 (FunD.bindsN (ps := ["self"]) F fun _ _ _ _ _ _ us hl => match us, hl with | [_], _ => rfl)) (He.meth_ok (c.d.fact 70 (f := .meth "Poly" "monic") rfl))
theorem ePolM (X : K.In h) (G : h.Ns mainGlobals mg) (c : SaysK K) (T : Txt K mg) : PolM P w K mg base := ⟨ePAdd X G c T, ePSub X G c T, ePMul X G c T, ePFdiv X G c T, ePMod X G c T, ePDeg X G c T, ePZer X G c T, ePScal X G c T, ePMon X G c T, ePInit X G c T, eChk X G c T⟩
theorem eGcd (X : K.In h) (G : h.Ns mainGlobals mg) (c : SaysK K) (T : Txt K mg) : GFn P w K mg base (L2.CX P w) 13 "common_divisor" ["f", "g"] [] (spGcd K) := by
  obtain ⟨fd, F⟩ := c.d.def_ 42 (d := dGcd) rfl
  exact toG F (ok_Gcd T (ePolM (P := P) (w := w) (base := base) X G c T) F) (b0 (FunD.bindsN (ps := ["f", "g"]) F fun _ _ _ _ _ _ us hl => match us, hl with | [_, _], _ => rfl)) (He.glo_ok X G (c.d.fact 8 (f := .glo "common_divisor") rfl))
theorem eLcm (X : K.In h) (G : h.Ns mainGlobals mg) (c : SaysK K) (T : Txt K mg) : GFn P w K mg base (L2.CX P w) 14 "common_multiple" ["f", "g"] [] (spLcm K) := by
  obtain ⟨fd, F⟩ := c.d.def_ 43 (d := dLcm) rfl
  exact toG F (ok_Lcm T (ePolM (P := P) (w := w) (base := base) X G c T) (eGcd (P := P) (w := w) (base := base) X G c T) F) (b0 (FunD.bindsN (ps := ["f", "g"]) F fun _ _ _ _ _ _ us hl => match us, hl with | [_, _], _ => rfl)) (He.glo_ok X G (c.d.fact 9 (f := .glo "common_multiple") rfl))
theorem eCop (X : K.In h) (G : h.Ns mainGlobals mg) (c : SaysK K) (T : Txt K mg) : GFn P w K mg base (L2.CX P w) 14 "are_coprime" ["f", "g"] [] (spCop K) := by
  obtain ⟨fd, F⟩ := c.d.def_ 44 (d := dCop) rfl
  exact toG F (ok_Cop T (ePolM (P := P) (w := w) (base := base) X G c T) (eGcd (P := P) (w := w) (base := base) X G c T) F) (b0 (FunD.bindsN (ps := ["f", "g"]) F fun _ _ _ _ _ _ us hl => match us, hl with | [_, _], _ => rfl)) (He.glo_ok X G (c.d.fact 10 (f := .glo "are_coprime") rfl))
theorem eCof (X : K.In h) (G : h.Ns mainGlobals mg) (c : SaysK K) (T : Txt K mg) (SM : SubMod) : GFn P w K mg base (L2.CX P w) 12 "cofactors" ["f", "g"] [] (spCof K) := by
  obtain ⟨fd, F⟩ := c.d.def_ 45 (d := dCof) rfl
  exact toG F (ok_Cof T (eNumM (P := P) (w := w) (base := base) X G c T) (ePolM (P := P) (w := w) (base := base) X G c T) SM F) (b0 (FunD.bindsN (ps := ["f", "g"]) F fun _ _ _ _ _ _ us hl => match us, hl with | [_, _], _ => rfl)) (He.glo_ok X G (c.d.fact 11 (f := .glo "cofactors") rfl))
theorem eLNums (X : K.In h) (G : h.Ns mainGlobals mg) (c : SaysK K) (T : Txt K mg) : GFn P w K mg base CX0 1 "_law_numbers" ["_law_script"] [] (spLNums K) := by
  obtain ⟨fd, F⟩ := c.d.def_ 46 (d := dLNums) rfl
  exact toG F (ok_LNums T F) (b0 (FunD.bindsN (ps := ["_law_script"]) F fun _ _ _ _ _ _ us hl => match us, hl with | [_], _ => rfl)) (He.glo_ok X G (c.d.fact 12 (f := .glo "_law_numbers") rfl))
theorem eLNext (X : K.In h) (G : h.Ns mainGlobals mg) (c : SaysK K) (T : Txt K mg) : GFn P w K mg base CX0 1 "_law_next" ["_law_numbers_here", "_law_many"] [] (spLNext K) := by
  obtain ⟨fd, F⟩ := c.d.def_ 47 (d := dLNext) rfl
  exact toG F (ok_LNext T F) (b0 (FunD.bindsN (ps := ["_law_numbers_here", "_law_many"]) F fun _ _ _ _ _ _ us hl => match us, hl with | [_, _], _ => rfl)) (He.glo_ok X G (c.d.fact 13 (f := .glo "_law_next") rfl))
theorem eLPrime (X : K.In h) (G : h.Ns mainGlobals mg) (c : SaysK K) (T : Txt K mg) : GFn P w K mg base CX0 2 "_law_prime" ["_law_numbers_here"] [] (spLPrime K) := by
  obtain ⟨fd, F⟩ := c.d.def_ 48 (d := dLPrime) rfl
  exact toG F (ok_LPrime T F (eLNext (P := P) (w := w) (base := base) X G c T)) (b0 (FunD.bindsN (ps := ["_law_numbers_here"]) F fun _ _ _ _ _ _ us hl => match us, hl with | [_], _ => rfl)) (He.glo_ok X G (c.d.fact 14 (f := .glo "_law_prime") rfl))
theorem eGInit0 (X : K.In h) (G : h.Ns mainGlobals mg) (c : SaysK K) (T : Txt K mg) : CFn P w K mg base CX0 3 "Ground" (cG K) ["self", "p"] [.int 0] (spGInit K) := by
  obtain ⟨fd, F⟩ := c.d.def_ 19 (d := dGInit) rfl
  exact toC (ok_GInit T F (eIsInt (P := P) (w := w) (base := base) X G c T) (eIsPr (P := P) (w := w) (base := base) X G c T)) (FunD.binds1 (ps := ["self", "p"]) F 1 0 (by intro z; cases z) (by rfl) fun _ _ _ _ _ _ _ us its hl hi => match us, its, hl, hi with | [_], [_], _, _ => ⟨_, rfl, rfl⟩) (He.mkr_ok (c.d.fact 34 (f := .mkr "Ground") rfl)) (He.glo_ok X G (c.d.fact 32 (f := .glo "Ground") rfl))
theorem eLGround (X : K.In h) (G : h.Ns mainGlobals mg) (c : SaysK K) (T : Txt K mg) : GFn P w K mg base CX0 5 "_law_ground" ["_law_p"] [] (spLGround K) := by
  obtain ⟨fd, F⟩ := c.d.def_ 49 (d := dLGround) rfl
  exact toG F (ok_LGround T F (eGInit0 (P := P) (w := w) (base := base) X G c T) (eGInit (P := P) (w := w) (base := base) X G c T)) (b0 (FunD.bindsN (ps := ["_law_p"]) F fun _ _ _ _ _ _ us hl => match us, hl with | [_], _ => rfl)) (He.glo_ok X G (c.d.fact 15 (f := .glo "_law_ground") rfl))
theorem eLRest (X : K.In h) (G : h.Ns mainGlobals mg) (c : SaysK K) (T : Txt K mg) : GFn P w K mg base CX0 1 "_law_rest" ["_law_p", "_law_x"] [] (spLRest K) := by
  obtain ⟨fd, F⟩ := c.d.def_ 50 (d := dLRest) rfl
  exact toG F (ok_LRest T F) (b0 (FunD.bindsN (ps := ["_law_p", "_law_x"]) F fun _ _ _ _ _ _ us hl => match us, hl with | [_, _], _ => rfl)) (He.glo_ok X G (c.d.fact 16 (f := .glo "_law_rest") rfl))
theorem eLTrim (X : K.In h) (G : h.Ns mainGlobals mg) (c : SaysK K) (T : Txt K mg) : GFn P w K mg base CX0 1 "_law_trim" ["_law_row_here"] [] (spLTrim K) := by
  obtain ⟨fd, F⟩ := c.d.def_ 51 (d := dLTrim) rfl
  exact toG F (ok_LTrim T F) (b0 (FunD.bindsN (ps := ["_law_row_here"]) F fun _ _ _ _ _ _ us hl => match us, hl with | [_], _ => rfl)) (He.glo_ok X G (c.d.fact 17 (f := .glo "_law_trim") rfl))
theorem eLRow (X : K.In h) (G : h.Ns mainGlobals mg) (c : SaysK K) (T : Txt K mg) : GFn P w K mg base CX0 2 "_law_row" ["_law_numbers_here", "_law_p", "_law_most"] [] (spLRow K) := by
  obtain ⟨fd, F⟩ := c.d.def_ 52 (d := dLRow) rfl
  exact toG F (ok_LRow T F (eLNext (P := P) (w := w) (base := base) X G c T) (eLRest (P := P) (w := w) (base := base) X G c T) (eLTrim (P := P) (w := w) (base := base) X G c T)) (b0 (FunD.bindsN (ps := ["_law_numbers_here", "_law_p", "_law_most"]) F fun _ _ _ _ _ _ us hl => match us, hl with | [_, _, _], _ => rfl)) (He.glo_ok X G (c.d.fact 18 (f := .glo "_law_row") rfl))
theorem eLPoly (X : K.In h) (G : h.Ns mainGlobals mg) (c : SaysK K) (T : Txt K mg) : GFn P w K mg base CX0 11 "_law_poly" ["_law_ground_here", "_law_row_here"] [] (spLPoly K) := by
  obtain ⟨fd, F⟩ := c.d.def_ 53 (d := dLPoly) rfl
  exact toG F (ok_LPoly T F (eGNum (P := P) (w := w) (base := base) X G c T) (ePInit (P := P) (w := w) (base := base) X G c T)) (b0 (FunD.bindsN (ps := ["_law_ground_here", "_law_row_here"]) F fun _ _ _ _ _ _ us hl => match us, hl with | [_, _], _ => rfl)) (He.glo_ok X G (c.d.fact 19 (f := .glo "_law_poly") rfl))
theorem eLMix (X : K.In h) (G : h.Ns mainGlobals mg) (c : SaysK K) (T : Txt K mg) (SM : SubMod) : GFn P w K mg base CX0 15 "_law_mixed" ["_law_which", "_law_f", "_law_g"] [] (spMix K) := by
  obtain ⟨fd, F⟩ := c.d.def_ 54 (d := dLMix) rfl
  exact toG F (ok_LMix T F (eGcd (P := P) (w := w) (base := base) X G c T) (eLcm (P := P) (w := w) (base := base) X G c T) (eCof (P := P) (w := w) (base := base) X G c T SM) (eCop (P := P) (w := w) (base := base) X G c T)) (b0 (FunD.bindsN (ps := ["_law_which", "_law_f", "_law_g"]) F fun _ _ _ _ _ _ us hl => match us, hl with | [_, _, _], _ => rfl)) (He.glo_ok X G (c.d.fact 20 (f := .glo "_law_mixed") rfl))
theorem eLawC (X : K.In h) (G : h.Ns mainGlobals mg) (c : SaysK K) (T : Txt K mg) (SM : SubMod) : LawC P w K mg base := ⟨eLNums X G c T, eLPrime X G c T, eLGround X G c T, eLRow X G c T, eLPoly X G c T, eLMix X G c T SM, eGcd X G c T, eLcm X G c T, eCof X G c T SM, eCop X G c T, eGInit X G c T, eGOne X G c T, ePEq X G c T⟩
theorem facts {f : Addr} (X : K.In h) (G : h.Ns mainGlobals mg) (hfa : mg ("law" : Str) = some (.ref f)) (c : SaysK K) (SM : SubMod) (LF : LawHolds) :
    ∃ fd : FuncData, (∀ (s : Shared) (v : Value), BindsTo s fd ⟨[v], []⟩ [("_law_script", v)]) ∧ ∀ base : Heap, K.In base → base.Ns mainGlobals mg → FnOk P w K mg base CX0 16 f fd ["_law_script"] (spLaw K) := by
  obtain ⟨fd, F⟩ := c.d.def_ 55 (d := dLaw) rfl
  have e := hfa.symm.trans (He.glo_ok X G (c.d.fact 21 (f := .glo "law") rfl))
  cases e
  have b := FunD.bindsA (ps := ["_law_script"]) F fun _ _ _ _ _ _ us hl => match us, hl with | [_], _ => rfl
  have T := txt_of X G c
  exact ⟨fd, fun s v => b s [v] rfl, fun base _ _ => ok_Law T (eNumM X G c T) (ePolM X G c T) (eLawC X G c T SM) LF F⟩
end
end K9

namespace K9
section
variable {K : Type} [Fld K]
/-- the law's numbers all stay small enough -/
structure SizeG (a f h : List K) : Prop where
  e1 : EuOk h.length f h
  e2 : EuOk f.length h f
  co : CofOk h.length (cof0 f h)
  mu : MulOk (cofs f h).2.1 f
  mv : MulOk (cofs f h).2.2 h
  ad : AddOk (pmul (cofs f h).2.1 f) (pmul (cofs f h).2.2 h)
  df : ¬ (f = [] ∧ h = []) → DivOk f (cdiv f h) ∧ DivOk h (cdiv f h)
  one : AddOk f h ∧ MonOk (padd f h)
  da : a ≠ [] → DivOk (cdiv f h) a
  rest : f ≠ [] → h ≠ [] → EuOk (pdiv h (cdiv f h)).length (pdiv f (cdiv f h)) (pdiv h (cdiv f h))
  mfh : MulOk f h
  dl : f ≠ [] → h ≠ [] → DivOk (pmul f h) (cdiv f h) ∧ MonOk (pdiv (pmul f h) (cdiv f h)) ∧ MulOk (cmul f h) (cdiv f h)
  mm : MonOk (pmul f h)
structure SizeF (a b c : List K) : Prop where
  mb : MulOk a b
  mc : MulOk a c
  g : SizeG a (pmul a b) (pmul a c)
theorem law_of {a b c : List K} (ta : Tr a) (la : a.length ≤ 3) (lb : b.length ≤ 3) (lc : c.length ≤ 3) (S : SizeF a b c) : LawF a b c := by
  have tf := tr_pmul a b
  have th := tr_pmul a c
  have lf := pmul_len a b
  have lh := pmul_len a c
  have da : Dv a (cdiv (pmul a b) (pmul a c)) := dv_gcd (cdiv_ok tf th) (dv_pmul a b) (dv_pmul a c)
  have ane : pmul a b ≠ [] → a ≠ [] := fun h e => h (by rw [e]; exact pmul_nil b)
  obtain ⟨mb, mc, e1, e2, co, mu, mv, ad, df, one, oda, orest, mfh, dl, mm⟩ := S
  have l2 := alg_len tf th (by omega) (by omega)
  have hcl := cdiv_ok tf th
  exact {
    mb := mb, mc := mc, e1 := e1, e2 := e2, co := co, mu := mu, mv := mv, ad := ad
    cd := alg_cd tf th
    lu := by omega
    lv := by omega
    bz := alg_bz tf th
    sy := cdiv_swap tf th
    z := fun h1 h2 => by rw [h1, h2]; exact cdiv_nil
    nz := fun hn => ⟨cdiv_ne tf th hn, cdiv_monic tf th (cdiv_ne tf th hn), (df hn).1, (alg_mods tf th hn).1, (df hn).2, (alg_mods tf th hn).2⟩
    one := fun ho hn => ⟨one.1, one.2, alg_one tf th ho hn⟩
    ane := fun h1 _ => ane h1
    da := fun h1 h2 => ⟨oda (ane h1), (dv_div (ane h1) (tr_lst ta (ane h1)) da).1⟩
    rest := fun h1 h2 => ⟨orest h1 h2, alg_rest tf th h1 h2⟩
    lc := fun h1 h2 => ⟨e1, mfh, ⟨cdiv_ne tf th fun z => h1 z.1, tr_lst hcl.tr (cdiv_ne tf th fun z => h1 z.1), (dl h1 h2).1⟩, (dl h1 h2).2.1⟩
    ll := fun h1 h2 => ⟨(dl h1 h2).2.2, mfh, mm, alg_lcm tf th h1 h2⟩ }
/-! ### where every number is small enough -/
section
variable (al : ∀ x : K, Fld.ok x)
include al
theorem al_l (l : List K) : OkL l := fun x _ => al x
theorem al_mul (a b : List K) : MulOk a b := ⟨al_l al a, al_l al b, fun _ _ => al _, fun _ _ _ => al _⟩
theorem al_add (a b : List K) : AddOk a b := ⟨al_l al a, al_l al b⟩
theorem al_mon (a : List K) : MonOk a := ⟨al_l al a, al _, al_l al a⟩
theorem al_go (b : List K) (h : K) : ∀ (j : Nat) (r : List K), DivGoOk b h j r
  | 0, r => trivial
  | j + 1, r => ⟨⟨al_l al r, al _, fun _ => al _⟩, al_go b h j _⟩
theorem al_div (a b : List K) : DivOk a b := ⟨al_l al b, al _, al_go al b _ _ a⟩
theorem al_eu : ∀ (n : Nat) (f g : List K), EuOk n f g
  | 0, f, g => al_mon al f
  | n + 1, f, g => by
    unfold EuOk
    split
    · exact al_mon al f
    · exact ⟨al_div al f g, al_eu n g _⟩
theorem al_end (c : Cof K) : CofEndOk c := ⟨al_l al _, al _, al_l al _, al_l al _⟩
theorem al_cof : ∀ (n : Nat) (c : Cof K), CofOk n c
  | 0, c => al_end al c
  | n + 1, c => by
    unfold CofOk
    split
    · exact al_end al c
    · exact ⟨⟨al_div al _ _, al_mul al _ _, al_add al _ _, al_mul al _ _, al_add al _ _, al_mul al _ _, al_add al _ _⟩, al_cof n _⟩
theorem al_size (a b c : List K) : SizeF a b c := ⟨al_mul al _ _, al_mul al _ _, al_eu al _ _ _, al_eu al _ _ _, al_cof al _ _, al_mul al _ _, al_mul al _ _, al_add al _ _, fun _ => ⟨al_div al _ _, al_div al _ _⟩, ⟨al_add al _ _, al_mon al _⟩,
  fun _ => al_div al _ _, fun _ _ => al_eu al _ _ _, al_mul al _ _, fun _ _ => ⟨al_div al _ _, al_mon al _, al_mul al _ _⟩, al_mon al _⟩
end
/-! ### by common denominators -/
theorem dv_one (l : List K) : Dv [1] l := ⟨l, by rw [co_one]; grind⟩
theorem sz_one : Sz 2 [(1 : K)] := ⟨1, by rw [ic1]; exact Fld.one_ne, by decide, fun x hx => ⟨1, by decide, by rw [List.mem_singleton.mp hx, ic1]; grind⟩⟩
theorem sz_nil : Sz 2 ([] : List K) := ⟨1, by rw [ic1]; exact Fld.one_ne, by decide, fun x hx => by cases hx⟩
theorem bd_size (bd : Bd K) {a b c : List K} (ta : Tr a) (la : a.length ≤ 3) (lb : b.length ≤ 3) (lc : c.length ≤ 3) (sa : Sz 3 a) (sb : Sz 3 b) (sc : Sz 3 c) : SizeF a b c := by
  have hb : bnd = 4400 := rfl
  have tf := tr_pmul a b
  have th := tr_pmul a c
  have lf := pmul_len a b
  have lh := pmul_len a c
  obtain ⟨m1, sf⟩ := mul_sz bd (k := 2) sa sb (by show _ ≤ 4; omega) (by omega)
  obtain ⟨m2, sh⟩ := mul_sz bd (k := 2) sa sc (by show _ ≤ 4; omega) (by omega)
  obtain ⟨a', ta', na', d1, d2, l1, l2⟩ : ∃ a' : List K, Tr a' ∧ a' ≠ [] ∧ Dv a' (pmul a b) ∧ Dv a' (pmul a c) ∧ (pmul a b).length ≤ a'.length + 2 ∧ (pmul a c).length ≤ a'.length + 2 := by
    by_cases e : a = []
    · refine ⟨[1], tr_of Fld.one_ne, (fun z => by cases z), dv_one _, dv_one _, ?_, ?_⟩
      · rw [e, pmul_nil]; exact Nat.zero_le _
      · rw [e, pmul_nil]; exact Nat.zero_le _
    · exact ⟨a, ta, e, dv_pmul a b, dv_pmul a c, by omega, by omega⟩
  have hdl := cdiv_len (pmul a b) (pmul a c)
  refine ⟨m1, m2, ?_⟩
  generalize pmul a b = f at *
  generalize pmul a c = h at *
  have E1 : Eu a' f h 8 := ⟨tf, th, d1, d2, l1, sf.mono (by omega), sh.mono (by omega)⟩
  have E2 : Eu a' h f 8 := ⟨th, tf, d2, d1, l2, sh.mono (by omega), sf.mono (by omega)⟩
  obtain ⟨e1, sD⟩ := eu_cdiv bd ta' E1 l2 (by omega)
  obtain ⟨e2, _⟩ := eu_cdiv bd ta' E2 l1 (by omega)
  have hg := cdiv_ok tf th
  have dD : Dv a' (cdiv f h) := dv_gcd hg d1 d2
  obtain ⟨co, cs⟩ := cs3 bd ta' (s := cof0 f h) (n := h.length) ⟨E1, sz_one, sz_nil, sz_nil, sz_one⟩ l2 (Nat.le_refl _)
  have tr2 : Tr (cofF h.length (cof0 f h)).f := cs.eu.tf
  have su : Sz 592 (cofs f h).2.1 ∧ Sz 592 (cofs f h).2.2 := by
    unfold cofs cofEnd
    by_cases z : (cofF h.length (cof0 f h)).f = []
    · rw [if_pos z]
      exact ⟨sz_nil.mono (by omega), sz_nil.mono (by omega)⟩
    · rw [if_neg z]
      have z2 := tr_lst tr2 z
      exact ⟨scal_sz cs.eu.sf cs.su z2, scal_sz cs.eu.sf cs.sv z2⟩
  have lu := alg_len tf th (by omega) (by omega)
  obtain ⟨mu, su2⟩ := mul_sz bd (k := 4) su.1 (sf.mono (d := 8) (by omega)) (by show _ ≤ 16; omega) (by omega)
  obtain ⟨mv, sv2⟩ := mul_sz bd (k := 4) su.2 (sh.mono (d := 8) (by omega)) (by show _ ≤ 16; omega) (by omega)
  obtain ⟨mfh, sfh⟩ := mul_sz bd (k := 3) (sf.mono (d := 8) (by omega)) (sh.mono (d := 8) (by omega)) (by show _ ≤ 8; omega) (by omega)
  have lfh := pmul_len f h
  have hdv : ¬ (f = [] ∧ h = []) → cdiv f h ≠ [] ∧ lst (cdiv f h) ≠ 0 ∧ a'.length ≤ (cdiv f h).length := fun hn =>
    ⟨cdiv_ne tf th hn, tr_lst hg.tr (cdiv_ne tf th hn), dv_lenle ta' hg.tr (cdiv_ne tf th hn) dD⟩
  have div3 : ¬ (f = [] ∧ h = []) → (DivOk f (cdiv f h) ∧ Sz 152 (pdiv f (cdiv f h))) ∧ DivOk h (cdiv f h) ∧ Sz 152 (pdiv h (cdiv f h)) := fun hn => by
    obtain ⟨z1, z2, z3⟩ := hdv hn
    obtain ⟨g1, g2, _⟩ := div_sz bd (j := 3) (sf.mono (d := 8) (by omega)) sD z1 z2 (by omega) (by omega) (by omega)
    obtain ⟨g3, g4, _⟩ := div_sz bd (j := 3) (sh.mono (d := 8) (by omega)) sD z1 z2 (by omega) (by omega) (by omega)
    exact ⟨⟨g1, g2.mono (by omega)⟩, g3, g4.mono (by omega)⟩
  refine ⟨e1, e2, co, mu, mv, add_ok bd su2 sv2 (by omega), fun hn => ⟨(div3 hn).1.1, (div3 hn).2.1⟩, ⟨add_ok bd (sf.mono (d := 8) (by omega)) (sh.mono (d := 8) (by omega)) (by omega), mon_ok bd (padd_sz sf sh) (by omega)⟩, fun ha => ?_, fun h1 h2 => ?_, mfh, fun h1 h2 => ?_, mon_ok bd sfh (by omega)⟩
  · exact (div_sz bd (j := 6) sD sa ha (tr_lst ta ha) (by omega) (by omega) (by omega)).1
  · have hn : ¬ (f = [] ∧ h = []) := fun z => h1 z.1
    obtain ⟨z1, z2, z3⟩ := hdv hn
    have p3 := List.length_pos_iff.mpr na'
    have q1 := pdiv_len f (cdiv f h)
    have q2 := pdiv_len h (cdiv f h)
    have l3 : ([1] : List K).length = 1 := rfl
    exact (eu_cdiv bd (a := [1]) (f := pdiv f (cdiv f h)) (g := pdiv h (cdiv f h)) (c := 152) (tr_of Fld.one_ne) ⟨tr_trim _, tr_trim _, dv_one _, dv_one _, by show _ ≤ 1 + 2; omega, (div3 hn).1.2, (div3 hn).2.2⟩ (by show _ ≤ 1 + 2; omega) (by omega)).1
  · have hn : ¬ (f = [] ∧ h = []) := fun z => h1 z.1
    obtain ⟨z1, z2, z3⟩ := hdv hn
    obtain ⟨g1, g2, _⟩ := div_sz bd (j := 10) sfh sD z1 z2 (by omega) (by omega) (by omega)
    refine ⟨g1, mon_ok bd g2 (by omega), ?_⟩
    have sl : Sz (8 + 8 + 3 + 10 * (6 * 8)) (cmul f h) := by
      unfold cmul
      rw [if_neg (by intro w; rcases w with w | w; exact h1 w; exact h2 w)]
      exact monic_sz g2 (tr_trim _)
    have ll : (cmul f h).length ≤ 32 := by
      unfold cmul
      rw [if_neg (by intro w; rcases w with w | w; exact h1 w; exact h2 w)]
      have t1 := monic_len (pdiv (pmul f h) (cdiv f h))
      have t2 := pdiv_len (pmul f h) (cdiv f h)
      omega
    exact (mul_sz bd (k := 5) sl sD ll (by omega)).1
end
/-! ### the rationals -/
theorem bdQ : Bd Rat := by
  refine ⟨?_, fun x D z h0 hD hz h => ?_⟩
  · show okQ ((0 : Rat)⁻¹)
    rw [Rat.inv_zero]
    exact fldQ.ok_zero
  · have h1 : x * (D : Rat) = (z : Rat) := h
    have hD0 : D ≠ 0 := fun e => h0 (by rw [e]; rfl)
    have h2 : x.num * D = z * x.den := by
      have e1 : x * (x.den : Rat) = (x.num : Rat) := by
        have e3 : x = mkRat x.num x.den := (Rat.mkRat_self x).symm
        have hd : ((x.den : Nat) : Rat) ≠ 0 := by
          intro e
          exact x.den_nz (Rat.natCast_inj.mp (show ((x.den : Nat) : Rat) = ((0 : Nat) : Rat) from e))
        rw [Rat.mkRat_eq_div] at e3
        have e4 : x * (x.den : Rat) = (x.num : Rat) / (x.den : Rat) * (x.den : Rat) := congrArg (fun y => y * (x.den : Rat)) e3
        rw [e4, Rat.div_mul_cancel hd]
      have e2 : ((x.num * D : Int) : Rat) = ((z * x.den : Int) : Rat) := by
        rw [Rat.intCast_mul, Rat.intCast_mul, ← h1, ← e1, Rat.intCast_natCast]
        grind
      exact Rat.intCast_inj.mp e2
    have h3 : x.num.natAbs * D.natAbs = z.natAbs * x.den := by
      have := congrArg Int.natAbs h2
      rw [Int.natAbs_mul, Int.natAbs_mul, Int.natAbs_natCast] at this
      exact this
    have hc : Nat.Coprime x.num.natAbs x.den := x.reduced
    have d1 : x.den ∣ D.natAbs := hc.symm.dvd_of_dvd_mul_left ⟨z.natAbs, by rw [h3, Nat.mul_comm]⟩
    have hDp : 0 < D.natAbs := Int.natAbs_pos.mpr hD0
    refine ⟨?_, Nat.lt_of_le_of_lt (Nat.le_of_dvd hDp d1) hD⟩
    by_cases hz0 : z.natAbs = 0
    · rw [hz0, Nat.zero_mul] at h3
      rcases Nat.mul_eq_zero.mp h3 with e | e
      · rw [e]; exact Nat.pow_pos (by decide)
      · omega
    · have d2 : x.num.natAbs ∣ z.natAbs := hc.dvd_of_dvd_mul_right ⟨D.natAbs, h3.symm⟩
      exact Nat.lt_of_le_of_lt (Nat.le_of_dvd (by omega) d2) hz
theorem szQ {ms : List Int} (h : RowI .q ms) : Sz 3 (trim (ms.map (ofI .q))) := by
  refine Sz.trim ⟨1, by rw [ic1]; exact Fld.one_ne, by decide, fun x hx => ?_⟩
  obtain ⟨n, hn, rfl⟩ := List.mem_map.mp hx
  have := h.2 n hn rfl
  refine ⟨n, by show _ < 8; omega, ?_⟩
  rw [ic1]
  show ofI .q n * 1 = _
  have e : ofI .q n = ((n : Int) : Rat) := rfl
  have e2 : ∀ y : Rat, y * 1 = y := fun y => Rat.mul_one y
  exact e2 _
theorem lawHolds : LawHolds := fun g ma mb mc ha hb hc => by
  have la : (trim (ma.map (ofI g))).length ≤ 3 := Nat.le_trans (trim_len _) (by rw [List.length_map]; exact ha.1)
  have lb : (trim (mb.map (ofI g))).length ≤ 3 := Nat.le_trans (trim_len _) (by rw [List.length_map]; exact hb.1)
  have lc : (trim (mc.map (ofI g))).length ≤ 3 := Nat.le_trans (trim_len _) (by rw [List.length_map]; exact hc.1)
  refine law_of (tr_trim _) la lb lc ?_
  cases g with
  | q => exact bd_size (K := Rat) bdQ (tr_trim _) la lb lc (szQ ha) (szQ hb) (szQ hc)
  | p2 => exact al_size (fun _ => trivial) _ _ _
  | p3 => exact al_size (fun _ => trivial) _ _ _
  | p5 => exact al_size (fun _ => trivial) _ _ _
  | p7 => exact al_size (fun _ => trivial) _ _ _
theorem subMod : SubMod := fun g x y tx ty hy => sub_mod tx ty hy
end K9

open PySem PySem.W PySem.Calls PyProof.Rows
theorem PySem.Challenge.cw_similarforms_k09_whole_common_divisors_holds : PySem.Challenge.rw_similarforms_k09_whole_common_divisors.Holds := by
  w_on; o_law
  refine HeadRun.head_imp (r := OpenLaw.row PySem.Challenge.rw_similarforms_k09_whole_common_divisors) (q := view (OpenLaw.row PySem.Challenge.rw_similarforms_k09_whole_common_divisors).prog [0, 44]) (H := K9.hookK 4) (ob := K9.ob) (M := 20000) (loose := K9.names) (d := HeadRun.topDef (OpenLaw.row PySem.Challenge.rw_similarforms_k09_whole_common_divisors).prog 44) (kwd := []) K9.ob_eq K9.run
    (by kernel_rfl) (by kernel_rfl) (by kernel_rfl) (by rfl) (by first | assumption | decide +kernel) (by decide +kernel) ⟨rfl, rfl, rfl, rfl, rfl, by decide +kernel⟩ ?hw ?hc
  case hw => w_witness2
  case hc =>
    refine L2.walk_ofE (l := PySem.Challenge.rw_similarforms_k09_whole_common_divisors) (n := 63) (k := 16) (x := "_law_script") (CX := L2.CX0) rfl (by decide) (by kernel_rfl) ⟨rfl, by decide, by decide⟩ ?F (fun _ _ _ _ z => z)
    intro w mg fa h Y G hmg0
    obtain ⟨K, KX, c⟩ := Y
    have hmg : mg ("law" : PySem.Str) = some (.ref fa) := by
      have e : (HeadRun.topDef (OpenLaw.row PySem.Challenge.rw_similarforms_k09_whole_common_divisors).prog 44).name = ("law" : PySem.Str) := by kernel_rfl
      rw [← e]
      exact hmg0
    obtain ⟨fd, hb, hF⟩ := K9.facts (P := (PySem.Challenge.rw_similarforms_k09_whole_common_divisors).prog) (w := w) KX G hmg c K9.subMod K9.lawHolds
    exact ⟨K, fd, K9.spLaw K, KX, hb, fun H a ns hl _ hS => ⟨a, ns, rfl, hS, fun _ => rfl⟩, hF⟩
#print axioms PySem.Challenge.cw_similarforms_k09_whole_common_divisors_holds
