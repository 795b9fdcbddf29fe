import PyProof.Rows.All
import Wide.All
import OpenK.AllK
import Wide.FinOn
import HandS.ForMost
import HandS.Exc
import HandS.TryMany
import HandS.ExcField
import HandS.ExcIs
import HandS.ExcInit
import HandS.ExcSuper
import HandS.WordsExc
import HandS.Gcd
import HandS.Wide
import HandS.IsInst
import HandS.TupMul
import HandS.TupAny
import HandS.Style
import HandS.Flow
import HandS.Lambda
import HandS.Rev
import HandS.SetKeys
import HandS.SortKw
import KE.KDictKeyed
import KE.KeyNested
import KE.KDictWalk
import KE.KDictList
import KE.KDictCopyH
import PyProof.ReprRoads
import KE.GoesMore
import KE.KSuper
import KE.KExcSuper
import HandS.DictSubView
import KE.SortKeyHeap
import PyProof.ReprBulk
import HandS.EndTab
import KE.KExcIs
import HandS.TupLe
import KE.KNestM
import PySem.Challenge.RW_stepswithin_k65_whole_relations_of_words
set_option Elab.async false
set_option linter.all false
set_option maxRecDepth 100000
set_option maxHeartbeats 8000000
set_option exponentiation.threshold 10000
namespace K65
/-! Polynomials over Rat as lists; a list is told by its values (identity theorem). -/
def ev : List Rat → Rat → Rat
  | [], _ => 0
  | a :: r, x => a + x * ev r x
def Zs (L : List Rat) : Prop := ∀ c ∈ L, c = 0
theorem Zs.cons {a : Rat} {L : List Rat} (h : a = 0) (t : Zs L) : Zs (a :: L) := fun c hc => by
  rcases List.mem_cons.mp hc with rfl | hc
  · exact h
  · exact t c hc
theorem Zs.ev {L : List Rat} (h : Zs L) (x : Rat) : ev L x = 0 := by
  induction L with
  | nil => rfl
  | cons a r ih =>
    have h1 : a = 0 := h a List.mem_cons_self
    have h2 := ih fun c hc => h c (List.mem_cons_of_mem _ hc)
    show a + x * K65.ev r x = 0
    rw [h1, h2]; grind
def syn (r : Rat) : List Rat → List Rat
  | [] => []
  | [_] => []
  | _ :: b :: l => ev (b :: l) r :: syn r (b :: l)
theorem syn_len (r : Rat) : ∀ L : List Rat, (syn r L).length = L.length - 1
  | [] => rfl
  | [_] => rfl
  | _ :: b :: l => by
    have := syn_len r (b :: l)
    show (syn r (b :: l)).length + 1 = l.length + 1 + 1 - 1
    rw [this]; simp
theorem syn_ev (r x : Rat) : ∀ L : List Rat, ev L x - ev L r = (x - r) * ev (syn r L) x
  | [] => by simp only [ev, syn]; grind
  | [a] => by simp only [ev, syn]; grind
  | a :: b :: l => by
    have ih := syn_ev r x (b :: l)
    have e1 : ev (a :: b :: l) x = a + x * ev (b :: l) x := rfl
    have e2 : ev (a :: b :: l) r = a + r * ev (b :: l) r := rfl
    have e3 : ev (syn r (a :: b :: l)) x = ev (b :: l) r + x * ev (syn r (b :: l)) x := rfl
    rw [e1, e2, e3]
    generalize ev (b :: l) x = u at *
    generalize ev (b :: l) r = v at *
    generalize ev (syn r (b :: l)) x = z at *
    grind
theorem syn_zero (r : Rat) : ∀ (a : Rat) (l : List Rat), Zs (syn r (a :: l)) → Zs l
  | _, [], _ => fun _ h => by cases h
  | a, b :: l, h => by
    have h1 : ev (b :: l) r = 0 := h _ List.mem_cons_self
    have h2 : Zs l := syn_zero r b l fun c hc => h c (List.mem_cons_of_mem _ hc)
    refine .cons ?_ h2
    have e : ev (b :: l) r = b + r * ev l r := rfl
    rw [e, h2.ev r] at h1
    grind
theorem zero_of : ∀ (n : Nat) (L : List Rat) (m : Nat), L.length ≤ n → (∀ k : Nat, m ≤ k → ev L (k : Rat) = 0) → Zs L
  | 0, L, _, hl, _ => by
    cases L with
    | nil => intro c hc; cases hc
    | cons a l => simp at hl
  | n + 1, [], _, _, _ => fun c hc => by cases hc
  | n + 1, a :: l, m, hl, h => by
    have hz : Zs (syn (m : Rat) (a :: l)) := by
      refine zero_of n _ (m + 1) (by rw [syn_len]; simp only [List.length_cons] at hl ⊢; omega) fun k hk => ?_
      have e := syn_ev (m : Rat) (k : Rat) (a :: l)
      rw [h k (by omega), h m (by omega)] at e
      have ne : (k : Rat) - (m : Rat) ≠ 0 := by
        intro z
        have : (k : Rat) = (m : Rat) := by grind
        have := Rat.natCast_inj.mp this
        omega
      have e' : ((k : Rat) - (m : Rat)) * ev (syn (m : Rat) (a :: l)) (k : Rat) = 0 := by grind
      rcases Rat.mul_eq_zero.mp e' with z | z
      · exact absurd z ne
      · exact z
    have h2 := syn_zero _ a l hz
    refine .cons ?_ h2
    have h0 := h m (Nat.le_refl _)
    have e : ev (a :: l) (m : Rat) = a + (m : Rat) * ev l (m : Rat) := rfl
    rw [e, h2.ev] at h0
    grind
theorem zero_of_ev {L : List Rat} (h : ∀ x, ev L x = 0) : Zs L := zero_of L.length L 0 (Nat.le_refl _) fun _ _ => h _
/-- the difference -/
def subL : List Rat → List Rat → List Rat
  | [], q => q.map fun c => -c
  | p, [] => p
  | a :: p, b :: q => (a - b) :: subL p q
theorem ev_neg (x : Rat) : ∀ q : List Rat, ev (q.map fun c => -c) x = - ev q x
  | [] => by simp only [List.map_nil, ev]; grind
  | b :: q => by
    have ih := ev_neg x q
    simp only [List.map_cons, ev]
    rw [ih]; grind
theorem ev_sub (x : Rat) : ∀ p q : List Rat, ev (subL p q) x = ev p x - ev q x
  | [], q => by simp only [subL, ev_neg, ev]; grind
  | a :: p, [] => by simp only [subL, ev]; grind
  | a :: p, b :: q => by
    have ih := ev_sub x p q
    simp only [subL, ev]
    rw [ih]; grind
/-- the last one is not 0 -/
def Tp (L : List Rat) : Prop := ∀ c, L.getLast? = some c → c ≠ 0
theorem Tp.tail {a : Rat} {l : List Rat} (h : Tp (a :: l)) : Tp l := fun c hc => by
  cases l with
  | nil => cases hc
  | cons b r => exact h c (by rw [List.getLast?_cons_cons]; exact hc)
theorem not_Zs_Tp {L : List Rat} (h : Zs L) (t : Tp L) : L = [] := by
  cases e : L.getLast? with
  | none => exact List.getLast?_eq_none_iff.mp e
  | some c => exact absurd (h c (List.mem_of_getLast? e)) (t c e)
theorem eq_of_sub : ∀ p q : List Rat, Zs (subL p q) → Tp p → Tp q → p = q
  | [], q, h, _, tq => by
    have : Zs q := fun c hc => by
      have := h (-c) (by simp only [subL]; exact List.mem_map.mpr ⟨c, hc, rfl⟩)
      grind
    exact (not_Zs_Tp this tq).symm
  | a :: p, [], h, tp, _ => not_Zs_Tp (L := a :: p) (by simpa only [subL] using h) tp
  | a :: p, b :: q, h, tp, tq => by
    have e : a = b := by
      have := h (a - b) (by simp [subL])
      grind
    have : p = q := eq_of_sub p q (fun c hc => h c (by simp [subL, hc])) tp.tail tq.tail
    rw [e, this]
/-- THE IDENTITY THEOREM -/
theorem eq_of_ev {p q : List Rat} (tp : Tp p) (tq : Tp q) (h : ∀ x, ev p x = ev q x) : p = q :=
  eq_of_sub p q (zero_of_ev fun x => by rw [ev_sub, h x]; grind) tp tq
theorem eq_of_sub_len : ∀ p q : List Rat, Zs (subL p q) → p.length = q.length → p = q
  | [], [], _, _ => rfl
  | [], _ :: _, _, h => by simp at h
  | _ :: _, [], _, h => by simp at h
  | a :: p, b :: q, h, hl => by
    have e : a = b := by
      have := h (a - b) (by simp [subL])
      grind
    have : p = q := eq_of_sub_len p q (fun c hc => h c (by simp [subL, hc])) (by simpa using hl)
    rw [e, this]
theorem eq_of_ev_len {p q : List Rat} (hl : p.length = q.length) (h : ∀ x, ev p x = ev q x) : p = q :=
  eq_of_sub_len p q (zero_of_ev fun x => by rw [ev_sub, h x]; grind) hl
/-! ### sums and products -/
def addL : List Rat → List Rat → List Rat
  | [], q => q
  | p, [] => p
  | a :: p, b :: q => (a + b) :: addL p q
theorem addL_nil (p : List Rat) : addL p [] = p := by cases p <;> rfl
theorem ev_add (x : Rat) : ∀ p q : List Rat, ev (addL p q) x = ev p x + ev q x
  | [], q => by simp only [addL, ev]; grind
  | a :: p, [] => by simp only [addL, ev]; grind
  | a :: p, b :: q => by
    have ih := ev_add x p q
    simp only [addL, ev]
    rw [ih]; grind
theorem addL_len : ∀ p q : List Rat, (addL p q).length = max p.length q.length
  | [], q => by simp [addL]
  | a :: p, [] => by simp [addL]
  | a :: p, b :: q => by simp only [addL, List.length_cons, addL_len p q]; omega
theorem addL_get : ∀ (p q : List Rat) (i : Nat), i < max p.length q.length → (addL p q)[i]? = some (p.getD i 0 + q.getD i 0)
  | [], q, i, h => by
    have h' : i < q.length := by simpa using h
    simp only [addL, List.getD, List.getElem?_eq_getElem h', List.getElem?_nil, Option.getD_none, Option.getD_some]
    congr 1; grind
  | a :: p, [], i, h => by
    have h' : i < (a :: p).length := by simpa using h
    simp only [addL, List.getD, List.getElem?_eq_getElem h', List.getElem?_nil, Option.getD_none, Option.getD_some]
    congr 1; grind
  | a :: p, b :: q, 0, _ => by simp [addL, List.getD]
  | a :: p, b :: q, i + 1, h => by
    have := addL_get p q i (by simp only [List.length_cons] at h; omega)
    simpa [addL, List.getD] using this
def scl (a : Rat) (q : List Rat) : List Rat := q.map fun b => a * b
theorem ev_scl (a x : Rat) : ∀ q : List Rat, ev (scl a q) x = a * ev q x
  | [] => by simp only [scl, List.map_nil, ev]; grind
  | b :: q => by
    have ih := ev_scl a x q
    unfold scl at ih
    simp only [scl, List.map_cons, ev]
    rw [ih]; grind
def mul : List Rat → List Rat → List Rat
  | [], _ => []
  | [a], q => scl a q
  | a :: b :: p, q => addL (scl a q) (0 :: mul (b :: p) q)
theorem ev_mul (x : Rat) : ∀ p q : List Rat, ev (mul p q) x = ev p x * ev q x
  | [], q => by simp only [mul, ev]; grind
  | [a], q => by simp only [mul, ev_scl, ev]; grind
  | a :: b :: p, q => by
    have ih := ev_mul x (b :: p) q
    have e : ev (mul (a :: b :: p) q) x = ev (scl a q) x + (0 + x * ev (mul (b :: p) q) x) := by
      show ev (addL (scl a q) (0 :: mul (b :: p) q)) x = _
      rw [ev_add]; rfl
    have e2 : ev (a :: b :: p) x = a + x * ev (b :: p) x := rfl
    rw [e, e2, ih, ev_scl]
    generalize ev (b :: p) x = u
    generalize ev q x = v
    grind
theorem mul_len : ∀ p q : List Rat, p ≠ [] → q ≠ [] → (mul p q).length = p.length + q.length - 1
  | [], _, h, _ => absurd rfl h
  | [a], q, _, _ => by simp [mul, scl]
  | a :: b :: p, q, _, hq => by
    have ih := mul_len (b :: p) q (by simp) hq
    show (addL (scl a q) (0 :: mul (b :: p) q)).length = _
    rw [addL_len, List.length_cons, ih]
    simp only [scl, List.length_map, List.length_cons]
    have : 0 < q.length := List.length_pos_iff.mpr hq
    omega
theorem Tp.of_last {L : List Rat} {c : Rat} (h : L.getLast? = some c) (hc : c ≠ 0) : Tp L := fun d hd => by
  rw [h] at hd; cases hd; exact hc
theorem addL_last : ∀ (p q : List Rat), p.length < q.length → (addL p q).getLast? = q.getLast?
  | [], q, _ => rfl
  | a :: p, [], h => by simp at h
  | a :: p, [b], h => by simp at h
  | a :: p, b :: c :: q, h => by
    have ih := addL_last p (c :: q) (by simp only [List.length_cons] at h ⊢; omega)
    show ((a + b) :: addL p (c :: q)).getLast? = _
    cases e : addL p (c :: q) with
    | nil =>
      have := addL_len p (c :: q)
      rw [e] at this
      simp only [List.length_cons, List.length_nil] at this
      omega
    | cons d r => rw [List.getLast?_cons_cons, List.getLast?_cons_cons, ← e, ih]
theorem addL_last' (p q : List Rat) (h : q.length < p.length) : (addL p q).getLast? = p.getLast? := by
  have e : addL p q = addL q p := by
    clear h
    induction p generalizing q with
    | nil => exact (addL_nil q).symm
    | cons a p ih =>
      cases q with
      | nil => rfl
      | cons b q =>
        show (a + b) :: addL p q = (b + a) :: addL q p
        rw [ih q, Rat.add_comm]
  rw [e]
  exact addL_last q p h
theorem mul_Tp : ∀ p q : List Rat, q ≠ [] → Tp p → Tp q → Tp (mul p q)
  | [], q, _, _, _ => fun c hc => by cases hc
  | [a], q, _, hp, hq => fun c hc => by
    have ha : a ≠ 0 := hp a rfl
    simp only [mul, scl, List.getLast?_map] at hc
    cases e : q.getLast? with
    | none => rw [e] at hc; cases hc
    | some d =>
      rw [e] at hc
      have hd := hq d e
      have : c = a * d := by simpa using hc.symm
      rw [this]
      intro z
      rcases Rat.mul_eq_zero.mp z with z | z
      · exact ha z
      · exact hd z
  | a :: b :: p, q, hq0, hp, hq => by
    have ih := mul_Tp (b :: p) q hq0 hp.tail hq
    have hlen := mul_len (b :: p) q (by simp) hq0
    have hpos : 0 < q.length := List.length_pos_iff.mpr hq0
    intro c hc
    have hl : (scl a q).length < (0 :: mul (b :: p) q).length := by
      rw [List.length_cons, hlen]
      simp only [scl, List.length_map, List.length_cons]; omega
    have e : (mul (a :: b :: p) q).getLast? = (0 :: mul (b :: p) q).getLast? := addL_last _ _ hl
    rw [e] at hc
    cases em : mul (b :: p) q with
    | nil =>
      rw [em] at hlen
      simp only [List.length_cons, List.length_nil] at hlen
      omega
    | cons u v =>
      rw [em, List.getLast?_cons_cons, ← em] at hc
      exact ih c hc
/-! ### the loops of a product -/
def inn {R : Type} [Add R] [Mul R] [OfNat R 0] (F : List R) (near : Nat) (a : R) : List R → Nat → List R
  | [], _ => F
  | b :: q, far => inn (F.set (near + far) (F.getD (near + far) 0 + a * b)) near a q (far + 1)
def out {R : Type} [Add R] [Mul R] [OfNat R 0] (F : List R) (q : List R) : List R → Nat → List R
  | [], _ => F
  | a :: p, near => out (inn F near a q 0) q p (near + 1)
section
variable {R : Type} [Add R] [Mul R] [OfNat R 0]
theorem inn_len (near : Nat) (a : R) : ∀ (q F : List R) (far : Nat), (inn F near a q far).length = F.length
  | [], _, _ => rfl
  | b :: q, F, far => by
    show (inn _ near a q (far + 1)).length = _
    rw [inn_len near a q]; simp
theorem out_len (q : List R) : ∀ (p F : List R) (near : Nat), (out F q p near).length = F.length
  | [], _, _ => rfl
  | a :: p, F, near => by
    show (out _ q p (near + 1)).length = _
    rw [out_len q p, inn_len]
/-- the loops' states, from the last turn -/
theorem inn_snoc (near : Nat) (a : R) : ∀ (q : List R) (F : List R) (far : Nat) (b : R), inn F near a (q ++ [b]) far =
    (inn F near a q far).set (near + (far + q.length)) ((inn F near a q far).getD (near + (far + q.length)) 0 + a * b)
  | [], F, far, b => rfl
  | c :: q, F, far, b => by
    show inn _ near a (q ++ [b]) (far + 1) = _
    rw [inn_snoc near a q _ (far + 1) b]
    have e : far + 1 + q.length = far + (c :: q).length := by rw [List.length_cons]; omega
    rw [e]; rfl
theorem out_snoc (q : List R) : ∀ (p : List R) (F : List R) (near : Nat) (a : R), out F q (p ++ [a]) near = inn (out F q p near) (near + p.length) a q 0
  | [], F, near, a => rfl
  | c :: p, F, near, a => by
    show out _ q (p ++ [a]) (near + 1) = _
    rw [out_snoc q p _ (near + 1) a]
    have e : near + 1 + p.length = near + (c :: p).length := by rw [List.length_cons]; omega
    rw [e]; rfl
end
/-- a map that keeps the step -/
theorem inn_map {R S : Type} [Add R] [Mul R] [OfNat R 0] [Add S] [Mul S] [OfNat S 0] (f g h : R → S) (f0 : f 0 = 0) (fs : ∀ x a b, f (x + a * b) = f x + g a * h b) (near : Nat) (a : R) :
    ∀ (q F : List R) (far : Nat), (inn F near a q far).map f = inn (F.map f) near (g a) (q.map h) far
  | [], _, _ => rfl
  | b :: q, F, far => by
    show (inn _ near a q (far + 1)).map f = inn _ near (g a) (q.map h) (far + 1)
    rw [inn_map f g h f0 fs near a q, List.map_set, fs]
    congr 3
    simp only [List.getD, List.getElem?_map]
    cases F[near + far]? <;> simp [f0]
theorem out_map {R S : Type} [Add R] [Mul R] [OfNat R 0] [Add S] [Mul S] [OfNat S 0] (f g h : R → S) (f0 : f 0 = 0) (fs : ∀ x a b, f (x + a * b) = f x + g a * h b) (q : List R) :
    ∀ (p F : List R) (near : Nat), (out F q p near).map f = out (F.map f) (q.map h) (p.map g) near
  | [], _, _ => rfl
  | a :: p, F, near => by
    show (out _ q p (near + 1)).map f = out _ (q.map h) (p.map g) (near + 1)
    rw [out_map f g h f0 fs q p, inn_map f g h f0 fs]
theorem ev_set (x v : Rat) : ∀ (F : List Rat) (k : Nat), k < F.length → ev (F.set k (F.getD k 0 + v)) x = ev F x + v * x ^ k
  | [], _, h => by simp at h
  | a :: F, 0, _ => by
    simp only [List.set_cons_zero, List.getD_cons_zero, ev, Rat.pow_zero]; grind
  | a :: F, k + 1, h => by
    have ih := ev_set x v F k (by simpa using h)
    simp only [List.set_cons_succ, List.getD_cons_succ, ev, ih, Rat.pow_succ]
    generalize x ^ k = u
    generalize ev F x = e
    grind
theorem ev_inn (x a : Rat) (near : Nat) : ∀ (q F : List Rat) (far : Nat), near + far + q.length ≤ F.length → ev (inn F near a q far) x = ev F x + a * x ^ (near + far) * ev q x
  | [], F, far, _ => by simp only [inn, ev]; grind
  | b :: q, F, far, h => by
    rw [List.length_cons] at h
    have ih := ev_inn x a near q (F.set (near + far) (F.getD (near + far) 0 + a * b)) (far + 1) (by rw [List.length_set]; omega)
    show ev (inn _ near a q (far + 1)) x = _
    rw [ih, ev_set x (a * b) F (near + far) (by omega)]
    have e : x ^ (near + (far + 1)) = x ^ (near + far) * x := by rw [← Nat.add_assoc, Rat.pow_succ]
    have e2 : ev (b :: q) x = b + x * ev q x := rfl
    rw [e, e2]
    generalize x ^ (near + far) = u
    generalize ev F x = v
    generalize ev q x = z
    grind
theorem ev_out (x : Rat) (q : List Rat) : ∀ (p F : List Rat) (near : Nat), near + p.length + q.length ≤ F.length + 1 → ev (out F q p near) x = ev F x + x ^ near * ev p x * ev q x
  | [], F, near, _ => by simp only [out, ev]; grind
  | a :: p, F, near, h => by
    rw [List.length_cons] at h
    have ih := ev_out x q p (inn F near a q 0) (near + 1) (by rw [inn_len]; omega)
    show ev (out _ q p (near + 1)) x = _
    rw [ih, ev_inn x a near q F 0 (by omega)]
    have e2 : ev (a :: p) x = a + x * ev p x := rfl
    rw [e2, Rat.pow_succ, Nat.add_zero]
    generalize x ^ near = u
    generalize ev F x = v
    generalize ev q x = z
    generalize ev p x = w
    grind
theorem ev_zeros (x : Rat) (n : Nat) : ev (List.replicate n 0) x = 0 := Zs.ev (fun c hc => (List.mem_replicate.mp hc).2) x
def conv (p q : List Rat) : List Rat := out (List.replicate (p.length + q.length - 1) 0) q p 0
theorem conv_eq {p q : List Rat} (hp : p ≠ []) (hq : q ≠ []) : conv p q = mul p q := by
  have h1 : 0 < p.length := List.length_pos_iff.mpr hp
  have h2 : 0 < q.length := List.length_pos_iff.mpr hq
  refine eq_of_ev_len ?_ fun x => ?_
  · unfold conv
    rw [out_len, List.length_replicate, mul_len p q hp hq]
  · unfold conv
    rw [ev_out x q p _ 0 (by rw [List.length_replicate]; omega), ev_zeros, ev_mul, Rat.pow_zero]
    generalize ev q x = z
    generalize ev p x = w
    grind
/-! ### trimming -/
def dropZ : List Rat → List Rat
  | [] => []
  | [a] => [a]
  | a :: b :: r => if a = 0 then dropZ (b :: r) else a :: b :: r
def trimR (L : List Rat) : List Rat := (dropZ L.reverse).reverse
theorem trimR_turn {L : List Rat} (h : 1 < L.length) (h0 : L.getLast? = some 0) : trimR L = trimR L.dropLast := by
  unfold trimR
  rw [← List.tail_reverse]
  have hl : L.reverse.length = L.length := List.length_reverse
  cases e : L.reverse with
  | nil => rw [e] at hl; simp only [List.length_nil] at hl; omega
  | cons a r =>
    cases r with
    | nil => rw [e] at hl; simp only [List.length_cons, List.length_nil] at hl; omega
    | cons b r =>
      have ha : a = 0 := by
        have : L.reverse.head? = some 0 := by rw [List.head?_reverse]; exact h0
        rw [e] at this
        simpa using this
      rw [List.tail_cons]
      show (if a = 0 then dropZ (b :: r) else a :: b :: r).reverse = _
      rw [if_pos ha]
theorem trimR_stop {L : List Rat} (h : L.length ≤ 1 ∨ L.getLast? ≠ some 0) : trimR L = L := by
  unfold trimR
  have e2 : dropZ L.reverse = L.reverse := by
    cases e : L.reverse with
    | nil => rfl
    | cons a r =>
      cases r with
      | nil => rfl
      | cons b r =>
        show (if a = 0 then dropZ (b :: r) else a :: b :: r) = _
        have ha : a ≠ 0 := fun z => by
          rcases h with h | h
          · have : L.reverse.length = L.length := List.length_reverse
            rw [e] at this
            simp only [List.length_cons] at this
            omega
          · have : L.reverse.head? = L.getLast? := List.head?_reverse
            rw [e, z] at this
            exact h (by rw [← this]; rfl)
        rw [if_neg ha]
  rw [e2, List.reverse_reverse]
theorem trimR_Tp {L : List Rat} (h : Tp L) : trimR L = L := trimR_stop (.inr fun z => h 0 z rfl)
theorem trimR_zeros : ∀ n : Nat, trimR (List.replicate (n + 1) 0) = [0]
  | 0 => rfl
  | n + 1 => by
    rw [trimR_turn (by simp) (by simp [List.getLast?_replicate])]
    rw [List.dropLast_replicate]
    exact trimR_zeros n
/-! ### the law's own -/
def lawSum (p q : List Rat) : List Rat := trimR (addL p q)
def lawProd (p q : List Rat) : List Rat := trimR (conv p q)
def horL (inner f : List Rat) (c : Rat) : List Rat := lawSum (lawProd f inner) [c]
def lawWithin (inner outer : List Rat) : List Rat := outer.reverse.foldl (horL inner) [0]
def lawWhole : List (List Rat) → List Rat
  | [] => []
  | a :: r => r.foldl lawWithin a
/-- a step -/
def Good (L : List Rat) : Prop := 2 ≤ L.length ∧ Tp L
theorem horL_good {inner f : List Rat} {c : Rat} (hi : Good inner) (hf : f ≠ []) (tf : Tp f) : horL inner f c = addL (mul f inner) [c] ∧ Good (addL (mul f inner) [c]) ∧ (horL inner f c).length = f.length + inner.length - 1 := by
  have ni : inner ≠ [] := fun z => by rw [z] at hi; exact absurd hi.1 (by decide)
  have h1 : 0 < f.length := List.length_pos_iff.mpr hf
  have tm : Tp (mul f inner) := mul_Tp f inner ni tf hi.2
  have lm := mul_len f inner hf ni
  have hi1 := hi.1
  have e1 : lawProd f inner = mul f inner := by
    unfold lawProd
    rw [conv_eq hf ni, trimR_Tp tm]
  have la : (addL (mul f inner) [c]).length = f.length + inner.length - 1 := by
    rw [addL_len, lm, List.length_singleton]; omega
  have ta : Tp (addL (mul f inner) [c]) := fun d hd => by
    rw [addL_last' _ _ (by rw [lm, List.length_singleton]; omega)] at hd
    exact tm d hd
  have e2 : horL inner f c = addL (mul f inner) [c] := by
    unfold horL lawSum
    rw [e1, trimR_Tp ta]
  exact ⟨e2, ⟨by rw [la]; omega, ta⟩, by rw [e2, la]⟩
theorem horL_zero {inner : List Rat} (c : Rat) (hi : Good inner) : horL inner [0] c = [c] := by
  have ni : inner ≠ [] := fun z => by rw [z] at hi; exact absurd hi.1 (by decide)
  have e0 : mul [0] inner = List.replicate inner.length 0 := by
    show scl 0 inner = _
    unfold scl
    refine List.eq_replicate_iff.mpr ⟨by simp, fun b hb => ?_⟩
    obtain ⟨d, _, rfl⟩ := List.mem_map.mp hb
    grind
  have e1 : lawProd [0] inner = [0] := by
    unfold lawProd
    rw [conv_eq (by simp) ni, e0]
    obtain ⟨n, hn⟩ : ∃ n, inner.length = n + 1 := ⟨inner.length - 1, by have := hi.1; omega⟩
    rw [hn, trimR_zeros]
  unfold horL
  rw [e1]
  show trimR [0 + c] = [c]
  rw [trimR_stop (.inl (by simp))]
  congr 1; grind
theorem ev_snoc : ∀ (l : List Rat) (c y : Rat), ev (l ++ [c]) y = ev l y + c * y ^ l.length := by
  intro l
  induction l with
  | nil => intro c y; simp only [List.nil_append, ev, List.length_nil, Rat.pow_zero]; grind
  | cons a l ih => intro c y; simp only [List.cons_append, ev, ih, List.length_cons, Rat.pow_succ]; generalize y ^ l.length = u; grind
/-- putting in: the values, and a step again -/
theorem lawWithin_good {inner outer : List Rat} (hi : Good inner) (ho : Good outer) : Good (lawWithin inner outer) ∧ (lawWithin inner outer).length = (outer.length - 1) * (inner.length - 1) + 1 ∧ ∀ x, ev (lawWithin inner outer) x = ev outer (ev inner x) := by
  have hi1 := hi.1
  -- from the head down
  have main : ∀ (r f : List Rat), f ≠ [] → Tp f → (r ≠ [] ∨ 2 ≤ f.length) → Good (r.foldl (horL inner) f) ∧ (r.foldl (horL inner) f).length = f.length + r.length * (inner.length - 1) ∧
      ∀ x, ev (r.foldl (horL inner) f) x = ev (r.reverse) (ev inner x) + (ev inner x) ^ r.length * ev f x := by
    intro r
    induction r with
    | nil =>
      intro f hf tf h
      have h2 : 2 ≤ f.length := h.resolve_left (fun z => z rfl)
      refine ⟨⟨h2, tf⟩, by simp, fun x => ?_⟩
      simp only [List.foldl_nil, List.reverse_nil, ev, List.length_nil, Rat.pow_zero]
      grind
    | cons c r ih =>
      intro f hf tf _
      obtain ⟨e, g, l⟩ := horL_good (c := c) hi hf tf
      have g' : Good (horL inner f c) := by rw [e]; exact g
      have n' : horL inner f c ≠ [] := fun z => by have := g'.1; rw [z] at this; exact absurd this (by decide)
      obtain ⟨h1, h2, h3⟩ := ih (horL inner f c) n' g'.2 (.inr g'.1)
      refine ⟨h1, ?_, fun x => ?_⟩
      · rw [List.foldl_cons, h2, l, List.length_cons, Nat.succ_mul]
        have : 0 < f.length := List.length_pos_iff.mpr hf
        omega
      · rw [List.foldl_cons, h3 x, e, ev_add, ev_mul, List.reverse_cons]
        rw [ev_snoc, List.length_reverse, List.length_cons, Rat.pow_succ]
        have e1 : ev [c] x = c := by simp only [ev]; grind
        rw [e1]
        generalize ev inner x = y
        generalize y ^ r.length = u
        generalize ev f x = v
        grind
  have ho1 := ho.1
  have hrl : outer.reverse.length = outer.length := List.length_reverse
  cases e : outer.reverse with
  | nil => rw [e] at hrl; simp only [List.length_nil] at hrl; omega
  | cons c r =>
    have hc : c ≠ 0 := by
      refine ho.2 c ?_
      rw [← List.head?_reverse, e]; rfl
    have hr : r ≠ [] := fun z => by
      rw [e, z] at hrl; simp only [List.length_cons, List.length_nil] at hrl; omega
    have ew : lawWithin inner outer = r.foldl (horL inner) [c] := by
      unfold lawWithin
      rw [e, List.foldl_cons, horL_zero c hi]
    obtain ⟨h1, h2, h3⟩ := main r [c] (by simp) (Tp.of_last rfl hc) (.inl hr)
    refine ⟨by rw [ew]; exact h1, ?_, fun x => ?_⟩
    · rw [ew, h2, List.length_singleton]
      rw [e] at hrl
      rw [List.length_cons] at hrl
      rw [← hrl]
      simp only [Nat.add_sub_cancel]; omega
    · rw [ew, h3 x]
      have eo : outer = r.reverse ++ [c] := by
        have : outer = outer.reverse.reverse := (List.reverse_reverse outer).symm
        rw [this, e, List.reverse_cons]
      rw [eo, ev_snoc, List.length_reverse]
      simp only [ev]
      generalize ev inner x = y
      generalize y ^ r.length = u
      grind
/-! ### words -/
abbrev Word := List Nat
def den (rows : List (List Rat)) (w : Word) (x : Rat) : Rat := w.foldl (fun y i => ev (rows.getD i []) y) x
def wstep (rows : List (List Rat)) (w : Word) : List Rat := lawWhole (w.map fun i => rows.getD i [])
def InR (rows : List (List Rat)) (w : Word) : Prop := ∀ i ∈ w, i < rows.length
def Rows (rows : List (List Rat)) : Prop := ∀ r ∈ rows, Good r
theorem Rows.at {rows : List (List Rat)} (h : Rows rows) {i : Nat} (hi : i < rows.length) : Good (rows.getD i []) := by
  refine h _ ?_
  rw [List.getD, List.getElem?_eq_getElem hi]
  exact List.getElem_mem hi
theorem whole_good : ∀ (r : List (List Rat)) (a : List Rat), (∀ l ∈ r, Good l) → Good a → Good (r.foldl lawWithin a) ∧ ∀ x, ev (r.foldl lawWithin a) x = r.foldl (fun y l => ev l y) (ev a x)
  | [], a, _, ha => ⟨ha, fun _ => rfl⟩
  | b :: r, a, hr, ha => by
    obtain ⟨h1, _, h3⟩ := lawWithin_good ha (hr b List.mem_cons_self)
    obtain ⟨k1, k2⟩ := whole_good r (lawWithin a b) (fun l hl => hr l (List.mem_cons_of_mem _ hl)) h1
    refine ⟨k1, fun x => ?_⟩
    rw [List.foldl_cons, k2 x, List.foldl_cons, h3 x]
theorem wstep_good {rows : List (List Rat)} (h : Rows rows) {w : Word} (hw : w ≠ []) (hi : InR rows w) : Good (wstep rows w) ∧ ∀ x, ev (wstep rows w) x = den rows w x := by
  cases w with
  | nil => exact absurd rfl hw
  | cons i w =>
    obtain ⟨k1, k2⟩ := whole_good (w.map fun i => rows.getD i []) (rows.getD i []) (fun l hl => by
      obtain ⟨j, hj, rfl⟩ := List.mem_map.mp hl
      exact h.at (hi j (List.mem_cons_of_mem _ hj))) (h.at (hi i List.mem_cons_self))
    refine ⟨k1, fun x => ?_⟩
    show ev ((w.map fun i => rows.getD i []).foldl lawWithin (rows.getD i [])) x = _
    rw [k2 x, List.foldl_map]
    rfl
/-- a list that is trimmed and has a word's values is the word's step -/
theorem eq_wstep {rows : List (List Rat)} (h : Rows rows) {w : Word} (hw : w ≠ []) (hi : InR rows w) {L : List Rat} (tl : Tp L) (hv : ∀ x, ev L x = den rows w x) : L = wstep rows w := by
  obtain ⟨g, e⟩ := wstep_good h hw hi
  exact eq_of_ev tl g.2 fun x => (hv x).trans (e x).symm
theorem wstep_iff {rows : List (List Rat)} (h : Rows rows) {u v : Word} (hu : u ≠ []) (iu : InR rows u) (hv : v ≠ []) (iv : InR rows v) : wstep rows u = wstep rows v ↔ ∀ x, den rows u x = den rows v x := by
  obtain ⟨gu, eu⟩ := wstep_good h hu iu
  obtain ⟨gv, ev'⟩ := wstep_good h hv iv
  constructor
  · intro e x
    rw [← eu x, ← ev' x, e]
  · intro e
    exact eq_of_ev gu.2 gv.2 fun x => by rw [eu x, ev' x, e x]
/-! ### what is done first may be struck out -/
theorem cancel {f g P : List Rat} (hP : Good P) (h : ∀ x, ev f (ev P x) = ev g (ev P x)) : ∀ x, ev f x = ev g x := by
  -- the difference, trimmed
  have key : ∀ (n : Nat) (D : List Rat), D.length ≤ n → (∀ x, ev D (ev P x) = 0) → Zs D := by
    intro n
    induction n with
    | zero =>
      intro D hl _
      cases D with
      | nil => intro c hc; cases hc
      | cons a l => simp at hl
    | succ n ih =>
      intro D hl hD
      cases e : D.getLast? with
      | none =>
        rw [List.getLast?_eq_none_iff.mp e]
        intro c hc; cases hc
      | some c =>
        have eD : D = D.dropLast ++ [c] := by
          rw [List.getLast?_eq_some_iff] at e
          obtain ⟨ys, rfl⟩ := e
          rw [List.dropLast_concat]
        by_cases hc : c = 0
        · have hl2 : D.dropLast.length ≤ n := by rw [List.length_dropLast]; omega
          have : Zs D.dropLast := by
            refine ih _ hl2 fun x => ?_
            have := hD x
            rw [eD, ev_snoc, hc] at this
            generalize ev P x = y at *
            grind
          rw [eD]
          intro d hd
          rcases List.mem_append.mp hd with hd | hd
          · exact this d hd
          · rw [List.mem_singleton.mp hd, hc]
        · have tD : Tp D := Tp.of_last e hc
          by_cases h2 : 2 ≤ D.length
          · obtain ⟨gw, _, ew⟩ := lawWithin_good hP (⟨h2, tD⟩ : Good D)
            have z : Zs (lawWithin P D) := zero_of_ev fun x => by rw [ew x, hD x]
            have := not_Zs_Tp z gw.2
            have h3 := gw.1
            rw [this] at h3
            exact absurd h3 (by decide)
          · have : D.dropLast = [] := by
              rw [← List.length_eq_zero_iff, List.length_dropLast]; omega
            rw [this] at eD
            have z := hD 0
            rw [eD] at z
            simp only [List.nil_append, ev] at z
            exact absurd (by generalize ev P 0 = y at *; grind) hc
  intro x
  have z := key _ (subL f g) (Nat.le_refl _) fun x => by rw [ev_sub, h x]; grind
  have := z.ev x
  rw [ev_sub] at this
  grind
theorem den_append (rows : List (List Rat)) (p w : Word) (x : Rat) : den rows (p ++ w) x = den rows w (den rows p x) := by
  unfold den; rw [List.foldl_append]
/-- a common beginning -/
theorem den_strike {rows : List (List Rat)} (h : Rows rows) {p u v : Word} (ip : InR rows p) (e : ∀ x, den rows (p ++ u) x = den rows (p ++ v) x) (iu : InR rows u) (iv : InR rows v) : ∀ x, den rows u x = den rows v x := by
  cases p with
  | nil => exact e
  | cons a p =>
    obtain ⟨gp, ep⟩ := wstep_good h (by simp) ip
    have rep : ∀ {w : Word}, InR rows w → ∃ f : List Rat, ∀ x, ev f x = den rows w x := fun {w} iw => by
      cases w with
      | nil => exact ⟨[0, 1], fun x => by simp only [ev, den, List.foldl_nil]; grind⟩
      | cons b w => exact ⟨_, (wstep_good h (by simp) iw).2⟩
    obtain ⟨f, hf⟩ := rep iu
    obtain ⟨g, hg⟩ := rep iv
    have := cancel (f := f) (g := g) gp fun x => by
      rw [hf, hg, ep x, ← den_append, ← den_append, e x]
    intro x
    rw [← hf, ← hg, this x]
/-- THE FACT: two unlike words that are alike give a relation, or a word that is X -/
theorem relation_of {rows : List (List Rat)} (h : Rows rows) : ∀ {u v : Word}, u ≠ v → InR rows u → InR rows v → (∀ x, den rows u x = den rows v x) →
    (∃ w : Word, w ≠ [] ∧ (w <:+ u ∨ w <:+ v) ∧ ∀ x, den rows w x = x) ∨ (∃ u' v' : Word, u' ≠ [] ∧ v' ≠ [] ∧ u' <:+ u ∧ v' <:+ v ∧ u'.head? ≠ v'.head? ∧ ∀ x, den rows u' x = den rows v' x)
  | [], [], hn, _, _, _ => absurd rfl hn
  | [], b :: v, _, _, _, e => .inl ⟨b :: v, by simp, .inr (List.suffix_refl _), fun x => (e x).symm⟩
  | a :: u, [], _, _, _, e => .inl ⟨a :: u, by simp, .inl (List.suffix_refl _), fun x => e x⟩
  | a :: u, b :: v, hn, iu, iv, e => by
    by_cases hab : a = b
    · subst hab
      have e' : ∀ x, den rows u x = den rows v x := den_strike h (p := [a]) (u := u) (v := v) (fun i hi => iu i (by
        rw [List.mem_singleton.mp hi]; exact List.mem_cons_self)) e (fun i hi => iu i (List.mem_cons_of_mem _ hi)) (fun i hi => iv i (List.mem_cons_of_mem _ hi))
      rcases relation_of h (u := u) (v := v) (fun z => hn (by rw [z])) (fun i hi => iu i (List.mem_cons_of_mem _ hi)) (fun i hi => iv i (List.mem_cons_of_mem _ hi)) e' with ⟨w, h1, h2, h3⟩ | ⟨u', v', h1, h2, h3, h4, h5⟩
      · exact .inl ⟨w, h1, h2.imp (fun z => z.trans (List.suffix_cons _ _)) (fun z => z.trans (List.suffix_cons _ _)), h3⟩
      · exact .inr ⟨u', v', h1, h2, h3.trans (List.suffix_cons _ _), h4.trans (List.suffix_cons _ _), h5⟩
    · exact .inr ⟨a :: u, b :: v, by simp, by simp, List.suffix_refl _, List.suffix_refl _, fun z => hab (by simpa using z), e⟩
/-! ### fractions as the defs reckon them -/
theorem fr_num {a b : Int} (h : 0 < b) : a / ((Int.gcd a b : Nat) : Int) = (Rat.divInt a b).num := by
  rw [Rat.num_divInt, Int.sign_eq_one_of_pos h, Int.one_mul, Int.gcd_comm]
theorem fr_den {a b : Int} (h : 0 < b) : b / ((Int.gcd a b : Nat) : Int) = (((Rat.divInt a b).den : Nat) : Int) := by
  rw [Rat.den_divInt, if_neg (by omega), Int.gcd_comm]
  have e : b = ((b.natAbs : Nat) : Int) := by omega
  conv => lhs; rw [e]
  rw [Int.natCast_ediv]
  congr 2
theorem gcd_pos {a b : Int} (h : 0 < b) : (0 : Int) < ((Int.gcd a b : Nat) : Int) := by
  have : 0 < Int.gcd a b := Int.gcd_pos_of_ne_zero_right a (by omega)
  omega
theorem gcd_le {a b : Int} (h : 0 < b) : Int.gcd a b ≤ b.natAbs := Nat.le_of_dvd (by omega) (Nat.gcd_dvd_right _ _)
theorem add_fr (p q : Rat) : p + q = Rat.divInt (p.num * (q.den : Int) + q.num * (p.den : Int)) ((p.den : Int) * (q.den : Int)) := by
  rw [Rat.add_def', ← Rat.divInt_ofNat, Int.natCast_mul]
theorem mul_fr (p q : Rat) : p * q = Rat.divInt (p.num * q.num) ((p.den : Int) * (q.den : Int)) := by
  rw [Rat.mul_def', ← Rat.divInt_ofNat, Int.natCast_mul]
/-- small enough for the machine's * and // -/
def Sm (q : Rat) : Prop := q.num.natAbs < 2 ^ 4000 ∧ q.den < 2 ^ 4000
/-! ### sizes: a list over one common denominator -/
def S1 : List Int → Nat
  | [] => 0
  | k :: r => k.natAbs + S1 r
theorem S1_mem : ∀ {ks : List Int} {k : Int}, k ∈ ks → k.natAbs ≤ S1 ks
  | [], _, h => by cases h
  | a :: r, k, h => by
    rcases List.mem_cons.mp h with rfl | h
    · show k.natAbs ≤ k.natAbs + S1 r; omega
    · have := S1_mem h
      show k.natAbs ≤ a.natAbs + S1 r; omega
theorem S1_take : ∀ (n : Nat) (ks : List Int), S1 (ks.take n) ≤ S1 ks
  | 0, _ => Nat.zero_le _
  | _ + 1, [] => Nat.le_refl _
  | n + 1, a :: r => by
    have := S1_take n r
    show a.natAbs + S1 (r.take n) ≤ a.natAbs + S1 r; omega
theorem S1_take_get : ∀ (n : Nat) (ks : List Int), S1 (ks.take n) + (ks.getD n 0).natAbs ≤ S1 ks
  | 0, [] => by simp [S1]
  | 0, a :: r => by simp [S1]
  | _ + 1, [] => by simp [S1]
  | n + 1, a :: r => by
    have := S1_take_get n r
    simp only [List.take_succ_cons, List.getD_cons_succ, S1]; omega
theorem S1_zeros : ∀ n : Nat, S1 (List.replicate n 0) = 0
  | 0 => rfl
  | n + 1 => by
    show (0 : Int).natAbs + S1 (List.replicate n 0) = 0
    rw [S1_zeros n]; rfl
theorem S1_set (v : Int) : ∀ (F : List Int) (k : Nat), S1 (F.set k (F.getD k 0 + v)) ≤ S1 F + v.natAbs
  | [], _ => by simp [S1]
  | a :: F, 0 => by
    have : (a + v).natAbs ≤ a.natAbs + v.natAbs := Int.natAbs_add_le a v
    simp only [List.set_cons_zero, List.getD_cons_zero, S1]; omega
  | a :: F, k + 1 => by
    have := S1_set v F k
    simp only [List.set_cons_succ, List.getD_cons_succ, S1]; omega
theorem S1_inn (a : Int) (near : Nat) : ∀ (q F : List Int) (far : Nat), S1 (inn F near a q far) ≤ S1 F + a.natAbs * S1 q
  | [], F, _ => by simp [inn]
  | b :: q, F, far => by
    have h1 := S1_inn a near q (F.set (near + far) (F.getD (near + far) 0 + a * b)) (far + 1)
    have h2 := S1_set (a * b) F (near + far)
    rw [Int.natAbs_mul] at h2
    show S1 (inn _ near a q (far + 1)) ≤ S1 F + a.natAbs * (b.natAbs + S1 q)
    rw [Nat.mul_add]; omega
theorem S1_out (q : List Int) : ∀ (p F : List Int) (near : Nat), S1 (out F q p near) ≤ S1 F + S1 p * S1 q
  | [], F, _ => by simp [out]
  | a :: p, F, near => by
    have h1 := S1_out q p (inn F near a q 0) (near + 1)
    have h2 := S1_inn a near q F 0
    show S1 (out _ q p (near + 1)) ≤ S1 F + (a.natAbs + S1 p) * S1 q
    rw [Nat.add_mul]; omega
theorem S1_map_mul (c : Int) : ∀ ks : List Int, S1 (ks.map (· * c)) = S1 ks * c.natAbs
  | [] => by simp [S1]
  | a :: r => by
    have := S1_map_mul c r
    simp only [List.map_cons, S1, this, Int.natAbs_mul, Nat.add_mul]
def addZ : List Int → List Int → List Int
  | [], q => q
  | p, [] => p
  | a :: p, b :: q => (a + b) :: addZ p q
theorem S1_add : ∀ p q : List Int, S1 (addZ p q) ≤ S1 p + S1 q
  | [], q => by simp [addZ, S1]
  | a :: p, [] => by simp [addZ, S1]
  | a :: p, b :: q => by
    have := S1_add p q
    have : (a + b).natAbs ≤ a.natAbs + b.natAbs := Int.natAbs_add_le a b
    simp only [addZ, S1]; omega
/-- L is ks over D, both below 2 ^ b -/
def Bd (b : Nat) (L : List Rat) : Prop := ∃ (ks : List Int) (D : Nat), 0 < D ∧ D ≤ 2 ^ b ∧ S1 ks ≤ 2 ^ b ∧ L = ks.map fun k => mkRat k D
theorem Bd.mono {b c : Nat} {L : List Rat} (h : Bd b L) (hc : b ≤ c) : Bd c L := by
  obtain ⟨ks, D, h0, h1, h2, h3⟩ := h
  have := Nat.pow_le_pow_right (n := 2) (by decide) hc
  exact ⟨ks, D, h0, by omega, by omega, h3⟩
theorem Bd.mem {b : Nat} {L : List Rat} (h : Bd b L) {q : Rat} (hq : q ∈ L) : q.num.natAbs ≤ 2 ^ b ∧ q.den ≤ 2 ^ b := by
  obtain ⟨ks, D, h0, h1, h2, rfl⟩ := h
  obtain ⟨k, hk, rfl⟩ := List.mem_map.mp hq
  have hs := S1_mem hk
  constructor
  · rw [Rat.num_mkRat, if_neg (by omega)]
    have : (k / ((D.gcd k.natAbs : Nat) : Int)).natAbs ≤ k.natAbs := Int.natAbs_ediv_le_natAbs _ _
    omega
  · rw [Rat.den_mkRat, if_neg (by omega)]
    have := Nat.div_le_self D (D.gcd k.natAbs)
    omega
theorem Bd.sm {b : Nat} {L : List Rat} (h : Bd b L) (hb : b < 4000) {q : Rat} (hq : q ∈ L) : Sm q := by
  obtain ⟨h1, h2⟩ := h.mem hq
  have : (2 : Nat) ^ b < 2 ^ 4000 := Nat.pow_lt_pow_right (by decide) hb
  exact ⟨Nat.lt_of_le_of_lt h1 this, Nat.lt_of_le_of_lt h2 this⟩
theorem Sm.zero : Sm 0 := ⟨Nat.two_pow_pos _, Nat.one_lt_two_pow (by decide)⟩
theorem Bd.take {b : Nat} {L : List Rat} (h : Bd b L) (n : Nat) : Bd b (L.take n) := by
  obtain ⟨ks, D, h0, h1, h2, rfl⟩ := h
  exact ⟨ks.take n, D, h0, h1, Nat.le_trans (S1_take n ks) h2, (List.map_take ..).symm⟩
theorem dropLast_take {α : Type} (L : List α) : L.dropLast = L.take (L.length - 1) := List.dropLast_eq_take ..
theorem trimR_take : ∀ (n : Nat) (L : List Rat), L.length ≤ n → ∃ m, trimR L = L.take m
  | 0, L, h => by
    have : L = [] := List.length_eq_zero_iff.mp (by omega)
    subst this
    exact ⟨0, rfl⟩
  | n + 1, L, h => by
    by_cases h1 : 1 < L.length ∧ L.getLast? = some 0
    · obtain ⟨m, hm⟩ := trimR_take n L.dropLast (by rw [List.length_dropLast]; omega)
      refine ⟨min m (L.length - 1), ?_⟩
      rw [trimR_turn h1.1 h1.2, hm, dropLast_take, List.take_take]
    · refine ⟨L.length, ?_⟩
      rw [List.take_length]
      refine trimR_stop ?_
      by_cases h2 : L.length ≤ 1
      · exact .inl h2
      · exact .inr fun z => h1 ⟨by omega, z⟩
theorem Bd.trim {b : Nat} {L : List Rat} (h : Bd b L) : Bd b (trimR L) := by
  obtain ⟨m, hm⟩ := trimR_take L.length L (Nat.le_refl _)
  rw [hm]; exact h.take m
theorem trimR_len_le (L : List Rat) : (trimR L).length ≤ L.length := by
  obtain ⟨m, hm⟩ := trimR_take L.length L (Nat.le_refl _)
  rw [hm, List.length_take]; omega
theorem trimR_ne : ∀ (n : Nat) {L : List Rat}, L.length ≤ n → L ≠ [] → trimR L ≠ []
  | 0, L, h, hn => absurd (List.length_eq_zero_iff.mp (by omega)) hn
  | n + 1, L, h, hn => by
    by_cases h1 : 1 < L.length ∧ L.getLast? = some 0
    · rw [trimR_turn h1.1 h1.2]
      exact trimR_ne n (by rw [List.length_dropLast]; omega) fun z => by
        have := congrArg List.length z
        rw [List.length_dropLast] at this
        simp only [List.length_nil] at this
        omega
    · rw [trimR_stop]
      · exact hn
      · by_cases h2 : L.length ≤ 1
        · exact .inl h2
        · exact .inr fun z => h1 ⟨by omega, z⟩
/-- the state of a product's loops: near = i, j turns of far are done -/
def pst {R : Type} [Add R] [Mul R] [OfNat R 0] (p q : List R) (i j : Nat) : List R := inn (out (List.replicate (p.length + q.length - 1) 0) q (p.take i) 0) i (p.getD i 0) (q.take j) 0
section
variable {R : Type} [Add R] [Mul R] [OfNat R 0]
theorem pst_len (p q : List R) (i j : Nat) : (pst p q i j).length = p.length + q.length - 1 := by
  unfold pst; rw [inn_len, out_len, List.length_replicate]
theorem pst_step {p q : List R} {i j : Nat} (hj : j < q.length) : pst p q i (j + 1) = (pst p q i j).set (i + j) ((pst p q i j).getD (i + j) 0 + p.getD i 0 * q.getD j 0) := by
  unfold pst
  have e : q.take (j + 1) = q.take j ++ [q.getD j 0] := by
    rw [List.take_add_one, List.getD, List.getElem?_eq_getElem hj]; rfl
  have e2 : (q.take j).length = j := by rw [List.length_take]; omega
  rw [e, inn_snoc, e2, Nat.zero_add]
theorem pst_row {p q : List R} {i : Nat} (hi : i < p.length) : pst p q i q.length = pst p q (i + 1) 0 := by
  unfold pst
  have e : p.take (i + 1) = p.take i ++ [p.getD i 0] := by
    rw [List.take_add_one, List.getD, List.getElem?_eq_getElem hi]; rfl
  have e2 : (p.take i).length = i := by rw [List.length_take]; omega
  rw [e, out_snoc, e2, Nat.zero_add, List.take_length, List.take_zero]
  rfl
end
theorem pst_start (p q : List Rat) : pst p q 0 0 = List.replicate (p.length + q.length - 1) 0 := by
  unfold pst; rw [List.take_zero, List.take_zero]; rfl
theorem pst_end (p q : List Rat) : pst p q p.length 0 = conv p q := by
  unfold pst conv; rw [List.take_length, List.take_zero]; rfl
theorem mk_step {D E : Nat} (hD : 0 < D) (hE : 0 < E) (x a b : Int) : mkRat (x + a * b) (D * E) = mkRat x (D * E) + mkRat a D * mkRat b E := by
  have hDE : D * E ≠ 0 := Nat.ne_of_gt (Nat.mul_pos hD hE)
  rw [Rat.mkRat_mul_mkRat, Rat.mkRat_add_mkRat _ _ hDE hDE, ← Int.add_mul]
  exact (Rat.mkRat_mul_right hDE).symm
theorem Bd.pst {b c : Nat} {p q : List Rat} (hp : Bd b p) (hq : Bd c q) (i j : Nat) : Bd (b + c) (pst p q i j) := by
  obtain ⟨ks, D, h0, h1, h2, rfl⟩ := hp
  obtain ⟨js, E, g0, g1, g2, rfl⟩ := hq
  refine ⟨K65.pst ks js i j, D * E, Nat.mul_pos h0 g0, ?_, ?_, ?_⟩
  · rw [Nat.pow_add]; exact Nat.mul_le_mul h1 g1
  · have e1 := S1_inn (ks.getD i 0) i (js.take j) (out (List.replicate (ks.length + js.length - 1) 0) js (ks.take i) 0) 0
    have e2 := S1_out js (ks.take i) (List.replicate (ks.length + js.length - 1) 0) 0
    rw [S1_zeros, Nat.zero_add] at e2
    have e3 := S1_take j js
    have e4 := Nat.mul_le_mul_left (ks.getD i 0).natAbs e3
    have e5 := Nat.mul_le_mul_right (S1 js) (S1_take_get i ks)
    rw [Nat.add_mul] at e5
    have e6 : S1 ks * S1 js ≤ 2 ^ b * 2 ^ c := Nat.mul_le_mul h2 g2
    rw [Nat.pow_add]
    unfold K65.pst
    omega
  · unfold K65.pst
    have f0 : (fun k => mkRat k (D * E)) 0 = 0 := by simp [Rat.zero_mkRat]
    rw [inn_map (fun k => mkRat k (D * E)) (fun k => mkRat k D) (fun k => mkRat k E) f0 (mk_step h0 g0), out_map (fun k => mkRat k (D * E)) (fun k => mkRat k D) (fun k => mkRat k E) f0 (mk_step h0 g0)]
    rw [List.map_replicate, List.length_map, List.length_map, List.map_take, List.map_take]
    congr 1
    · congr 1
      rw [Rat.zero_mkRat]
    · simp only [List.getD, List.getElem?_map]
      cases ks[i]? <;> simp [Rat.zero_mkRat]
theorem Bd.conv {b c : Nat} {p q : List Rat} (hp : Bd b p) (hq : Bd c q) : Bd (b + c) (conv p q) := by
  rw [← pst_end]; exact hp.pst hq _ _
theorem Bd.add {b c : Nat} {p q : List Rat} (hp : Bd b p) (hq : Bd c q) : Bd (b + c + 1) (addL p q) := by
  obtain ⟨ks, D, h0, h1, h2, rfl⟩ := hp
  obtain ⟨js, E, g0, g1, g2, rfl⟩ := hq
  have hDE : D * E ≠ 0 := Nat.ne_of_gt (Nat.mul_pos h0 g0)
  have pw : (2 : Nat) ^ (b + c + 1) = 2 * (2 ^ b * 2 ^ c) := by rw [Nat.pow_succ, Nat.pow_add]; omega
  have d1 : D * E ≤ 2 ^ b * 2 ^ c := Nat.mul_le_mul h1 g1
  refine ⟨addZ (ks.map (· * (E : Int))) (js.map (· * (D : Int))), D * E, Nat.mul_pos h0 g0, by omega, ?_, ?_⟩
  · have e := S1_add (ks.map (· * (E : Int))) (js.map (· * (D : Int)))
    rw [S1_map_mul, S1_map_mul, Int.natAbs_natCast, Int.natAbs_natCast] at e
    have e1 : S1 ks * E ≤ 2 ^ b * 2 ^ c := Nat.mul_le_mul h2 g1
    have e2 : S1 js * D ≤ 2 ^ c * 2 ^ b := Nat.mul_le_mul g2 h1
    rw [Nat.mul_comm (2 ^ c)] at e2
    omega
  · have key : ∀ ks js : List Int, addL (ks.map fun k => mkRat k D) (js.map fun k => mkRat k E) = (addZ (ks.map (· * (E : Int))) (js.map (· * (D : Int)))).map fun k => mkRat k (D * E) := by
      intro ks
      have l1 : ∀ k : Int, mkRat k D = mkRat (k * (E : Int)) (D * E) := fun k => (Rat.mkRat_mul_right (by omega)).symm
      have l2 : ∀ k : Int, mkRat k E = mkRat (k * (D : Int)) (D * E) := fun k => by rw [Nat.mul_comm D E]; exact (Rat.mkRat_mul_right (by omega)).symm
      induction ks with
      | nil =>
        intro js
        simp only [List.map_nil, addL, addZ, List.map_map]
        exact List.map_congr_left fun k _ => l2 k
      | cons a r ih =>
        intro js
        cases js with
        | nil =>
          simp only [List.map_cons, List.map_nil, addL, addZ, List.map_map]
          rw [l1 a]
          congr 1
          exact List.map_congr_left fun k _ => l1 k
        | cons c js =>
          simp only [List.map_cons, addL, addZ]
          rw [ih js, l1 a, l2 c, Rat.mkRat_add_mkRat _ _ hDE hDE, ← Int.add_mul, Rat.mkRat_mul_right hDE]
    exact key ks js
theorem Bd.zero : Bd 0 [0] := ⟨[0], 1, by decide, by decide, by decide, by simp [Rat.zero_mkRat]⟩
theorem Bd.hor {b c d : Nat} {inner f : List Rat} {x : Rat} (hi : Bd b inner) (hf : Bd c f) (hx : Bd d [x]) : Bd (c + b + d + 1) (horL inner f x) := ((hf.conv hi).trim.add hx).trim
theorem Bd.one {b : Nat} {L : List Rat} (h : Bd b L) {x : Rat} (hx : x ∈ L) : Bd b [x] := by
  obtain ⟨ks, D, h0, h1, h2, rfl⟩ := h
  obtain ⟨k, hk, rfl⟩ := List.mem_map.mp hx
  exact ⟨[k], D, h0, h1, Nat.le_trans (by simp only [S1]; have := S1_mem hk; omega) h2, rfl⟩
theorem Bd.fold {b d : Nat} {inner : List Rat} (hi : Bd b inner) : ∀ (r f : List Rat) (c : Nat), Bd c f → (∀ x ∈ r, Bd d [x]) → Bd (c + r.length * (b + d + 1)) (r.foldl (horL inner) f)
  | [], f, c, hf, _ => by simpa using hf
  | x :: r, f, c, hf, hr => by
    have h1 := hi.hor hf (hr x List.mem_cons_self)
    have h2 := hi.fold r _ _ h1 fun y hy => hr y (List.mem_cons_of_mem _ hy)
    refine h2.mono ?_
    rw [List.length_cons, Nat.succ_mul]; omega
theorem Bd.within {b d : Nat} {inner outer : List Rat} (hi : Bd b inner) (ho : Bd d outer) : Bd (outer.length * (b + d + 1)) (lawWithin inner outer) := by
  have := hi.fold outer.reverse [0] 0 .zero fun x hx => ho.one (List.mem_reverse.mp hx)
  rw [List.length_reverse, Nat.zero_add] at this
  exact this
theorem horL_len {inner f : List Rat} (hi : inner ≠ []) (hf : f ≠ []) (c : Rat) : (horL inner f c).length ≤ f.length + inner.length ∧ horL inner f c ≠ [] := by
  have h1 : 0 < f.length := List.length_pos_iff.mpr hf
  have h2 : 0 < inner.length := List.length_pos_iff.mpr hi
  have e1 : (lawProd f inner).length ≤ f.length + inner.length - 1 := by
    unfold lawProd
    have := trimR_len_le (conv f inner)
    rw [conv_eq hf hi, mul_len f inner hf hi] at this
    rw [conv_eq hf hi]; exact this
  have e2 := addL_len (lawProd f inner) [c]
  have e3 := trimR_len_le (addL (lawProd f inner) [c])
  refine ⟨?_, ?_⟩
  · unfold horL lawSum
    rw [List.length_singleton] at e2
    omega
  · unfold horL lawSum
    refine trimR_ne _ (Nat.le_refl _) fun z => ?_
    rw [z, List.length_singleton, List.length_nil] at e2
    omega
theorem fold_len {inner : List Rat} (hi : inner ≠ []) : ∀ (r f : List Rat), f ≠ [] → (r.foldl (horL inner) f).length ≤ f.length + r.length * inner.length ∧ r.foldl (horL inner) f ≠ []
  | [], f, hf => by simpa using hf
  | x :: r, f, hf => by
    obtain ⟨h1, h2⟩ := horL_len hi hf x
    obtain ⟨k1, k2⟩ := fold_len hi r _ h2
    refine ⟨?_, k2⟩
    rw [List.foldl_cons, List.length_cons, Nat.succ_mul]; omega
/-- a letter: a step of degree at most 3 of small numbers -/
structure Let (L : List Rat) : Prop where
  good : Good L
  len : L.length ≤ 4
  bd : Bd 28 L
def lbits : Nat → Nat
  | 0 => 28
  | i + 1 => 4 * (lbits i + 29)
def llen : Nat → Nat
  | 0 => 4
  | i + 1 => 3 * llen i
theorem part_ok {a : List Rat} (ha : Let a) {r : List (List Rat)} (hr : ∀ L ∈ r, Let L) : ∀ i : Nat, i ≤ r.length → Good ((r.take i).foldl lawWithin a) ∧ Bd (lbits i) ((r.take i).foldl lawWithin a) ∧ ((r.take i).foldl lawWithin a).length ≤ llen i
  | 0, _ => ⟨ha.good, ha.bd, ha.len⟩
  | i + 1, h => by
    obtain ⟨h1, h2, h3⟩ := part_ok ha hr i (by omega)
    have hl : i < r.length := by omega
    have e : (r.take (i + 1)).foldl lawWithin a = lawWithin ((r.take i).foldl lawWithin a) r[i] := by
      rw [List.take_add_one, List.getElem?_eq_getElem hl, List.foldl_append]; rfl
    have hL := hr _ (List.getElem_mem hl)
    obtain ⟨g1, g2, _⟩ := lawWithin_good h1 hL.good
    rw [e]
    refine ⟨g1, (h2.within hL.bd).mono ?_, ?_⟩
    · show r[i].length * (lbits i + 28 + 1) ≤ 4 * (lbits i + 29)
      exact Nat.mul_le_mul_right _ hL.len
    · rw [g2]
      have := hL.len
      have : (r[i].length - 1) * (((r.take i).foldl lawWithin a).length - 1) ≤ 3 * (((r.take i).foldl lawWithin a).length - 1) := Nat.mul_le_mul_right _ (by omega)
      have := h1.1
      show _ ≤ 3 * llen i
      omega
/-! ### all words to a length -/
def ext1 (n : Nat) (w : Word) : List Word := (List.range n).map fun i => w ++ [i]
def exts (n : Nat) (ws : List Word) : List Word := ws.flatMap (ext1 n)
def lev (n : Nat) : Nat → List Word
  | 0 => [[]]
  | k + 1 => exts n (lev n k)
def allw (n : Nat) : Nat → List Word
  | 0 => []
  | k + 1 => allw n k ++ lev n (k + 1)
theorem ext1_len (n : Nat) (w : Word) : (ext1 n w).length = n := by unfold ext1; simp
theorem exts_len (n : Nat) : ∀ ws : List Word, (exts n ws).length = ws.length * n
  | [] => by simp [exts]
  | w :: ws => by
    have := exts_len n ws
    unfold exts at this ⊢
    rw [List.flatMap_cons, List.length_append, this, ext1_len, List.length_cons, Nat.succ_mul]; omega
theorem exts_snoc (n : Nat) (ws : List Word) (w : Word) : exts n (ws ++ [w]) = exts n ws ++ ext1 n w := by
  unfold exts; rw [List.flatMap_append]; simp
theorem allw_mono (n : Nat) : ∀ {k m : Nat}, k ≤ m → (allw n k).length ≤ (allw n m).length := by
  intro k m h
  induction h with
  | refl => exact Nat.le_refl _
  | step _ ih => show _ ≤ (allw n _ ++ lev n _).length; rw [List.length_append]; omega
theorem lev_le (n : Nat) {k m : Nat} (h : k < m) : (lev n (k + 1)).length ≤ (allw n m).length := by
  have := allw_mono n (show k + 1 ≤ m from h)
  have e : (allw n (k + 1)).length = (allw n k).length + (lev n (k + 1)).length := List.length_append
  omega
theorem lev_wlen (n : Nat) : ∀ (k : Nat) {w : Word}, w ∈ lev n k → w.length = k ∧ ∀ i ∈ w, i < n
  | 0, w, h => by
    have : w = [] := by simpa [lev] using h
    subst this
    exact ⟨rfl, fun i hi => by cases hi⟩
  | k + 1, w, h => by
    obtain ⟨u, hu, hw⟩ := List.mem_flatMap.mp (show w ∈ (lev n k).flatMap (ext1 n) from h)
    obtain ⟨i, hi, rfl⟩ := List.mem_map.mp hw
    obtain ⟨h1, h2⟩ := lev_wlen n k hu
    refine ⟨by simp [h1], fun j hj => ?_⟩
    rcases List.mem_append.mp hj with hj | hj
    · exact h2 j hj
    · rw [List.mem_singleton.mp hj]; exact List.mem_range.mp hi
theorem lev_all (n : Nat) : ∀ (k : Nat) {w : Word}, w.length = k → (∀ i ∈ w, i < n) → w ∈ lev n k
  | 0, w, h, _ => by
    have : w = [] := List.length_eq_zero_iff.mp h
    subst this
    simp [lev]
  | k + 1, w, h, hi => by
    have hne : w ≠ [] := fun z => by rw [z] at h; cases h
    have e := List.dropLast_concat_getLast hne
    have h1 : w.dropLast ∈ lev n k := lev_all n k (by rw [List.length_dropLast]; omega) fun i hm => hi i (List.dropLast_subset w hm)
    refine List.mem_flatMap.mpr ⟨w.dropLast, h1, List.mem_map.mpr ⟨w.getLast hne, List.mem_range.mpr (hi _ (List.getLast_mem hne)), e⟩⟩
theorem mem_allw (n : Nat) : ∀ (m : Nat) {w : Word}, w ∈ allw n m ↔ (w ≠ [] ∧ w.length ≤ m ∧ ∀ i ∈ w, i < n)
  | 0, w => by
    refine ⟨fun h => absurd h List.not_mem_nil, fun h => ?_⟩
    exact absurd (List.length_eq_zero_iff.mp (by have := h.2.1; omega)) h.1
  | m + 1, w => by
    show w ∈ allw n m ++ lev n (m + 1) ↔ _
    rw [List.mem_append, mem_allw n m]
    constructor
    · rintro (⟨h1, h2, h3⟩ | h)
      · exact ⟨h1, by omega, h3⟩
      · obtain ⟨h1, h2⟩ := lev_wlen n (m + 1) h
        exact ⟨fun z => (by rw [z] at h1; cases h1), by omega, h2⟩
    · rintro ⟨h1, h2, h3⟩
      by_cases h : w.length ≤ m
      · exact .inl ⟨h1, h, h3⟩
      · exact .inr (lev_all n (m + 1) (by omega) h3)
/-! their order: by length, then as Python compares -/
def lexLt : Word → Word → Bool
  | [], [] => false
  | [], _ :: _ => true
  | _ :: _, [] => false
  | a :: u, b :: v => if a = b then lexLt u v else decide (a < b)
def wLt (u v : Word) : Bool := if u.length = v.length then lexLt u v else decide (u.length < v.length)
theorem lexLt_irrefl : ∀ u : Word, lexLt u u = false
  | [] => rfl
  | a :: u => by simp [lexLt, lexLt_irrefl u]
theorem lexLt_trans : ∀ {u v w : Word}, lexLt u v = true → lexLt v w = true → lexLt u w = true
  | [], [], _, h, _ => by cases h
  | [], _ :: _, [], _, h => by cases h
  | [], _ :: _, _ :: _, _, _ => rfl
  | _ :: _, [], _, h, _ => by cases h
  | _ :: _, _ :: _, [], _, h => by cases h
  | a :: u, b :: v, c :: w, h1, h2 => by
    simp only [lexLt] at h1 h2 ⊢
    by_cases e1 : a = b
    · subst e1
      rw [if_pos rfl] at h1
      by_cases e2 : a = c
      · subst e2
        rw [if_pos rfl] at h2 ⊢
        exact lexLt_trans h1 h2
      · rw [if_neg e2] at h2 ⊢; exact h2
    · rw [if_neg e1] at h1
      have l1 : a < b := of_decide_eq_true h1
      by_cases e2 : b = c
      · subst e2
        rw [if_neg e1]; exact h1
      · rw [if_neg e2] at h2
        have l2 : b < c := of_decide_eq_true h2
        rw [if_neg (by omega)]
        exact decide_eq_true (by omega)
theorem lexLt_total : ∀ {u v : Word}, u ≠ v → lexLt u v = true ∨ lexLt v u = true
  | [], [], h => absurd rfl h
  | [], _ :: _, _ => .inl rfl
  | _ :: _, [], _ => .inr rfl
  | a :: u, b :: v, h => by
    simp only [lexLt]
    by_cases e : a = b
    · subst e
      rw [if_pos rfl, if_pos rfl]
      exact lexLt_total fun z => h (by rw [z])
    · rw [if_neg e, if_neg (Ne.symm e)]
      have : a < b ∨ b < a := by omega
      exact this.imp (fun z => decide_eq_true z) fun z => decide_eq_true z
theorem wLt_trans {u v w : Word} (h1 : wLt u v = true) (h2 : wLt v w = true) : wLt u w = true := by
  unfold wLt at *
  by_cases e1 : u.length = v.length
  · rw [if_pos e1] at h1
    by_cases e2 : v.length = w.length
    · rw [if_pos e2] at h2
      rw [if_pos (e1.trans e2)]
      exact lexLt_trans h1 h2
    · rw [if_neg e2] at h2
      rw [if_neg (by omega), e1]; exact h2
  · rw [if_neg e1] at h1
    have l1 := of_decide_eq_true h1
    by_cases e2 : v.length = w.length
    · rw [if_neg (by omega), ← e2]; exact h1
    · rw [if_neg e2] at h2
      have l2 := of_decide_eq_true h2
      rw [if_neg (by omega)]
      exact decide_eq_true (by omega)
theorem wLt_irrefl (u : Word) : wLt u u = false := by unfold wLt; rw [if_pos rfl, lexLt_irrefl]
theorem lexLt_ext {u v : Word} (i j : Nat) (h : lexLt u v = true) (hl : u.length = v.length) : lexLt (u ++ [i]) (v ++ [j]) = true := by
  induction u generalizing v with
  | nil =>
    cases v with
    | nil => cases h
    | cons b v => simp at hl
  | cons a u ih =>
    cases v with
    | nil => simp at hl
    | cons b v =>
      simp only [List.cons_append, lexLt] at h ⊢
      by_cases e : a = b
      · rw [if_pos e] at h ⊢
        exact ih h (by simpa using hl)
      · rw [if_neg e] at h ⊢; exact h
theorem lexLt_end (u : Word) {i j : Nat} (h : i < j) : lexLt (u ++ [i]) (u ++ [j]) = true := by
  induction u with
  | nil => simp only [List.nil_append, lexLt]; rw [if_neg (by omega)]; exact decide_eq_true h
  | cons a u ih =>
    show (if a = a then lexLt (u ++ [i]) (u ++ [j]) else decide (a < a)) = true
    rw [if_pos rfl]; exact ih
theorem lev_sorted (n : Nat) : ∀ k : Nat, (lev n k).Pairwise fun u v => lexLt u v = true
  | 0 => by simp [lev]
  | k + 1 => by
    have ih := lev_sorted n k
    have hl : ∀ w ∈ lev n k, w.length = k := fun w hw => (lev_wlen n k hw).1
    show ((lev n k).flatMap (ext1 n)).Pairwise _
    generalize lev n k = L at ih hl
    induction L with
    | nil => simp
    | cons w L ihL =>
      rw [List.flatMap_cons, List.pairwise_append]
      have hc := List.pairwise_cons.mp ih
      refine ⟨?_, ihL hc.2 fun v hv => hl v (List.mem_cons_of_mem _ hv), fun a ha b hb => ?_⟩
      · unfold ext1
        rw [List.pairwise_map]
        exact List.pairwise_lt_range.imp fun h => lexLt_end w h
      · obtain ⟨i, _, rfl⟩ := List.mem_map.mp ha
        obtain ⟨v, hv, hb⟩ := List.mem_flatMap.mp hb
        obtain ⟨j, _, rfl⟩ := List.mem_map.mp hb
        exact lexLt_ext i j (hc.1 v hv) ((hl w List.mem_cons_self).trans (hl v (List.mem_cons_of_mem _ hv)).symm)
theorem allw_sorted (n : Nat) : ∀ m : Nat, (allw n m).Pairwise fun u v => wLt u v = true
  | 0 => .nil
  | m + 1 => by
    show (allw n m ++ lev n (m + 1)).Pairwise _
    rw [List.pairwise_append]
    refine ⟨allw_sorted n m, ?_, fun a ha b hb => ?_⟩
    · refine (lev_sorted n (m + 1)).imp_of_mem fun {a b} ha hb h => ?_
      unfold wLt
      rw [if_pos ((lev_wlen n _ ha).1.trans (lev_wlen n _ hb).1.symm)]
      exact h
    · have h1 := ((mem_allw n m).mp ha).2.1
      have h2 := (lev_wlen n _ hb).1
      unfold wLt
      rw [if_neg (by omega)]
      exact decide_eq_true (by omega)
/-! ### letters of small numbers -/
structure Ltr (L : List Rat) : Prop where
  good : Good L
  len : L.length ≤ 4
  sm : ∀ q ∈ L, q.num.natAbs ≤ 64 ∧ q.den ≤ 8
theorem bd_of : ∀ L : List Rat, (∀ q ∈ L, q.num.natAbs ≤ 64 ∧ q.den ≤ 8) → Bd (7 * L.length) L
  | [], _ => ⟨[], 1, by decide, by decide, by decide, rfl⟩
  | a :: L, h => by
    obtain ⟨ks, D, h0, h1, h2, h3⟩ := bd_of L fun q hq => h q (List.mem_cons_of_mem _ hq)
    obtain ⟨a1, a2⟩ := h a List.mem_cons_self
    have ap := a.den_pos
    have e7 : (2 : Nat) ^ (7 * (a :: L).length) = 128 * 2 ^ (7 * L.length) := by rw [List.length_cons, Nat.mul_succ, Nat.pow_add]; omega
    refine ⟨(a.num * (D : Int)) :: ks.map (· * (a.den : Int)), a.den * D, Nat.mul_pos ap h0, ?_, ?_, ?_⟩
    · rw [e7]
      have : a.den * D ≤ 8 * 2 ^ (7 * L.length) := Nat.mul_le_mul a2 h1
      omega
    · rw [e7]
      show (a.num * (D : Int)).natAbs + S1 (ks.map (· * (a.den : Int))) ≤ _
      rw [S1_map_mul, Int.natAbs_mul, Int.natAbs_natCast, Int.natAbs_natCast]
      have e1 : a.num.natAbs * D ≤ 64 * 2 ^ (7 * L.length) := Nat.mul_le_mul a1 h1
      have e2 : S1 ks * a.den ≤ 2 ^ (7 * L.length) * 8 := Nat.mul_le_mul h2 a2
      omega
    · rw [List.map_cons, List.map_map]
      congr 1
      · rw [Rat.mkRat_mul_right (by omega), Rat.mkRat_self]
      · rw [h3]
        refine List.map_congr_left fun k _ => ?_
        show mkRat k D = mkRat (k * (a.den : Int)) (a.den * D)
        rw [Nat.mul_comm, Rat.mkRat_mul_right (by omega)]
theorem Ltr.let {L : List Rat} (h : Ltr L) : Let L := ⟨h.good, h.len, (bd_of L h.sm).mono (by have := h.len; omega)⟩
/-- a drawn number -/
def Q2 (q : Rat) : Prop := q.num.natAbs ≤ 2 ∧ q.den ≤ 2
structure Stp2 (n : Nat) (L : List Rat) : Prop where
  len : L.length = n + 1
  sm : ∀ q ∈ L, Q2 q
  tp : Tp L
theorem Stp2.ltr {n : Nat} {L : List Rat} (h : Stp2 n L) (h1 : 1 ≤ n) (h2 : n ≤ 3) : Ltr L :=
  ⟨⟨by have := h.len; omega, h.tp⟩, by have := h.len; omega, fun q hq => ⟨by have := (h.sm q hq).1; omega, by have := (h.sm q hq).2; omega⟩⟩
theorem Q2.half {q : Rat} (h : Q2 q) : ∃ a : Int, a.natAbs ≤ 4 ∧ q = (a : Rat) / 2 := by
  have hp := q.den_pos
  have e := Rat.num_divInt_den q
  have : q.den = 1 ∨ q.den = 2 := by have := h.2; omega
  rcases this with d | d
  · refine ⟨2 * q.num, by have := h.1; omega, ?_⟩
    rw [d, Rat.divInt_eq_div] at e
    rw [Rat.intCast_mul]
    have : q = (q.num : Rat) := by
      conv => lhs; rw [← e]
      grind
    grind
  · refine ⟨q.num, by have := h.1; omega, ?_⟩
    rw [d, Rat.divInt_eq_div] at e
    conv => lhs; rw [← e]
    rfl
theorem small_of {k : Int} {D : Nat} (hD : 0 < D) (h1 : k.natAbs ≤ 64) (h2 : D ≤ 8) {q : Rat} (e : q = (k : Rat) / (D : Rat)) : q.num.natAbs ≤ 64 ∧ q.den ≤ 8 := by
  have e' : q = mkRat k D := by rw [e, Rat.mkRat_eq_div]
  rw [e']
  constructor
  · rw [Rat.num_mkRat, if_neg (by omega)]
    have : (k / ((D.gcd k.natAbs : Nat) : Int)).natAbs ≤ k.natAbs := Int.natAbs_ediv_le_natAbs _ _
    omega
  · rw [Rat.den_mkRat, if_neg (by omega)]
    have := Nat.div_le_self D (D.gcd k.natAbs)
    omega
/-- X + 1 / 2 -/
def onL : List Rat := [1 / 2, 1]
theorem onL_good : Good onL := ⟨by decide, Tp.of_last rfl (by decide)⟩
theorem onL_ltr : Ltr onL := ⟨onL_good, by decide, fun q hq => by
  rcases List.mem_cons.mp hq with rfl | hq
  · decide +kernel
  · rw [List.mem_singleton.mp hq]; decide +kernel⟩
theorem on_told {L : List Rat} (h : Stp2 2 L) : Ltr (lawWithin onL L) := by
  have hl := h.len
  match L, hl with
  | [c0, c1, c2], _ =>
    have g : Good [c0, c1, c2] := ⟨by simp, h.tp⟩
    obtain ⟨g1, _, g3⟩ := lawWithin_good onL_good g
    have n2 : c2 ≠ 0 := h.tp c2 rfl
    have e : lawWithin onL [c0, c1, c2] = [c0 + c1 / 2 + c2 / 4, c1 + c2, c2] := by
      refine eq_of_ev g1.2 (Tp.of_last rfl n2) fun x => ?_
      rw [g3 x]
      simp only [ev, onL]
      grind
    rw [e] at g1 ⊢
    obtain ⟨a0, h0, rfl⟩ := (h.sm c0 (by simp)).half
    obtain ⟨a1, h1, rfl⟩ := (h.sm c1 (by simp)).half
    obtain ⟨a2, h2, rfl⟩ := (h.sm c2 (by simp)).half
    refine ⟨g1, by simp, fun q hq => ?_⟩
    rcases List.mem_cons.mp hq with rfl | hq
    · refine small_of (k := 4 * a0 + 2 * a1 + a2) (D := 8) (by decide) (by omega) (by decide) ?_
      simp only [Rat.intCast_add, Rat.intCast_mul]
      grind
    rcases List.mem_cons.mp hq with rfl | hq
    · refine small_of (k := a1 + a2) (D := 2) (by decide) (by omega) (by decide) ?_
      simp only [Rat.intCast_add]
      grind
    · rw [List.mem_singleton.mp hq]
      exact small_of (k := a2) (D := 2) (by decide) (by omega) (by decide) rfl
/-- what is drawn -/
structure Menu (R : List (List Rat)) : Prop where
  len : R.length = 2 ∨ R.length = 3
  ltr : ∀ L ∈ R, Ltr L
/-! ### polynomials of whole numbers over one -/
def asQ (ks : List Int) (b : Int) : List Rat := ks.map fun k => Rat.divInt k b
def low (ks : List Int) : Nat → Nat
  | 0 => 0
  | n + 1 => if ks.getD n 0 = 0 then low ks n else n + 1
theorem low_le (ks : List Int) : ∀ n, low ks n ≤ n
  | 0 => Nat.le_refl _
  | n + 1 => by
    have := low_le ks n
    unfold low
    split <;> omega
theorem low_last (ks : List Int) : ∀ n m, low ks n = m + 1 → ks.getD m 0 ≠ 0
  | 0, _, h => by cases h
  | n + 1, m, h => by
    unfold low at h
    split at h
    · exact low_last ks n m h
    · rename_i h0
      have : m = n := by omega
      subst this
      exact h0
theorem low_zero (ks : List Int) : ∀ n j, low ks n ≤ j → j < n → ks.getD j 0 = 0
  | 0, _, _, h => by omega
  | n + 1, j, h1, h2 => by
    unfold low at h1
    split at h1
    · rename_i h0
      by_cases e : j = n
      · rw [e]; exact h0
      · exact low_zero ks n j h1 (by omega)
    · omega
def gcds (g : Int) : List Int → Int
  | [] => g
  | k :: r => gcds ((Int.gcd g k : Nat) : Int) r
theorem gcds_dvd : ∀ (ks : List Int) (g : Int), 0 < g → 0 < gcds g ks ∧ gcds g ks ∣ g ∧ ∀ k ∈ ks, gcds g ks ∣ k
  | [], g, h => ⟨h, Int.dvd_refl _, fun k hk => by cases hk⟩
  | k :: r, g, h => by
    have hg : (0 : Int) < ((Int.gcd g k : Nat) : Int) := by
      have : 0 < Int.gcd g k := Int.gcd_pos_of_ne_zero_left k (by omega)
      omega
    obtain ⟨h1, h2, h3⟩ := gcds_dvd r _ hg
    refine ⟨h1, Int.dvd_trans h2 (Int.gcd_dvd_left ..), fun j hj => ?_⟩
    rcases List.mem_cons.mp hj with rfl | hj
    · exact Int.dvd_trans h2 (Int.gcd_dvd_right ..)
    · exact h3 j hj
theorem gcds_snoc (k : Int) : ∀ (ks : List Int) (g : Int), gcds g (ks ++ [k]) = ((Int.gcd (gcds g ks) k : Nat) : Int)
  | [], _ => rfl
  | _ :: r, g => gcds_snoc k r _
theorem asQ_div {ks : List Int} {b g : Int} (hg : 0 < g) (hb : g ∣ b) (hk : ∀ k ∈ ks, g ∣ k) : asQ (ks.map (· / g)) (b / g) = asQ ks b := by
  unfold asQ
  rw [List.map_map]
  refine List.map_congr_left fun k hm => ?_
  show Rat.divInt (k / g) (b / g) = Rat.divInt k b
  have e1 := Int.ediv_mul_cancel hb
  have e2 := Int.ediv_mul_cancel (hk k hm)
  conv => rhs; rw [← e1, ← e2]
  exact (Rat.divInt_mul_right (by omega)).symm
theorem S1_div (g : Int) : ∀ ks : List Int, S1 (ks.map (· / g)) ≤ S1 ks
  | [] => Nat.le_refl _
  | k :: r => by
    have := S1_div g r
    have : (k / g).natAbs ≤ k.natAbs := Int.natAbs_ediv_le_natAbs _ _
    simp only [List.map_cons, S1]; omega
/-- values -/
def evZ (ks : List Int) (x : Rat) : Rat := ev (ks.map fun (k : Int) => (k : Rat)) x
theorem ev_asQ {b : Int} (hb : 0 < b) (x : Rat) : ∀ ks : List Int, (b : Rat) * ev (asQ ks b) x = evZ ks x
  | [] => by simp only [asQ, evZ, List.map_nil, ev]; grind
  | k :: r => by
    have ih := ev_asQ hb x r
    unfold asQ evZ at ih
    simp only [asQ, evZ, List.map_cons, ev]
    have e : (b : Rat) * Rat.divInt k b = (k : Rat) := by
      rw [Rat.divInt_eq_div]
      have : (b : Rat) ≠ 0 := by
        intro z
        have := Rat.intCast_eq_zero_iff.mp z
        omega
      grind
    have : (b : Rat) * (Rat.divInt k b + x * ev (r.map fun k => Rat.divInt k b) x) = (b : Rat) * Rat.divInt k b + x * ((b : Rat) * ev (r.map fun k => Rat.divInt k b) x) := by grind
    rw [this, e, ih]
/-- trailing noughts do not count -/
theorem ev_take (x : Rat) : ∀ (ks : List Int) (m : Nat), (∀ j, m ≤ j → j < ks.length → ks.getD j 0 = 0) → evZ (ks.take m) x = evZ ks x
  | [], m, _ => by simp
  | k :: r, 0, h => by
    have h0 : k = 0 := h 0 (Nat.le_refl _) (by simp)
    have ih := ev_take x r 0 fun j _ hj => by
      have := h (j + 1) (Nat.zero_le _) (by simpa using hj)
      simpa using this
    simp only [List.take_zero, evZ, List.map_nil, ev] at ih ⊢
    simp only [List.map_cons, ev, h0]
    rw [← ih]; grind
  | k :: r, m + 1, h => by
    have ih := ev_take x r m fun j h1 hj => by
      have := h (j + 1) (by omega) (by simpa using hj)
      simpa using this
    simp only [evZ] at ih
    simp only [evZ, List.take_succ_cons, List.map_cons, ev, ih]
theorem asQ_Tp {ks : List Int} {b : Int} (hb : 0 < b) (h : ∀ k, ks.getLast? = some k → k ≠ 0) : Tp (asQ ks b) := fun c hc => by
  unfold asQ at hc
  rw [List.getLast?_map] at hc
  cases e : ks.getLast? with
  | none => rw [e] at hc; cases hc
  | some k =>
    rw [e] at hc
    have e2 : Rat.divInt k b = c := Option.some.inj hc
    rw [← e2]
    intro z
    have := fr_num (a := k) hb
    rw [z] at this
    have hd : (((Int.gcd k b : Nat) : Int)) ∣ k := Int.gcd_dvd_left ..
    have h2 := Int.ediv_mul_cancel hd
    have h3 : k / ((Int.gcd k b : Nat) : Int) = 0 := this
    rw [h3, Int.zero_mul] at h2
    exact h k e h2.symm
/-- what the reducing gives -/
theorem red_ok {ks : List Int} {b : Int} (hb : 0 < b) : let ks' := ks.take (low ks ks.length); let g := gcds b ks';
    0 < g ∧ g ≤ b ∧ 0 < b / g ∧ b / g ≤ b ∧ S1 (ks'.map (· / g)) ≤ S1 ks ∧ Tp (asQ (ks'.map (· / g)) (b / g)) ∧ (∀ x, ev (asQ (ks'.map (· / g)) (b / g)) x = ev (asQ ks b) x) ∧ asQ (ks'.map (· / g)) (b / g) = asQ ks' b ∧ (ks'.map (· / g)).length ≤ ks.length := by
  intro ks' g
  obtain ⟨h1, h2, h3⟩ := gcds_dvd ks' b hb
  have hgb : g ≤ b := Int.le_of_dvd hb h2
  have e := asQ_div (ks := ks') h1 h2 h3
  have hbg : 0 < b / g := Int.ediv_pos_of_pos_of_dvd hb (by omega) h2
  refine ⟨h1, hgb, hbg, Int.ediv_le_self _ (by omega), Nat.le_trans (S1_div g ks') (S1_take _ _), ?_, fun x => ?_, e, ?_⟩
  · rw [e]
    refine asQ_Tp hb fun k hk => ?_
    have hle := low_le ks ks.length
    have hl : ks'.length = low ks ks.length := by
      show (ks.take (low ks ks.length)).length = _
      rw [List.length_take]; omega
    rw [List.getLast?_eq_getElem?, hl] at hk
    cases em : low ks ks.length with
    | zero =>
      have : ks'.length = 0 := by omega
      rw [List.length_eq_zero_iff.mp this] at hk
      cases hk
    | succ m =>
      rw [em] at hk
      have := low_last ks _ m em
      have hk2 : (ks.take (low ks ks.length))[m]? = some k := hk
      rw [List.getElem?_take, if_pos (by omega)] at hk2
      rw [List.getD, hk2] at this
      exact this
  · have hb0 : (b : Rat) ≠ 0 := by
      intro z
      have := Rat.intCast_eq_zero_iff.mp z
      omega
    rw [e]
    have e1 := ev_asQ hb x ks'
    have e2 := ev_asQ hb x ks
    have e3 := ev_take x ks (low ks ks.length) fun j h1 h2 => low_zero ks _ j h1 h2
    have e4 : (b : Rat) * ev (asQ ks' b) x = (b : Rat) * ev (asQ ks b) x := by rw [e1, e2]; exact e3
    grind
  · rw [List.length_map]
    show (ks.take (low ks ks.length)).length ≤ _
    rw [List.length_take]; omega
/-! ### a polynomial put in, as the program does it -/
def convZ (p q : List Int) : List Int := out (List.replicate (p.length + q.length - 1) 0) q p 0
theorem convZ_len (p q : List Int) : (convZ p q).length = p.length + q.length - 1 := by
  unfold convZ; rw [out_len, List.length_replicate]
theorem convZ_ev {p q : List Int} (hp : p ≠ []) (hq : q ≠ []) (x : Rat) : evZ (convZ p q) x = evZ p x * evZ q x := by
  unfold evZ convZ
  have f0 : (fun k : Int => (k : Rat)) 0 = 0 := rfl
  have fs : ∀ x a b : Int, (fun k : Int => (k : Rat)) (x + a * b) = (fun k : Int => (k : Rat)) x + (fun k : Int => (k : Rat)) a * (fun k : Int => (k : Rat)) b := fun x a b => by
    show ((x + a * b : Int) : Rat) = (x : Rat) + (a : Rat) * (b : Rat)
    rw [Rat.intCast_add, Rat.intCast_mul]
  rw [out_map _ _ _ f0 fs, List.map_replicate]
  have h1 : 0 < p.length := List.length_pos_iff.mpr hp
  have h2 : 0 < q.length := List.length_pos_iff.mpr hq
  rw [ev_out x _ _ _ 0 (by rw [List.length_map, List.length_map, List.length_replicate]; omega)]
  have : ev (List.replicate (p.length + q.length - 1) ((fun k : Int => (k : Rat)) 0)) x = 0 := ev_zeros x _
  rw [this, Rat.pow_zero]
  grind
theorem convZ_S1 (p q : List Int) : S1 (convZ p q) ≤ S1 p * S1 q := by
  unfold convZ
  have := S1_out q p (List.replicate (p.length + q.length - 1) 0) 0
  rw [S1_zeros, Nat.zero_add] at this
  exact this
def hz (is : List Int) (F : List Int) (num sh : Int) : List Int :=
  let G := if F = [] then [0] else convZ F is
  G.set 0 (G.getD 0 0 + num * sh)
def hzs (is : List Int) (ib : Int) : List Int → List Int → Int → List Int
  | [], F, _ => F
  | o :: r, F, sh => hzs is ib r (hz is F o sh) (sh * ib)
theorem hzs_snoc (is : List Int) (ib : Int) (o : Int) : ∀ (r F : List Int) (sh : Int), hzs is ib (r ++ [o]) F sh = hz is (hzs is ib r F sh) o (sh * ib ^ r.length)
  | [], F, sh => by simp [hzs]
  | a :: r, F, sh => by
    show hzs is ib (r ++ [o]) (hz is F a sh) (sh * ib) = _
    rw [hzs_snoc is ib o r, List.length_cons, Int.pow_succ, Int.mul_assoc, Int.mul_comm ib]
    rfl
theorem evZ_set0 (x : Rat) (v : Int) : ∀ G : List Int, G ≠ [] → evZ (G.set 0 (G.getD 0 0 + v)) x = evZ G x + (v : Rat)
  | [], h => absurd rfl h
  | a :: G, _ => by
    simp only [evZ, List.set_cons_zero, List.getD_cons_zero, List.map_cons, ev, Rat.intCast_add]; grind
theorem hz_facts {is : List Int} (hi : is ≠ []) (F : List Int) (num sh : Int) : hz is F num sh ≠ [] ∧ (hz is F num sh).length = (if F = [] then 1 else F.length + is.length - 1) ∧ S1 (hz is F num sh) ≤ S1 F * S1 is + num.natAbs * sh.natAbs ∧
    ∀ x, evZ (hz is F num sh) x = evZ F x * evZ is x + (num : Rat) * (sh : Rat) := by
  have hil : 0 < is.length := List.length_pos_iff.mpr hi
  by_cases hF : F = []
  · subst hF
    have e : hz is [] num sh = [0 + num * sh] := rfl
    rw [e, if_pos rfl]
    refine ⟨by simp, rfl, ?_, fun x => ?_⟩
    · simp only [S1, Int.zero_add, Int.natAbs_mul]; omega
    · simp only [evZ, List.map_cons, List.map_nil, ev, Int.zero_add, Rat.intCast_mul]; grind
  · have hFl : 0 < F.length := List.length_pos_iff.mpr hF
    have cl := convZ_len F is
    have ne : convZ F is ≠ [] := fun z => by rw [z, List.length_nil] at cl; omega
    have e : hz is F num sh = (convZ F is).set 0 ((convZ F is).getD 0 0 + num * sh) := by
      unfold hz; rw [if_neg hF]
    rw [e, if_neg hF]
    refine ⟨fun z => ?_, by rw [List.length_set, cl], ?_, fun x => ?_⟩
    · have := congrArg List.length z
      rw [List.length_set, List.length_nil] at this
      exact ne (List.length_eq_zero_iff.mp this)
    · have h1 := S1_set (num * sh) (convZ F is) 0
      have h2 := convZ_S1 F is
      rw [Int.natAbs_mul] at h1
      omega
    · rw [evZ_set0 x _ _ ne, convZ_ev hF hi, Rat.intCast_mul]
/-- the fold's facts -/
theorem hzs_facts {is : List Int} (hi : is ≠ []) {ib : Int} (hib : 0 < ib) {mi mo : Nat} (b1 : S1 is ≤ 2 ^ mi) (b2 : ib.natAbs ≤ 2 ^ mi) : ∀ (n : Nat) (r : List Int), r.length = n → (∀ o ∈ r, o.natAbs ≤ 2 ^ mo) →
    (r ≠ [] → (hzs is ib r [] 1).length = (n - 1) * (is.length - 1) + 1) ∧ S1 (hzs is ib r [] 1) ≤ 2 ^ (mo + (n - 1) * (mi + 1)) ∧
    ∀ x, (ib : Rat) * evZ (hzs is ib r [] 1) x = (ib : Rat) ^ n * ev ((r.reverse).map fun (k : Int) => (k : Rat)) (evZ is x / (ib : Rat)) := by
  have hil : 0 < is.length := List.length_pos_iff.mpr hi
  have hib0 : (ib : Rat) ≠ 0 := by
    intro z
    have := Rat.intCast_eq_zero_iff.mp z
    omega
  intro n
  induction n with
  | zero =>
    intro r hr _
    have : r = [] := List.length_eq_zero_iff.mp hr
    subst this
    refine ⟨fun h => absurd rfl h, by simp [hzs, S1], fun x => ?_⟩
    simp only [hzs, evZ, List.map_nil, List.reverse_nil, ev]; grind
  | succ n ih =>
    intro r hr hb
    have hne : r ≠ [] := fun z => by rw [z] at hr; cases hr
    have er := List.dropLast_concat_getLast hne
    have hdl : r.dropLast.length = n := by rw [List.length_dropLast]; omega
    generalize r.dropLast = r0 at er hdl
    generalize r.getLast hne = o at er
    subst er
    obtain ⟨k1, k2, k3⟩ := ih r0 hdl fun o ho => hb o (List.mem_append_left _ ho)
    have ho := hb o (by simp)
    rw [hzs_snoc, hdl, Int.one_mul]
    obtain ⟨f1, f2, f3, f4⟩ := hz_facts hi (hzs is ib r0 [] 1) o (ib ^ n)
    have hpow : (ib ^ n).natAbs ≤ 2 ^ (mi * n) := by
      rw [Int.natAbs_pow, Nat.pow_mul]
      exact Nat.pow_le_pow_left b2 n
    refine ⟨fun _ => ?_, ?_, fun x => ?_⟩
    · rw [f2]
      by_cases h0 : r0 = []
      · subst h0
        have : n = 0 := by simpa using hdl.symm
        subst this
        simp [hzs]
      · have kk := k1 h0
        have hn : 0 < n := by rw [← hdl]; exact List.length_pos_iff.mpr h0
        have hF : hzs is ib r0 [] 1 ≠ [] := fun z => by rw [z, List.length_nil] at kk; omega
        rw [if_neg hF, kk]
        have e1 : n + 1 - 1 = (n - 1) + 1 := by omega
        rw [e1, Nat.succ_mul]
        omega
    · refine Nat.le_trans f3 ?_
      have a1 : o.natAbs * (ib ^ n).natAbs ≤ 2 ^ mo * 2 ^ (mi * n) := Nat.mul_le_mul ho hpow
      by_cases h0 : r0 = []
      · subst h0
        have : n = 0 := by simpa using hdl.symm
        subst this
        simp only [hzs, S1, Nat.zero_mul, Nat.mul_zero, Nat.pow_zero, Nat.mul_one, Nat.zero_add, Nat.sub_self, Nat.add_zero] at a1 ⊢
        exact a1
      · have hn : 0 < n := by rw [← hdl]; exact List.length_pos_iff.mpr h0
        have a2 : S1 (hzs is ib r0 [] 1) * S1 is ≤ 2 ^ (mo + (n - 1) * (mi + 1)) * 2 ^ mi := Nat.mul_le_mul k2 b1
        rw [← Nat.pow_add] at a1 a2
        obtain ⟨j, rfl⟩ : ∃ j, n = j + 1 := ⟨n - 1, by omega⟩
        have e1 : j + 1 + 1 - 1 = j + 1 := by omega
        have e2 : j + 1 - 1 = j := by omega
        rw [e2] at a2
        rw [e1]
        have e3 : mo + (j + 1) * (mi + 1) = (mo + j * (mi + 1) + mi) + 1 := by rw [Nat.succ_mul]; omega
        have e4 : mo + mi * (j + 1) ≤ mo + j * (mi + 1) + mi := by
          rw [Nat.mul_succ, Nat.mul_succ j mi, Nat.mul_comm mi j]; omega
        have e5 : (2 : Nat) ^ (mo + mi * (j + 1)) ≤ 2 ^ (mo + j * (mi + 1) + mi) := Nat.pow_le_pow_right (by decide) e4
        rw [e3, Nat.pow_succ]
        omega
    · rw [f4 x, List.reverse_append, List.reverse_singleton, List.singleton_append, List.map_cons]
      have e1 := k3 x
      have e2 : ev ((o : Rat) :: (r0.reverse).map fun (k : Int) => (k : Rat)) (evZ is x / (ib : Rat)) = (o : Rat) + (evZ is x / (ib : Rat)) * ev ((r0.reverse).map fun (k : Int) => (k : Rat)) (evZ is x / (ib : Rat)) := rfl
      rw [e2, Rat.pow_succ]
      have e3 : ((ib ^ n : Int) : Rat) = (ib : Rat) ^ n := Rat.intCast_pow ib n
      rw [e3]
      generalize (ib : Rat) ^ n = u at *
      generalize ev ((r0.reverse).map fun (k : Int) => (k : Rat)) (evZ is x / (ib : Rat)) = z at *
      generalize evZ (hzs is ib r0 [] 1) x = F at *
      generalize evZ is x = y at *
      generalize (ib : Rat) = b at *
      have e4 : u * b * ((o : Rat) + y / b * z) = u * b * (o : Rat) + y * (u * z) := by grind
      rw [e4, ← e1]; grind
/-- the whole of what the program's putting in makes -/
theorem put_ev {os is : List Int} {ob ib : Int} (hob : 0 < ob) (hib : 0 < ib) (hi : is ≠ []) (ho : os ≠ []) {mi mo : Nat} (b1 : S1 is ≤ 2 ^ mi) (b2 : ib.natAbs ≤ 2 ^ mi) (c1 : S1 os ≤ 2 ^ mo) (c2 : ob.natAbs ≤ 2 ^ mo) :
    0 < ob * ib ^ (os.length - 1) ∧ (ob * ib ^ (os.length - 1)).natAbs ≤ 2 ^ (mo + (os.length - 1) * (mi + 1)) ∧ S1 (hzs is ib os.reverse [] 1) ≤ 2 ^ (mo + (os.length - 1) * (mi + 1)) ∧
    (hzs is ib os.reverse [] 1).length = (os.length - 1) * (is.length - 1) + 1 ∧ ∀ x, ev (asQ (hzs is ib os.reverse [] 1) (ob * ib ^ (os.length - 1))) x = ev (asQ os ob) (ev (asQ is ib) x) := by
  have hrl : os.reverse.length = os.length := List.length_reverse
  obtain ⟨h1, h2, h3⟩ := hzs_facts hi hib (mo := mo) b1 b2 os.length os.reverse hrl fun o h => Nat.le_trans (S1_mem (List.mem_reverse.mp h)) c1
  have hol : 0 < os.length := List.length_pos_iff.mpr ho
  have hne : os.reverse ≠ [] := fun z => by rw [z, List.length_nil] at hrl; omega
  have hp : 0 < ob * ib ^ (os.length - 1) := Int.mul_pos hob (Int.pow_pos hib)
  refine ⟨hp, ?_, h2, h1 hne, fun x => ?_⟩
  · rw [Int.natAbs_mul, Int.natAbs_pow, Nat.pow_add]
    refine Nat.mul_le_mul c2 (Nat.le_trans (Nat.pow_le_pow_left b2 _) ?_)
    rw [← Nat.pow_mul]
    refine Nat.pow_le_pow_right (by decide) ?_
    rw [Nat.mul_comm, Nat.mul_succ]; omega
  · have e1 := ev_asQ hp x (hzs is ib os.reverse [] 1)
    have e2 := ev_asQ hib x is
    have e3 := h3 x
    have n1 : (ib : Rat) ≠ 0 := fun z => by have := Rat.intCast_eq_zero_iff.mp z; omega
    have n2 : (ob : Rat) ≠ 0 := fun z => by have := Rat.intCast_eq_zero_iff.mp z; omega
    have ey : evZ is x / (ib : Rat) = ev (asQ is ib) x := by rw [← e2]; grind
    rw [List.reverse_reverse, ey] at e3
    have e4 := ev_asQ hob (ev (asQ is ib) x) os
    have e5 : evZ os (ev (asQ is ib) x) = ev (os.map fun (k : Int) => (k : Rat)) (ev (asQ is ib) x) := rfl
    rw [← e5, ← e4] at e3
    obtain ⟨j, hj⟩ : ∃ j, os.length = j + 1 := ⟨os.length - 1, by omega⟩
    rw [hj] at e1 e3 ⊢
    rw [Nat.add_sub_cancel] at e1 ⊢
    rw [Rat.intCast_mul, Rat.intCast_pow] at e1
    rw [Rat.pow_succ] at e3
    have n3 : (ib : Rat) ^ j ≠ 0 := by
      intro z
      have : ((ib ^ j : Int) : Rat) = 0 := by rw [Rat.intCast_pow]; exact z
      have := Rat.intCast_eq_zero_iff.mp this
      have := Int.pow_pos (m := j) hib
      omega
    generalize ev (asQ (hzs is ib os.reverse [] 1) (ob * ib ^ j)) x = F at *
    generalize evZ (hzs is ib os.reverse [] 1) x = G at *
    generalize ev (asQ os ob) (ev (asQ is ib) x) = y at *
    generalize (ib : Rat) ^ j = u at *
    generalize (ib : Rat) = b at *
    generalize (ob : Rat) = c at *
    have e6 : b * (c * u * F) = b * (c * u * y) := by rw [e1, e3]; grind
    grind
theorem inn_nought (near : Nat) : ∀ (q F : List Int) (far : Nat), inn F near 0 q far = F
  | [], _, _ => rfl
  | b :: q, F, far => by
    have e : F.set (near + far) (F.getD (near + far) 0 + 0 * b) = F := by
      rw [Int.zero_mul, Int.add_zero]
      by_cases h : near + far < F.length
      · rw [List.getD, List.getElem?_eq_getElem h]
        exact List.set_getElem_self h
      · exact List.set_eq_of_length_le (by omega)
    show inn (F.set (near + far) (F.getD (near + far) 0 + 0 * b)) near 0 q (far + 1) = F
    rw [e, inn_nought near q F (far + 1)]
theorem pst_skip {p q : List Int} {i : Nat} (hi : i < p.length) (h0 : p.getD i 0 = 0) : pst p q i 0 = pst p q (i + 1) 0 := by
  rw [← pst_row hi]
  unfold pst
  rw [h0, inn_nought, inn_nought]
theorem pst_startZ (p q : List Int) : pst p q 0 0 = List.replicate (p.length + q.length - 1) 0 := by
  unfold pst; rw [List.take_zero, List.take_zero]; rfl
theorem pst_endZ (p q : List Int) : pst p q p.length 0 = convZ p q := by
  unfold pst convZ; rw [List.take_length, List.take_zero]; rfl
/-! ### sizes along a word of the program -/
def nb (n : Nat) : Nat → Nat
  | 0 => 20
  | i + 1 => 20 + n * (nb n i + 1)
structure WdOk (n k : Nat) : Prop where
  n1 : 1 ≤ n
  n3 : n ≤ 3
  k1 : 1 ≤ k
  k8 : k ≤ 8
  p : n ^ k ≤ 256
theorem wd_bits_dec : ∀ n ∈ [1, 2, 3], ∀ k ∈ List.range 9, n ^ k ≤ 256 → ∀ i ∈ List.range 8, i + 1 < k → 20 + (n + 1) * (nb n i + 1) ≤ 8400 := by decide
theorem wd_last_dec : ∀ n ∈ [1, 2, 3], ∀ k ∈ List.range 9, n ^ k ≤ 256 → nb n (k - 1) ≤ 8400 := by decide
theorem WdOk.n {n k : Nat} (h : WdOk n k) : n ∈ [1, 2, 3] := by
  have h1 := h.n1
  have h2 := h.n3
  have : n = 1 ∨ n = 2 ∨ n = 3 := by omega
  rcases this with rfl | rfl | rfl <;> simp
theorem WdOk.bits {n k : Nat} (h : WdOk n k) {i : Nat} (hi : i + 1 < k) : 20 + (n + 1) * (nb n i + 1) ≤ 8400 :=
  wd_bits_dec n h.n k (List.mem_range.mpr (by have := h.k8; omega)) h.p i (List.mem_range.mpr (by have := h.k8; omega)) hi
theorem WdOk.last {n k : Nat} (h : WdOk n k) : nb n (k - 1) ≤ 8400 := wd_last_dec n h.n k (List.mem_range.mpr (by have := h.k8; omega)) h.p
theorem WdOk.pow {n k : Nat} (h : WdOk n k) {i : Nat} (hi : i ≤ k) : n ^ i ≤ 256 := Nat.le_trans (Nat.pow_le_pow_right h.n1 hi) h.p
theorem WdOk.le {n k j : Nat} (h : WdOk n k) (h1 : 1 ≤ j) (h2 : j ≤ k) : WdOk n j := ⟨h.n1, h.n3, h1, Nat.le_trans h2 h.k8, h.pow h2⟩
theorem wpart_ok {n : Nat} {a : List Rat} (ha : Ltr a ∧ a.length ≤ n + 1) {r : List (List Rat)} (hr : ∀ L ∈ r, Ltr L ∧ L.length ≤ n + 1) : ∀ i : Nat, i ≤ r.length → Good ((r.take i).foldl lawWithin a) ∧ ((r.take i).foldl lawWithin a).length ≤ n ^ (i + 1) + 1
  | 0, _ => ⟨ha.1.good, by simpa using ha.2⟩
  | i + 1, h => by
    obtain ⟨h1, h3⟩ := wpart_ok ha hr i (by omega)
    have hl : i < r.length := by omega
    have e : (r.take (i + 1)).foldl lawWithin a = lawWithin ((r.take i).foldl lawWithin a) r[i] := by
      rw [List.take_add_one, List.getElem?_eq_getElem hl, List.foldl_append]; rfl
    obtain ⟨hL, hL2⟩ := hr _ (List.getElem_mem hl)
    obtain ⟨g1, g2, _⟩ := lawWithin_good h1 hL.good
    rw [e]
    refine ⟨g1, ?_⟩
    rw [g2]
    have : (r[i].length - 1) * (((r.take i).foldl lawWithin a).length - 1) ≤ n * n ^ (i + 1) := Nat.mul_le_mul (by omega) (by omega)
    rw [Nat.pow_succ n (i + 1), Nat.mul_comm (n ^ (i + 1))]
    omega
end K65
namespace K65
open PySem PySem.Spec PyProof.Rows L2
def topS (i : Nat) : Stmt := PySem.Challenge.pw_stepswithin_k65_whole_relations_of_words.main.body.getD i (.Pass ⟨0, 0, 0, 0⟩)
/-! ### the text: the defs, their scopes -/
abbrev s_is_from : Stmt := topS 13
abbrev N_is_from : List Str := ["value", "low", "high"]
theorem sc_is_from : FnScope N_is_from ["value", "low", "high"] (defScope s_is_from) := ⟨rfl, rfl, rfl, by decide +kernel, rfl, by decide +kernel, by decide +kernel⟩
abbrev s_is_number : Stmt := topS 14
abbrev N_is_number : List Str := ["value"]
theorem sc_is_number : FnScope N_is_number ["value"] (defScope s_is_number) := ⟨rfl, rfl, rfl, by decide +kernel, rfl, by decide +kernel, by decide +kernel⟩
abbrev s_is_step : Stmt := topS 15
abbrev N_is_step : List Str := ["value", "number"]
theorem sc_is_step : FnScope N_is_step ["value"] (defScope s_is_step) := ⟨rfl, rfl, rfl, by decide +kernel, rfl, by decide +kernel, by decide +kernel⟩
abbrev s_need_row : Stmt := topS 16
abbrev N_need_row : List Str := ["value", "index", "step"]
theorem sc_need_row : FnScope N_need_row ["value"] (defScope s_need_row) := ⟨rfl, rfl, rfl, by decide +kernel, rfl, by decide +kernel, by decide +kernel⟩
abbrev s_number_of : Stmt := topS 17
abbrev N_number_of : List Str := ["above", "below", "whole"]
theorem sc_number_of : FnScope N_number_of ["above", "below"] (defScope s_number_of) := ⟨rfl, rfl, rfl, by decide +kernel, rfl, by decide +kernel, by decide +kernel⟩
abbrev s_reduced : Stmt := topS 18
abbrev N_reduced : List Str := ["numbers", "below", "many", "whole", "number"]
theorem sc_reduced : FnScope N_reduced ["numbers", "below"] (defScope s_reduced) := ⟨rfl, rfl, rfl, by decide +kernel, rfl, by decide +kernel, by decide +kernel⟩
abbrev s_as_poly : Stmt := topS 19
abbrev N_as_poly : List Str := ["step", "below", "number"]
theorem sc_as_poly : FnScope N_as_poly ["step"] (defScope s_as_poly) := ⟨rfl, rfl, rfl, by decide +kernel, rfl, by decide +kernel, by decide +kernel⟩
abbrev s_as_step : Stmt := topS 20
abbrev N_as_step : List Str := ["poly", "number"]
theorem sc_as_step : FnScope N_as_step ["poly"] (defScope s_as_step) := ⟨rfl, rfl, rfl, by decide +kernel, rfl, by decide +kernel, by decide +kernel⟩
abbrev s_times_so : Stmt := topS 21
abbrev N_times_so : List Str := ["one", "other", "found", "near", "first", "far", "second"]
theorem sc_times_so : FnScope N_times_so ["one", "other"] (defScope s_times_so) := ⟨rfl, rfl, rfl, by decide +kernel, rfl, by decide +kernel, by decide +kernel⟩
abbrev s_put_in : Stmt := topS 22
abbrev N_put_in : List Str := ["outer", "inner", "found", "shift", "below", "number"]
theorem sc_put_in : FnScope N_put_in ["outer", "inner"] (defScope s_put_in) := ⟨rfl, rfl, rfl, by decide +kernel, rfl, by decide +kernel, by decide +kernel⟩
abbrev s_check_degree : Stmt := topS 25
abbrev N_check_degree : List Str := ["degree"]
theorem sc_check_degree : FnScope N_check_degree ["degree"] (defScope s_check_degree) := ⟨rfl, rfl, rfl, by decide +kernel, rfl, by decide +kernel, by decide +kernel⟩
abbrev s_whole_of : Stmt := topS 26
abbrev N_whole_of : List Str := ["polys", "found", "poly"]
theorem sc_whole_of : FnScope N_whole_of ["polys"] (defScope s_whole_of) := ⟨rfl, rfl, rfl, by decide +kernel, rfl, by decide +kernel, by decide +kernel⟩
abbrev s_degree_of_word : Stmt := topS 31
abbrev N_degree_of_word : List Str := ["steps", "word", "found", "letter"]
theorem sc_degree_of_word : FnScope N_degree_of_word ["steps", "word"] (defScope s_degree_of_word) := ⟨rfl, rfl, rfl, by decide +kernel, rfl, by decide +kernel, by decide +kernel⟩
abbrev s_word_poly : Stmt := topS 32
abbrev N_word_poly : List Str := ["steps", "word", "letter"]
theorem sc_word_poly : FnScope N_word_poly ["steps", "word"] (defScope s_word_poly) := ⟨rfl, rfl, rfl, by decide +kernel, rfl, by decide +kernel, by decide +kernel⟩
abbrev s_need_most : Stmt := topS 33
abbrev N_need_most : List Str := ["value"]
theorem sc_need_most : FnScope N_need_most ["value"] (defScope s_need_most) := ⟨rfl, rfl, rfl, by decide +kernel, rfl, by decide +kernel, by decide +kernel⟩
abbrev s_words_to : Stmt := topS 34
abbrev N_words_to : List Str := ["steps", "most", "many", "line", "turn", "step", "widest", "greatest", "found", "longest", "longer", "word", "letter"]
theorem sc_words_to : FnScope N_words_to ["steps", "most"] (defScope s_words_to) := ⟨rfl, rfl, rfl, by decide +kernel, rfl, by decide +kernel, by decide +kernel⟩
abbrev s_classes_so : Stmt := topS 35
abbrev N_classes_so : List Str := ["steps", "most", "table", "word", "whole"]
theorem sc_classes_so : FnScope N_classes_so ["steps", "most"] (defScope s_classes_so) := ⟨rfl, rfl, rfl, by decide +kernel, rfl, by decide +kernel, by decide +kernel⟩
abbrev s_word_key : Stmt := topS 36
abbrev N_word_key : List Str := ["word"]
theorem sc_word_key : FnScope N_word_key ["word"] (defScope s_word_key) := ⟨rfl, rfl, rfl, by decide +kernel, rfl, by decide +kernel, by decide +kernel⟩
abbrev s_relation_key : Stmt := topS 37
abbrev N_relation_key : List Str := ["pair"]
theorem sc_relation_key : FnScope N_relation_key ["pair"] (defScope s_relation_key) := ⟨rfl, rfl, rfl, by decide +kernel, rfl, by decide +kernel, by decide +kernel⟩
abbrev s_relations : Stmt := topS 38
abbrev N_relations : List Str := ["steps", "most", "found", "words", "index", "one", "other"]
theorem sc_relations : FnScope N_relations ["steps", "most"] (defScope s_relations) := ⟨rfl, rfl, rfl, by decide +kernel, rfl, by decide +kernel, by decide +kernel⟩
abbrev s_is_free_to : Stmt := topS 39
abbrev N_is_free_to : List Str := ["steps", "most", "words"]
theorem sc_is_free_to : FnScope N_is_free_to ["steps", "most"] (defScope s_is_free_to) := ⟨rfl, rfl, rfl, by decide +kernel, rfl, by decide +kernel, by decide +kernel⟩
abbrev s_law_mixed : Stmt := topS 41
abbrev N_law_mixed : List Str := ["_law_cell", "_law_k"]
theorem sc_law_mixed : FnScope N_law_mixed ["_law_cell", "_law_k"] (defScope s_law_mixed) := ⟨rfl, rfl, rfl, by decide +kernel, rfl, by decide +kernel, by decide +kernel⟩
abbrev s_law_begin : Stmt := topS 42
abbrev N_law_begin : List Str := ["_law_script", "_law_cells_so", "_law_cell"]
theorem sc_law_begin : FnScope N_law_begin ["_law_script"] (defScope s_law_begin) := ⟨rfl, rfl, rfl, by decide +kernel, rfl, by decide +kernel, by decide +kernel⟩
abbrev s_law_draw : Stmt := topS 43
abbrev N_law_draw : List Str := ["_law_state", "_law_limit", "_law_at", "_law_place", "_law_left", "_law_number_here"]
theorem sc_law_draw : FnScope N_law_draw ["_law_state", "_law_limit"] (defScope s_law_draw) := ⟨rfl, rfl, rfl, by decide +kernel, rfl, by decide +kernel, by decide +kernel⟩
abbrev s_law_number : Stmt := topS 44
abbrev N_law_number : List Str := ["_law_state", "_law_most_to", "_law_below"]
theorem sc_law_number : FnScope N_law_number ["_law_state", "_law_most_to", "_law_below"] (defScope s_law_number) := ⟨rfl, rfl, rfl, by decide +kernel, rfl, by decide +kernel, by decide +kernel⟩
abbrev s_law_step : Stmt := topS 45
abbrev N_law_step : List Str := ["_law_state", "_law_size", "_law_most_to", "_law_below", "_law_power", "_law_found", "_law_head"]
theorem sc_law_step : FnScope N_law_step ["_law_state", "_law_size", "_law_most_to", "_law_below"] (defScope s_law_step) := ⟨rfl, rfl, rfl, by decide +kernel, rfl, by decide +kernel, by decide +kernel⟩
abbrev s_law_row : Stmt := topS 46
abbrev N_law_row : List Str := ["_law_state", "_law_sizes_so", "_law_most_to", "_law_below", "_law_size"]
theorem sc_law_row : FnScope N_law_row ["_law_state", "_law_sizes_so", "_law_most_to", "_law_below"] (defScope s_law_row) := ⟨rfl, rfl, rfl, by decide +kernel, rfl, by decide +kernel, by decide +kernel⟩
abbrev s_law_divisor : Stmt := topS 47
abbrev N_law_divisor : List Str := ["_law_one", "_law_other"]
theorem sc_law_divisor : FnScope N_law_divisor ["_law_one", "_law_other"] (defScope s_law_divisor) := ⟨rfl, rfl, rfl, by decide +kernel, rfl, by decide +kernel, by decide +kernel⟩
abbrev s_law_frac : Stmt := topS 48
abbrev N_law_frac : List Str := ["_law_above", "_law_below", "_law_shared"]
theorem sc_law_frac : FnScope N_law_frac ["_law_above", "_law_below"] (defScope s_law_frac) := ⟨rfl, rfl, rfl, by decide +kernel, rfl, by decide +kernel, by decide +kernel⟩
abbrev s_law_add : Stmt := topS 49
abbrev N_law_add : List Str := ["_law_one", "_law_other"]
theorem sc_law_add : FnScope N_law_add ["_law_one", "_law_other"] (defScope s_law_add) := ⟨rfl, rfl, rfl, by decide +kernel, rfl, by decide +kernel, by decide +kernel⟩
abbrev s_law_mul : Stmt := topS 50
abbrev N_law_mul : List Str := ["_law_one", "_law_other"]
theorem sc_law_mul : FnScope N_law_mul ["_law_one", "_law_other"] (defScope s_law_mul) := ⟨rfl, rfl, rfl, by decide +kernel, rfl, by decide +kernel, by decide +kernel⟩
abbrev s_law_trim : Stmt := topS 51
abbrev N_law_trim : List Str := ["_law_told", "_law_found"]
theorem sc_law_trim : FnScope N_law_trim ["_law_told"] (defScope s_law_trim) := ⟨rfl, rfl, rfl, by decide +kernel, rfl, by decide +kernel, by decide +kernel⟩
abbrev s_law_sum : Stmt := topS 52
abbrev N_law_sum : List Str := ["_law_one", "_law_other", "_law_found", "_law_power", "_law_near", "_law_far"]
theorem sc_law_sum : FnScope N_law_sum ["_law_one", "_law_other"] (defScope s_law_sum) := ⟨rfl, rfl, rfl, by decide +kernel, rfl, by decide +kernel, by decide +kernel⟩
abbrev s_law_product : Stmt := topS 53
abbrev N_law_product : List Str := ["_law_one", "_law_other", "_law_found", "_law_near", "_law_first", "_law_far", "_law_second"]
theorem sc_law_product : FnScope N_law_product ["_law_one", "_law_other"] (defScope s_law_product) := ⟨rfl, rfl, rfl, by decide +kernel, rfl, by decide +kernel, by decide +kernel⟩
abbrev s_law_within : Stmt := topS 54
abbrev N_law_within : List Str := ["_law_inner", "_law_outer", "_law_found", "_law_number_here"]
theorem sc_law_within : FnScope N_law_within ["_law_inner", "_law_outer"] (defScope s_law_within) := ⟨rfl, rfl, rfl, by decide +kernel, rfl, by decide +kernel, by decide +kernel⟩
abbrev s_law_whole : Stmt := topS 55
abbrev N_law_whole : List Str := ["_law_rows_so", "_law_found", "_law_told"]
theorem sc_law_whole : FnScope N_law_whole ["_law_rows_so"] (defScope s_law_whole) := ⟨rfl, rfl, rfl, by decide +kernel, rfl, by decide +kernel, by decide +kernel⟩
abbrev s_law_word_step : Stmt := topS 56
abbrev N_law_word_step : List Str := ["_law_rows_so", "_law_letters_so", "_law_letter"]
theorem sc_law_word_step : FnScope N_law_word_step ["_law_rows_so", "_law_letters_so"] (defScope s_law_word_step) := ⟨rfl, rfl, rfl, by decide +kernel, rfl, by decide +kernel, by decide +kernel⟩
abbrev s_law_words : Stmt := topS 57
abbrev N_law_words : List Str := ["_law_many_so", "_law_most_so", "_law_found", "_law_rows", "_law_turn", "_law_more", "_law_row_here", "_law_letter"]
theorem sc_law_words : FnScope N_law_words ["_law_many_so", "_law_most_so"] (defScope s_law_words) := ⟨rfl, rfl, rfl, by decide +kernel, rfl, by decide +kernel, by decide +kernel⟩
abbrev s_law_heard : Stmt := topS 58
abbrev N_law_heard : List Str := ["_law_call", "_law_told", "error_so"]
theorem sc_law_heard : FnScope N_law_heard ["_law_call"] (defScope s_law_heard) := ⟨rfl, rfl, rfl, by decide +kernel, rfl, by decide +kernel, by decide +kernel⟩
abbrev s_law_like : Stmt := topS 59
abbrev N_law_like : List Str := ["_law_got", "_law_due"]
theorem sc_law_like : FnScope N_law_like ["_law_got", "_law_due"] (defScope s_law_like) := ⟨rfl, rfl, rfl, by decide +kernel, rfl, by decide +kernel, by decide +kernel⟩
abbrev s_law_some_steps : Stmt := topS 60
abbrev N_law_some_steps : List Str := ["_law_state", "_law_two", "_law_three", "_law_minus_so", "_law_pick", "_law_told", "_law_on", "_law_turn"]
theorem sc_law_some_steps : FnScope N_law_some_steps ["_law_state"] (defScope s_law_some_steps) := ⟨rfl, rfl, rfl, by decide +kernel, rfl, by decide +kernel, by decide +kernel⟩
abbrev s_law_right : Stmt := topS 61
abbrev N_law_right : List Str := ["_law_state", "_law_rows_so", "_law_most_so", "_law_words_so", "_law_word_so", "_law_steps_so", "_law_due", "_law_free", "_law_still", "_law_near", "_law_one", "_law_far", "_law_got"]
theorem sc_law_right : FnScope N_law_right ["_law_state"] (defScope s_law_right) := ⟨rfl, rfl, rfl, by decide +kernel, rfl, by decide +kernel, by decide +kernel⟩
abbrev s_law_by_hand : Stmt := topS 62
abbrev N_law_by_hand : List Str := ["_law_minus_so", "_law_more", "_law_got", "_law_due", "_law_high", "_law_odd", "_law_three", "_law_two"]
theorem sc_law_by_hand : FnScope N_law_by_hand [] (defScope s_law_by_hand) := ⟨rfl, rfl, rfl, by decide +kernel, rfl, by decide +kernel, by decide +kernel⟩
abbrev s_law : Stmt := topS 63
abbrev N_law : List Str := ["_law_script", "_law_state"]
theorem sc_law : FnScope N_law ["_law_script"] (defScope s_law) := ⟨rfl, rfl, rfl, by decide +kernel, rfl, by decide +kernel, by decide +kernel⟩
/-- a def of the text, where it stands -/
structure DF (K : PySem.W.Frag) (mg : Str → Option Value) (x : Str) (st : Stmt) (ps : List Str) where
  f : Addr
  fd : FuncData
  F : Fun K x x st f fd
  g : mg x = some (.ref f)
  b : Binds K fd ps []
/-- all that the walks ask of the top -/
structure Tx (K : PySem.W.Frag) (mg : Str → Option Value) where
  is_from : DF K mg "is_from" s_is_from ["value", "low", "high"]
  is_number : DF K mg "is_number" s_is_number ["value"]
  is_step : DF K mg "is_step" s_is_step ["value"]
  need_row : DF K mg "need_row" s_need_row ["value"]
  number_of : DF K mg "number_of" s_number_of ["above", "below"]
  reduced : DF K mg "reduced" s_reduced ["numbers", "below"]
  as_poly : DF K mg "as_poly" s_as_poly ["step"]
  as_step : DF K mg "as_step" s_as_step ["poly"]
  times_so : DF K mg "times_so" s_times_so ["one", "other"]
  put_in : DF K mg "put_in" s_put_in ["outer", "inner"]
  check_degree : DF K mg "check_degree" s_check_degree ["degree"]
  whole_of : DF K mg "whole_of" s_whole_of ["polys"]
  degree_of_word : DF K mg "degree_of_word" s_degree_of_word ["steps", "word"]
  word_poly : DF K mg "word_poly" s_word_poly ["steps", "word"]
  need_most : DF K mg "need_most" s_need_most ["value"]
  words_to : DF K mg "words_to" s_words_to ["steps", "most"]
  classes_so : DF K mg "classes_so" s_classes_so ["steps", "most"]
  word_key : DF K mg "word_key" s_word_key ["word"]
  relation_key : DF K mg "relation_key" s_relation_key ["pair"]
  relations : DF K mg "relations" s_relations ["steps", "most"]
  is_free_to : DF K mg "is_free_to" s_is_free_to ["steps", "most"]
  law_mixed : DF K mg "_law_mixed" s_law_mixed ["_law_cell", "_law_k"]
  law_begin : DF K mg "_law_begin" s_law_begin ["_law_script"]
  law_draw : DF K mg "_law_draw" s_law_draw ["_law_state", "_law_limit"]
  law_number : DF K mg "_law_number" s_law_number ["_law_state", "_law_most_to", "_law_below"]
  law_step : DF K mg "_law_step" s_law_step ["_law_state", "_law_size", "_law_most_to", "_law_below"]
  law_row : DF K mg "_law_row" s_law_row ["_law_state", "_law_sizes_so", "_law_most_to", "_law_below"]
  law_divisor : DF K mg "_law_divisor" s_law_divisor ["_law_one", "_law_other"]
  law_frac : DF K mg "_law_frac" s_law_frac ["_law_above", "_law_below"]
  law_add : DF K mg "_law_add" s_law_add ["_law_one", "_law_other"]
  law_mul : DF K mg "_law_mul" s_law_mul ["_law_one", "_law_other"]
  law_trim : DF K mg "_law_trim" s_law_trim ["_law_told"]
  law_sum : DF K mg "_law_sum" s_law_sum ["_law_one", "_law_other"]
  law_product : DF K mg "_law_product" s_law_product ["_law_one", "_law_other"]
  law_within : DF K mg "_law_within" s_law_within ["_law_inner", "_law_outer"]
  law_whole : DF K mg "_law_whole" s_law_whole ["_law_rows_so"]
  law_word_step : DF K mg "_law_word_step" s_law_word_step ["_law_rows_so", "_law_letters_so"]
  law_words : DF K mg "_law_words" s_law_words ["_law_many_so", "_law_most_so"]
  law_heard : DF K mg "_law_heard" s_law_heard ["_law_call"]
  law_like : DF K mg "_law_like" s_law_like ["_law_got", "_law_due"]
  law_some_steps : DF K mg "_law_some_steps" s_law_some_steps ["_law_state"]
  law_right : DF K mg "_law_right" s_law_right ["_law_state"]
  law_by_hand : DF K mg "_law_by_hand" s_law_by_hand []
  m_isinstance : mg "isinstance" = none
  m_int : mg "int" = none
  m_bool : mg "bool" = none
  m_tuple : mg "tuple" = none
  m_len : mg "len" = none
  m_enumerate : mg "enumerate" = none
  m_reversed : mg "reversed" = none
  m_range : mg "range" = none
  m_max : mg "max" = none
  m_list : mg "list" = none
  m_sorted : mg "sorted" = none
  m_repr : mg "repr" = none
  m_super : mg "super" = none
  m_gcd : mg "gcd" = some (.builtin "math.gcd")
  c_MOST_PART : ∃ t, mg "MOST_PART" = some (.int (1000000000000000000000000000000000000000000000000000000000000) t)
  c_MOST_DEGREE : ∃ t, mg "MOST_DEGREE" = some (.int 64 t)
  c_MOST_ROW : ∃ t, mg "MOST_ROW" = some (.int 8 t)
  c_MOST_WHOLE : ∃ t, mg "MOST_WHOLE" = some (.int 256 t)
  c_MOST_LETTERS : ∃ t, mg "MOST_LETTERS" = some (.int 8 t)
  c_MOST_WORDS : ∃ t, mg "MOST_WORDS" = some (.int 400 t)
  c_MOST_DEGREE_OF_WORD : ∃ t, mg "MOST_DEGREE_OF_WORD" = some (.int 256 t)
/-! ### data over the abstract heap -/
/-- tuples stay -/
def Tle (H H' : Hp) : Prop := ∀ a xs, Rd H a (.tup xs) → Rd H' a (.tup xs)
theorem Tle.refl (H : Hp) : Tle H H := fun _ _ h => h
theorem Tle.trans {H H1 H2 : Hp} (a : Tle H H1) (b : Tle H1 H2) : Tle H H2 := fun x xs h => b x xs (a x xs h)
theorem Tle.same {H H' : Hp} (e : Same H H') : Tle H H' := fun a xs h => by
  rcases h with h | ⟨o, h⟩
  · exact .inl (e _ _ h)
  · exact .inr ⟨o, e _ _ h⟩
theorem Tle.new {H : Hp} {p : Addr} {o : HO} (h : H p = none) : Tle H (upd H p o) := fun a xs r => by
  have ne : a ≠ p := fun e => by
    rcases r with r | ⟨_, r⟩ <;> rw [e, h] at r <;> cases r
  rcases r with r | ⟨u, r⟩
  · exact .inl (by rw [upd_ne ne]; exact r)
  · exact .inr ⟨u, by rw [upd_ne ne]; exact r⟩
theorem Tle.lst {H : Hp} {p : Addr} {o : HO} {ys : List V} (h : H p = some (.lst ys)) : Tle H (upd H p o) := fun a xs r => by
  have ne : a ≠ p := fun e => by
    rcases r with r | ⟨_, r⟩ <;> rw [e, h] at r <;> cases r
  rcases r with r | ⟨u, r⟩
  · exact .inl (by rw [upd_ne ne]; exact r)
  · exact .inr ⟨u, by rw [upd_ne ne]; exact r⟩
theorem Tle.sq {K : PySem.W.Frag} {H H' : Hp} (e : Tle H H') {a : Addr} {xs : List V} (h : SqT K H a xs) : SqT K H' a xs := by
  rcases h with h | h
  · exact .inl (e _ _ h)
  · exact .inr h
theorem same_new {H : Hp} {p : Addr} {o : HO} (h : H p = none) : Same H (upd H p o) := fun b x e => by
  rw [upd_ne (ne_of_none e h)]
  exact e
/-- what is new since H0 may be changed -/
theorem sameUpd {H0 H : Hp} (e : Same H0 H) {p : Addr} {o : HO} (h : H0 p = none) : Same H0 (upd H p o) := fun b x q => by
  rw [upd_ne (ne_of_none q h)]
  exact e b x q
theorem sqT {K : PySem.W.Frag} {H : Hp} {a : Addr} {xs : List V} (h : H a = some (.tup xs)) : SqT K H a xs := .inl (.inl h)
theorem sqL {K : PySem.W.Frag} {H : Hp} {a : Addr} {xs : List V} (h : H a = some (.lst xs)) : SqL K H a xs := .inl (.inl h)
/-- a fraction, a step, a row of steps, a word, as values -/
def FrV (K : PySem.W.Frag) (H : Hp) (v : V) (q : Rat) : Prop := ∃ a, v = .ref a ∧ SqT K H a [.int q.num, .int (q.den : Int)]
def StV (K : PySem.W.Frag) (H : Hp) (v : V) (L : List Rat) : Prop := ∃ a vs, v = .ref a ∧ SqT K H a vs ∧ Paired (FrV K H) vs L
def RwV (K : PySem.W.Frag) (H : Hp) (v : V) (R : List (List Rat)) : Prop := ∃ a vs, v = .ref a ∧ SqT K H a vs ∧ Paired (StV K H) vs R
def wdv (w : List Nat) : List V := w.map fun (i : Nat) => V.int (i : Int)
def WdV (K : PySem.W.Frag) (H : Hp) (v : V) (w : List Nat) : Prop := ∃ a, v = .ref a ∧ SqT K H a (wdv w)
theorem FrV.mono {K : PySem.W.Frag} {H H' : Hp} (e : Tle H H') {v : V} {q : Rat} (h : FrV K H v q) : FrV K H' v q :=
  let ⟨a, h1, h2⟩ := h; ⟨a, h1, e.sq h2⟩
theorem pMap {α β : Type} {F G : α → β → Prop} {l₁ : List α} {l₂ : List β} (h : Paired F l₁ l₂) (f : ∀ a b, F a b → G a b) : Paired G l₁ l₂ := L2.Paired.mapP h f
theorem StV.mono {K : PySem.W.Frag} {H H' : Hp} (e : Tle H H') {v : V} {L : List Rat} (h : StV K H v L) : StV K H' v L :=
  let ⟨a, vs, h1, h2, h3⟩ := h; ⟨a, vs, h1, e.sq h2, pMap h3 fun _ _ z => z.mono e⟩
theorem RwV.mono {K : PySem.W.Frag} {H H' : Hp} (e : Tle H H') {v : V} {L : List (List Rat)} (h : RwV K H v L) : RwV K H' v L :=
  let ⟨a, vs, h1, h2, h3⟩ := h; ⟨a, vs, h1, e.sq h2, pMap h3 fun _ _ z => z.mono e⟩
theorem WdV.mono {K : PySem.W.Frag} {H H' : Hp} (e : Tle H H') {v : V} {w : List Nat} (h : WdV K H v w) : WdV K H' v w :=
  let ⟨a, h1, h2⟩ := h; ⟨a, h1, e.sq h2⟩
section
variable {α β : Type} {R : α → β → Prop}
theorem pLen {l₁ : List α} {l₂ : List β} (h : Paired R l₁ l₂) : l₁.length = l₂.length := PySem.Paired.length h
theorem pAt : ∀ {l₁ : List α} {l₂ : List β}, Paired R l₁ l₂ → ∀ {i : Nat} {x : α}, l₁[i]? = some x → ∃ y, l₂[i]? = some y ∧ R x y
  | _, _, .nil, i, x, e => by simp at e
  | _, _, .cons r _, 0, x, e => by simp at e; subst e; exact ⟨_, rfl, r⟩
  | _, _, .cons _ t, i + 1, x, e => by
    obtain ⟨y, h1, h2⟩ := pAt t (i := i) (x := x) (by simpa using e)
    exact ⟨y, by simpa using h1, h2⟩
theorem pAtR : ∀ {l₁ : List α} {l₂ : List β}, Paired R l₁ l₂ → ∀ {i : Nat} {y : β}, l₂[i]? = some y → ∃ x, l₁[i]? = some x ∧ R x y
  | _, _, .nil, i, x, e => by simp at e
  | _, _, .cons r _, 0, x, e => by simp at e; subst e; exact ⟨_, rfl, r⟩
  | _, _, .cons _ t, i + 1, x, e => by
    obtain ⟨y, h1, h2⟩ := pAtR t (i := i) (y := x) (by simpa using e)
    exact ⟨y, by simpa using h1, h2⟩
theorem pApp : ∀ {l₁ m₁ : List α} {l₂ m₂ : List β}, Paired R l₁ l₂ → Paired R m₁ m₂ → Paired R (l₁ ++ m₁) (l₂ ++ m₂)
  | _, _, _, _, .nil, h => h
  | _, _, _, _, .cons r t, h => .cons r (pApp t h)
theorem pSnoc {l₁ : List α} {l₂ : List β} {x : α} {y : β} (h : Paired R l₁ l₂) (r : R x y) : Paired R (l₁ ++ [x]) (l₂ ++ [y]) := pApp h (.cons r .nil)
theorem pSet {x : α} {y : β} (r : R x y) : ∀ {l₁ : List α} {l₂ : List β} (i : Nat), Paired R l₁ l₂ → Paired R (l₁.set i x) (l₂.set i y)
  | _, _, _, .nil => .nil
  | _, _, 0, .cons _ t => .cons r t
  | _, _, i + 1, .cons q t => .cons q (pSet r i t)
theorem pDropLast : ∀ {l₁ : List α} {l₂ : List β}, Paired R l₁ l₂ → Paired R l₁.dropLast l₂.dropLast
  | _, _, .nil => .nil
  | _, _, .cons _ .nil => .nil
  | _, _, .cons r (.cons r2 t) => .cons r (pDropLast (.cons r2 t))
theorem pRep {x : α} {y : β} (r : R x y) : ∀ n : Nat, Paired R (List.replicate n x) (List.replicate n y)
  | 0 => .nil
  | n + 1 => .cons r (pRep r n)
theorem pTake : ∀ {l₁ : List α} {l₂ : List β} (n : Nat), Paired R l₁ l₂ → Paired R (l₁.take n) (l₂.take n)
  | _, _, 0, _ => .nil
  | _, _, _ + 1, .nil => .nil
  | _, _, n + 1, .cons r t => .cons r (pTake n t)
theorem pDrop : ∀ {l₁ : List α} {l₂ : List β} (n : Nat), Paired R l₁ l₂ → Paired R (l₁.drop n) (l₂.drop n)
  | _, _, 0, h => h
  | _, _, _ + 1, .nil => .nil
  | _, _, n + 1, .cons _ t => pDrop n t
theorem pRev : ∀ {l₁ : List α} {l₂ : List β}, Paired R l₁ l₂ → Paired R l₁.reverse l₂.reverse
  | _, _, .nil => .nil
  | _, _, .cons r t => by
    rw [List.reverse_cons, List.reverse_cons]
    exact pSnoc (pRev t) r
end
/-! ### t[::-1], t a tuple -/
theorem fm_congr {α β : Type} {f g : α → Option β} : ∀ {l : List α}, (∀ x ∈ l, f x = g x) → l.filterMap f = l.filterMap g
  | [], _ => rfl
  | a :: l, h => by
    rw [List.filterMap_cons, List.filterMap_cons, h a List.mem_cons_self, fm_congr fun x hx => h x (List.mem_cons_of_mem _ hx)]
theorem pick_rev (xs : Array Value) : ((List.range xs.size).filterMap fun (k : Nat) => xs[(((xs.size : Nat) : Int) - 1 + (k : Int) * (-1)).toNat]?).toArray = xs.toList.reverse.toArray := by
  congr 1
  have key : ∀ (l : List Value), (List.range l.length).filterMap (fun (k : Nat) => l[(((l.length : Nat) : Int) - 1 + (k : Int) * (-1)).toNat]?) = l.reverse := by
    intro l
    have e : ∀ k ∈ List.range l.length, l[(((l.length : Nat) : Int) - 1 + (k : Int) * (-1)).toNat]? = l.reverse[k]? := by
      intro k hk
      have hk' := List.mem_range.mp hk
      have e1 : (((l.length : Nat) : Int) - 1 + (k : Int) * (-1)).toNat = l.length - 1 - k := by omega
      rw [e1, List.getElem?_reverse hk']
    rw [fm_congr e]
    have : ∀ m : List Value, (List.range m.length).filterMap (fun k => m[k]?) = m := by
      intro m
      induction m with
      | nil => rfl
      | cons a m ih =>
        rw [List.length_cons, List.range_succ_eq_map, List.filterMap_cons]
        simp only [List.getElem?_cons_zero, List.filterMap_map]
        congr 1
    have h2 := this l.reverse
    rw [List.length_reverse] at h2
    exact h2
  have := key xs.toList
  simpa using this
/-- a slice's object whose parts say [::-1] -/
structure Back (h : Heap) (sl : Addr) : Prop where
  ex : ∃ lo up st : Value, h.IsSliceOf sl lo up st ∧ IsPart lo none ∧ IsPart up none ∧ IsPart st (some (-1))
/-- a new tuple -/
abbrev freshT (h : Heap) (us : List Value) : Heap := h.push { cls := .type "tuple", data := .seq us.toArray }
section
variable {P : Program} {w : World} {G : Around} {E : Value → Shared → Prop} {s : Shared}
theorem back_adjust (n : Nat) : Builtin.Slice.sliceAdjust none none (-1) (n : Int) = ((n : Int) - 1, -1) := by simp [Builtin.Slice.sliceAdjust]
theorem back_count (n : Nat) : Builtin.Slice.slicePlaces ((n : Int) - 1) (-1) (-1) = n := by
  rw [Builtin.Slice.slicePlaces, if_neg (by decide)]
  split
  · rw [Int.neg_neg, Int.ediv_one]; omega
  · omega
/-- what [::-1] makes of n places: from the last one down, all of them -/
theorem back_applied {sl : Addr} (n : Nat) {Q : Int × Int × Nat → Shared → Prop} (B : Back s.heap sl) (q : Q ((n : Int) - 1, -1, n) s) : wpAny (model P w) G (Builtin.Slice.sliceApplied (.ref sl) (pure (n : Int))) Q E s := by
  obtain ⟨lo, up, st, ⟨o, ho, _, hf⟩, plo, pup, pst⟩ := B.ex
  have part : ∀ {v : Value} {c : Option Int} {R : Option Int → Shared → Prop}, IsPart v c → R c s → wpAny (model P w) G (Builtin.Slice.slicePartIndex v) R E s := fun p r => HT.slicePart_ p r
  have fields : ∀ {R : Value × Value × Value → Shared → Prop}, R (lo, up, st) s → wpAny (model P w) G (Builtin.Slice.sliceFields (.ref sl)) R E s := fun r =>
    wpAny_bind (wpAny_field ho hf (x := lo) rfl (wpAny_bind (wpAny_field ho hf (x := up) rfl (wpAny_bind (wpAny_field ho hf (x := st) rfl (wpAny_pure r))))))
  refine wpAny_bind (fields (wpAny_bind (part pst ?_)))
  show wpAny _ _ (if ((-1 : Int) == 0) = true then _ else _) _ _ s
  rw [if_neg (by decide)]
  refine wpAny_bind (part plo (wpAny_bind (part pup (wpAny_bind (wpAny_pure ?_)))))
  show wpAny _ _ (match Builtin.Slice.sliceAdjust none none (-1) (n : Int) with | (a, b) => pure (a, (-1 : Int), Builtin.Slice.slicePlaces a b (-1))) _ _ s
  rw [back_adjust]
  refine wpAny_pure ?_
  rw [back_count]
  exact q
/-- the built-in itself, asked with such a slice -/
theorem back_meets (t sl : Addr) (us : Array Value) (fit : us.size ≤ sizeLine) :
    Meets (Builtin.«tuple.__getitem__» ⟨[.ref t, .ref sl], []⟩) (fun _ R s => IsTup s.heap t us ∧ Back s.heap sl ∧ R (.ok (.ret (.ref s.heap.objs.size))) { s with heap := freshT s.heap us.toList.reverse }) :=
  .of_wp fun prog w A R s ⟨atT, B, r⟩ => by
    have slT : s.TypeIs (.ref sl) "slice" := let ⟨_, _, _, ⟨o, ho, hc, _⟩, _⟩ := B.ex; ⟨o, ho, hc⟩
    refine wpAny_bind (m := Builtin.Tuple.tupleItemsOf (.ref t)) (tupleItemsOf_ atT (wpAny_bind (wpAny_typeOf slT ?_)))
    rw [if_pos (by decide)]
    refine wpAny_bind (back_applied us.size B ?_)
    show wpAny _ _ (if ((((us.size : Nat) : Int) - 1 == 0) && ((-1 : Int) == 1) && (us.size == us.size)) = true then _ else _) _ _ s
    rw [if_neg (by simp), pick_rev]
    have small : us.toList.reverse.toArray.size ≤ sizeLine := by simpa using fit
    exact wpAny_bind (m := Builtin.Tuple.tupleExact _) (wpAny_newObj_type (wpAny_pure ⟨_, rfl, r⟩) small)
theorem getItem_back {t sl : Addr} {us : Array Value} {Q : Value → Shared → Prop} (fit : us.size ≤ sizeLine) (atT : IsTup s.heap t us) (B : Back s.heap sl) (q : Q (.ref s.heap.objs.size) { s with heap := freshT s.heap us.toList.reverse }) :
    wpAny (model P w) G (getItem (.ref t) (.ref sl)) Q E s :=
  getItem_meets atT.typeIs (by decide) slot_tuple_getitem entry_tuple_getitem (args_tuple_getitem _ _) (back_meets t sl us fit) ⟨atT, B, q⟩
end
section
variable {X : Cx} {pins : List (Addr × Obj)} {σ : L2.St} {H : Hp} {k : Nat} {p1 p2 p3 pos : Pos}
abbrev backE (k : Nat) (p1 p2 p3 : Pos) : Expr := .Slice none none (some (.UnaryOp .USub (.Constant (.int 1) k p1) p2)) p3
/-- the slice is made: one more object, nothing else -/
theorem back_made {s : Shared} {Q : Value → Shared → Prop} (I : Inv X pins σ H s)
    (q : ∀ s' : Shared, Inv X pins σ H s' → Back s'.heap (s'.heap.objs.size - 1) → Q (.ref (s'.heap.objs.size - 1)) s') : wpAny (model X.prog X.w) X.A (eval (backE k p1 p2 p3) X.env) Q X.xe s := by
  have whole : ∀ {s : Shared} {R : Value → Shared → Prop}, Inv X pins σ H s → (∀ v s', Inv X pins σ H s' → IsPart v none → R v s') → wpAny (model X.prog X.w) X.A (evalPart none X.env) R X.xe s := fun J r =>
    thn (po_none.run pins _ σ H (fun o G => o = none ∧ G = H) J ⟨rfl, rfl⟩) fun v s' ⟨_, _, J', p, e, eG⟩ => by
      subst e eG
      exact r v s' J' p
  have step : PO X (some (.UnaryOp .USub (.Constant (.int 1) k p1) p2)) _ := po_some (pe_un un_neg pe_int)
  refine wpAny_Slice (whole I fun lo s1 I1 plo => whole I1 fun up s2 I2 pup => ?_)
  refine thn (step.run pins s2 σ H (fun o G => o = some (-1) ∧ G = H) I2 ⟨1, rfl, -1, rfl, rfl, rfl⟩) fun st s3 ⟨_, _, I3, pst, e, eG⟩ => ?_
  subst e eG
  have size : (s3.heap.push { cls := .type "slice", data := .fields #[lo, up, st] }).objs.size - 1 = s3.heap.objs.size := by rw [Heap.size_push]; rfl
  have r := q { s3 with heap := s3.heap.push { cls := .type "slice", data := .fields #[lo, up, st] } } (I3.kept (t' := s3.toks) fun _ _ e => Heap.get?_push_of_some _ e)
  rw [size] at r
  exact r ⟨lo, up, st, Heap.IsSliceOf.new _ lo up st, plo, pup, pst⟩
def tRevT (K : PySem.W.Frag) (te : TE) : TE := fun σ H Q => te σ H fun x H1 => ∃ a xs, x = .ref a ∧ SqT K H1 a xs ∧ ∀ p, H1 p = none → Q (.ref p) (upd H1 p (.tup xs.reverse))
theorem pe_revT {e : Expr} {te : TE} (he : PE X e te) : PE X (.Subscript e (backE k p1 p2 p3) pos) (tRevT X.K te) where
  run pins s σ H Q I h := by
    refine Subscript_ (thn (he.run pins s σ H _ I h) ?_)
    rintro v s1 ⟨_, H1, I1, rv, a, xs, rfl, sq, q⟩
    obtain rfl : v = .ref a := rv
    refine back_made I1 fun s2 I2 B => ?_
    obtain ⟨us, r, atT, fit⟩ := I2.tuple sq
    refine tail_any (ops := [.ref a, .ref (s2.heap.objs.size - 1)]) atT.typeIs slot_tuple_getitem.lookup ?_ (by with_unfolding_all rfl)
    refine getItem_back (by rw [List.size_toArray, ← r.length]; exact fit) atT B ⟨.ref s2.heap.objs.size, _, ?_, rfl, q _ (I2.hok.fresh (Nat.le_refl _))⟩
    refine I2.laid (t' := s2.toks) (o := .tup xs.reverse) (fun _ _ e => Heap.get?_push_of_some _ e) (Nat.le_refl _) ?_
    exact ⟨by rw [List.length_reverse]; exact fit, us.reverse, r.reverse, IsTup.new _ _⟩
end
/-! ### enumerate(t), t a tuple: by the library's walk of an enumerate object (WalksT.enumerateD) over what a tuple's iterator draws -/
abbrev enumO (it : Addr) : Obj := { cls := .type "enumerate", data := .fields #[.none, .bool false, .ref it, rawInt 0, .none, .none] }
theorem enum_meets {v : Value} {o : Obj} {S : Heap → Prop} (B : Begins v o S) :
    Meets (Builtin.«enumerate.__new__» ⟨[.type "enumerate", v], []⟩) (fun _ R s => S s.heap ∧ R (.ok (.ret (.ref (s.heap.push o).objs.size))) { s with heap := (s.heap.push o).push (enumO s.heap.objs.size) }) :=
  .of_wp fun prog w A R ⟨hp, g, d, tk, os⟩ ⟨hS, r⟩ => by
    have isE := sub_enumerate
    have iter : ∀ {G : Around} {E Q : Value → Shared → Prop}, Q (.ref hp.objs.size) ⟨hp.push o, g, d, tk, os⟩ → wpAny (model prog w) G (pyIter v) Q E ⟨hp, g, d, tk, os⟩ := B.iter prog w _ _ ⟨hp, g, d, tk, os⟩ _ hS
    wp_walk using iter
    refine wpAny_stack_any fun _ => wpAny_pure ?_
    split
    · rename_i c _ _ _ _ _
      cases c == Value.type "enumerate" <;> (wp_walk using iter; exact ⟨_, rfl, r⟩)
    · wp_walk using iter
      exact ⟨_, rfl, r⟩
/-- the two objects that enumerate(t) makes -/
structure EnumAt (h h' : Heap) (t : Addr) : Prop where
  old : ∀ b o, h.get? b = some o → h'.get? b = some o
  enum : IsEnum h' (h.objs.size + 1) h.objs.size 0 .none
  iter : h'.IsTupleIter h.objs.size t 0
theorem enum_call {P : Program} {w : World} {G : Around} {E : Value → Shared → Prop} {s : Shared} {t : Addr} {us : Array Value} {Q : Value → Shared → Prop} (ht : s.heap.IsTuple t us)
    (q : ∀ h', EnumAt s.heap h' t → Q (.ref (s.heap.objs.size + 1)) { s with heap := h' }) : wpAny (model P w) G (call (.type "enumerate") [.ref t]) Q E s := by
  refine callType_new F.called_enumerate rfl (F.typeCall_enumerate_1 _) (F.newCall_enumerate_1 _) (fun x => F.args_object_init_2 x _) F.entry_enumerate_new (enum_meets (begins_tuple t us)) ⟨ht, ?_⟩
  have last : ∀ (h : Heap) (o : Obj), o.isFreed = false → (h.push o).get? h.objs.size = some o := fun h o f => Heap.get?_push_size h f
  have up : ∀ {h : Heap} (o : Obj) {b : Addr} {x : Obj}, h.get? b = some x → (h.push o).get? b = some x := by intro h o b x e; exact Heap.get?_push_of_some o e
  have E1 := last (s.heap.push { cls := .type "tuple_iterator", data := .fields #[.ref t, .int 0 0] }) (enumO s.heap.objs.size) rfl
  have z : (s.heap.push { cls := .type "tuple_iterator", data := .fields #[.ref t, .int 0 0] }).objs.size = s.heap.objs.size + 1 := Heap.size_push ..
  rw [z] at E1
  show Shared.TypeIs _ (.ref _) _ ∧ Q (.ref _) _
  rw [z]
  exact ⟨⟨_, E1, rfl⟩, q _ ⟨fun b o e => up _ (up _ e), E1, ⟨_, up _ (last _ _ rfl), rfl, rfl⟩⟩⟩
/-- a walk over the pairs of place and item of the tuple at a -/
def IteT (K : PySem.W.Frag) (a : Addr) : It where
  go i H := ∃ xs x, SqT K H a xs ∧ xs[i]? = some x
  yld i H v H' := ∃ T x, v = .ref T ∧ H T = none ∧ H' = upd H T (.tup [.int (i : Nat), x]) ∧ ∀ xs, SqT K H a xs → xs[i]? = some x
  stop i H := ∃ xs, SqT K H a xs ∧ i = xs.length
/-- how the two objects stand ahead of turn i -/
structure EnumNow (a e it : Addr) (i : Nat) (h : Heap) : Prop where
  enum : ∃ x, IsEnum h e it (i : Int) x
  iter : h.IsTupleIter it a i
  ne : e ≠ it
theorem EnumNow.apart {a e it : Addr} {i : Nat} {h : Heap} {us : Array Value} (N : EnumNow a e it i h) (ht : h.IsTuple a us) : a ≠ it ∧ a ≠ e := by
  obtain ⟨o, ho, _, n, hd⟩ := ht
  have no : ∀ {b : Addr} {u : Obj} {fs : Array Value}, h.get? b = some u → u.data = .fields fs → a ≠ b := fun {b u fs} hu hf z => by
    rw [z, hu] at ho
    cases ho
    rw [hf] at hd
    cases hd
  obtain ⟨_, he⟩ := N.enum
  obtain ⟨_, hi, _, hf⟩ := N.iter
  exact ⟨no hi hf, no he rfl⟩
section
variable {X : Cx} {pins : List (Addr × Obj)} {σ : L2.St} {H : Hp} {s : Shared} {a e it : Addr} {i : Nat} {elts : List Expr} {kk : Nat} {tpos : Pos}
/-- the library's walk, for the items that stand in the heap now -/
theorem EnumNow.walk {us : Array Value} (N : EnumNow a e it i s.heap) (ht : s.heap.IsTuple a us) (hA : X.A.in1.handled = none) :
    WalksT X.prog X.w X.A e (e :: [it, a]) [e, it] us.size (fun j vals => ∃ t x, us[j]? = some x ∧ vals = #[.int j t, x]) (fun j h => (∃ x, IsEnum h e it j x) ∧ h.IsTupleIter it a j ∧ h.IsTuple a us)
      (fun j T h => (∃ x, IsEnumOut h e it ((j : Int) + 1) x T) ∧ (h.IsTupleIter it a (j + 1) ∧ h.IsTuple a us) ∧ T ≠ e ∧ T ≠ it) :=
  WalksT.enumerateD (Draws.tuple hA it a (N.apart ht).1 us) e N.ne (fun z => (List.mem_cons.mp z).elim N.ne fun z => (N.apart ht).2 (List.mem_singleton.mp z).symm) List.mem_cons_self
theorem enumT_item (I : Inv X pins σ H s) (hc : X.calm = true) (free : ∀ b ∈ [e, it], FpOk X pins H b) (N : EnumNow a e it i s.heap) (go : (IteT X.K a).go i H) (E : Value → Shared → Prop) :
    wpAny (model X.prog X.w) X.A (pyNext (.ref e)) (fun r s1 => ∃ u, r = some u ∧ wpAny (model X.prog X.w) X.A (letOwnedTupleGo (.Tuple elts kk tpos) (.ref e) u)
      (fun _ s2 => ∃ x H', Inv X pins σ H' s2 ∧ RelV x u ∧ (IteT X.K a).yld i H x H' ∧ EnumNow a e it (i + 1) s2.heap ∧ ∀ b ∈ [e, it], H' b = none) E s1) E s := by
  obtain ⟨xs, x, sq, hx⟩ := go
  obtain ⟨us, r, ht, fit⟩ := I.tuple sq
  obtain ⟨u, hu, ru⟩ := r.get hx
  have W := N.walk ht (I.ok.hd hc)
  have hi : i < us.toArray.size := by simpa using (List.getElem?_eq_some_iff.mp hu).1
  refine W.item i s _ E hi ⟨N.enum, N.iter, ht⟩ ?_
  rintro T _ h1 tk ⟨k, v, hv, rfl⟩ new atT mid same
  obtain rfl : v = u := Option.some.inj (hv.symm.trans (by simpa using hu))
  refine ⟨_, rfl, W.go elts kk tpos i T _ _ E mid fun h2 now same2 => ?_⟩
  have off : ∀ b ∈ [e, it], b < s.heap.objs.size := fun b hb => by
    obtain ⟨_, he⟩ := N.enum
    obtain ⟨_, hi, _⟩ := N.iter
    rcases List.mem_cons.mp hb with rfl | hb
    · exact Heap.lt_size he
    · rw [List.mem_singleton.mp hb]; exact Heap.lt_size hi
  have pair : ObjOk X.prog X.w (upd H T (.tup [.int (i : Nat), x])) h2 T (.tup [.int (i : Nat), x]) := by
    obtain ⟨o, ho, more⟩ := atT
    exact ⟨by show 2 ≤ sizeLine; decide, _, .cons ⟨k, rfl⟩ (.cons ru .nil), o, same2 T o (W.apart i T _ mid) ho, more⟩
  have all : ∀ b o, b ∉ [e, it] → s.heap.get? b = some o → h2.get? b = some o := fun b o hb q => same2 b o hb (same b o hb q)
  refine ⟨.ref T, _, I.turnedNew all free new pair, rfl, ⟨T, x, rfl, I.hok.fresh new, rfl, fun ys hy => by rw [I.tuple_inj hy sq]; exact hx⟩, ⟨?_, now.2.1, N.ne⟩, fun b hb => ?_⟩
  · exact now.1
  · rw [upd_ne (Nat.ne_of_lt (Nat.lt_of_lt_of_le (off b hb) new))]
    exact (free b hb).1
theorem enumT_done (I : Inv X pins σ H s) (hc : X.calm = true) (free : ∀ b ∈ [e, it], FpOk X pins H b) (N : EnumNow a e it i s.heap) (stop : (IteT X.K a).stop i H) (E : Value → Shared → Prop) :
    wpAny (model X.prog X.w) X.A (pyNext (.ref e)) (fun r s1 => r = none ∧ Inv X pins σ H s1) E s := by
  obtain ⟨xs, sq, rfl⟩ := stop
  obtain ⟨us, r, ht, fit⟩ := I.tuple sq
  have W := N.walk ht (I.ok.hd hc)
  have n : us.toArray.size = xs.length := by rw [List.size_toArray, r.length]
  rw [n] at W
  exact W.done s _ E ⟨N.enum, N.iter, ht⟩ fun h' tk same => ⟨rfl, I.turnedL same free⟩
end
theorem turn_enumT {P : Program} {w : World} {K : PySem.W.Frag} {elts : List Expr} {kk : Nat} {tpos : Pos} (a e it : Addr) : Turn P w K (.Tuple elts kk tpos) (IteT K a) [e, it] e (EnumNow a e it) where
  mem := List.mem_cons_self
  obj i h N := List.forall_mem_cons.mpr ⟨let ⟨_, he⟩ := N.enum; ⟨_, he, fun _ z => nomatch z⟩, List.forall_mem_cons.mpr ⟨let ⟨o, ho, _, hd⟩ := N.iter; ⟨o, ho, fun _ z => by rw [hd] at z; cases z⟩, fun _ z => nomatch z⟩⟩
  keep i h h' N k := ⟨let ⟨x, he⟩ := N.enum; ⟨x, k e List.mem_cons_self _ he⟩, let ⟨o, ho, more⟩ := N.iter; ⟨o, k it (List.mem_cons_of_mem _ List.mem_cons_self) o ho, more⟩, N.ne⟩
  item := by
    rintro X rfl rfl rfl hc i pins s σ H E I free N go
    exact enumT_item I hc free N go E
  done := by
    rintro X rfl rfl rfl hc i pins s σ H E I free N stop
    exact enumT_done I hc free N stop E
  self A i s Q E N q := let ⟨_, he⟩ := N.enum; wpAny_pyIter_enum he q
def iEnumT (K : PySem.W.Frag) (ta : TA) : TI := fun σ H R => ta σ H fun vs H1 => ∃ a xs, vs = [.ref a] ∧ SqT K H1 a xs ∧ R (IteT K a) H1
theorem pi_enumT {X : Cx} {e : Expr} {ta : TA} {p pos tpos : Pos} {elts : List Expr} {kk : Nat} (hg : Gl X "enumerate") (hm : X.mg "enumerate" = none) (ha : PA X [e] ta) (hs : starEach [e] X.env = [(false, eval e X.env)] := by rfl) :
    PI X (.Tuple elts kk tpos) (.Call (.Name "enumerate" p) [e] [] pos) (iEnumT X.K ta) where
  run pins s σ H R I h := by
    have asked := callWith_type1 (Q := fun v s1 => wpAny (model X.prog X.w) X.A (pyIter v) (PIE X pins σ (.Tuple elts kk tpos) R) X.xe s1) (pos := pos) (thn (ha.run pos pins s σ H _ I h) (by
      rintro us s1 ⟨_, H1, I1, r, a, xs, rfl, sq, q⟩
      obtain rfl := Vals.ref1 r
      obtain ⟨ys, _, ht, _⟩ := I1.tuple sq
      refine enum_call ht fun h' M => wpAny_pyIter_enum M.enum ?_
      have far : ∀ b ∈ [s1.heap.objs.size + 1, s1.heap.objs.size], s1.heap.objs.size ≤ b := by simp
      exact ⟨_, _, _, _, H1, rfl, I1.kept (t' := s1.toks) M.old, turn_enumT a _ _, ⟨⟨_, M.enum⟩, M.iter, Nat.succ_ne_self _⟩, fun b hb => I1.fpOk (far b hb) (I1.hok.fresh (far b hb)), q⟩)) hs rfl
    exact Call_ (ld_blt I hg hm boot_enumerate asked)
/-! ### the bookkeeping of a for: what stands ahead of turn i, for n turns -/
/-- what a for asks of its walk -/
abbrev Walked (J : It) (g : TG) (tb : TS) (D : Ends) (σ₀ : L2.St) (H₀ : Hp) : Prop :=
  ∃ W : Nat → Nat → L2.St → Hp → Prop, (∃ left, W 0 left σ₀ H₀) ∧ ∀ i left σ H, W i left σ H → (J.stop i H ∧ D.nx σ H) ∨
    (J.go i H ∧ ∃ N : L2.St → Hp → Prop, (∀ σ' H', N σ' H' → ∃ less, less < left ∧ W (i + 1) less σ' H') ∧ ∀ x H', J.yld i H x H' → g x σ H' fun σ' H'' => tb { D with nx := N, ct := N, bk := D.nx } σ' H'')
section
variable {K : PySem.W.Frag} {a : Addr} {xs : List V} {g : TG} {tb : TS} {D : Ends} {σ : L2.St} {H : Hp}
/-- one turn's suite leads to the next state -/
abbrev Onward (g : TG) (tb : TS) (D : Ends) (next : L2.St → Hp → Prop) (x : V) (σ : L2.St) (H : Hp) : Prop := g x σ H fun σ' H' => tb { D with nx := next, ct := next, bk := D.nx } σ' H'
theorem n_turns {J : It} {n : Nat} (S : Nat → L2.St → Hp → Prop) (start : S 0 σ H) (turn : ∀ i σ H, i < n → S i σ H → J.go i H ∧ ∀ x H', J.yld i H x H' → Onward g tb D (S (i + 1)) x σ H')
    (last : ∀ σ H, S n σ H → J.stop n H ∧ D.nx σ H) : Walked J g tb D σ H := by
  refine ⟨fun i left σ H => i + left = n ∧ S i σ H, ⟨n, Nat.zero_add n, start⟩, fun i left σ H => ?_⟩
  rintro ⟨rfl, st⟩
  cases left with
  | zero => exact .inl (last σ H st)
  | succ left =>
    obtain ⟨go, on⟩ := turn i σ H (by omega) st
    exact .inr ⟨go, S (i + 1), fun σ' H' st' => ⟨left, Nat.lt_succ_self _, by omega, st'⟩, on⟩
/-- for i, x in enumerate(a tuple) -/
theorem for_enumT (S : Nat → L2.St → Hp → Prop) (start : S 0 σ H) (seq : ∀ i σ H, i ≤ xs.length → S i σ H → SqT K H a xs)
    (turn : ∀ i x p σ H, xs[i]? = some x → S i σ H → H p = none → Onward g tb D (S (i + 1)) (.ref p) σ (L2.upd H p (.tup [.int (i : Nat), x]))) (last : ∀ σ H, S xs.length σ H → D.nx σ H) : Walked (IteT K a) g tb D σ H := by
  refine n_turns (n := xs.length) S start (fun i σ H lt st => ⟨⟨xs, xs[i], seq i σ H (Nat.le_of_lt lt) st, List.getElem?_eq_getElem lt⟩, ?_⟩) fun σ H st => ⟨⟨xs, seq _ σ H (Nat.le_refl _) st, rfl⟩, last σ H st⟩
  rintro _ _ ⟨p, x, rfl, np, rfl, hx⟩
  exact turn i x p σ H (hx xs (seq i σ H (Nat.le_of_lt lt) st)) st np
/-- for i, x in enumerate(a list) -/
theorem for_enumL (S : Nat → L2.St → Hp → Prop) (start : S 0 σ H) (seq : ∀ i σ H, i ≤ xs.length → S i σ H → SqL K H a xs)
    (turn : ∀ i x p σ H, xs[i]? = some x → S i σ H → H p = none → Onward g tb D (S (i + 1)) (.ref p) σ (L2.upd H p (.tup [.int (i : Nat), x]))) (last : ∀ σ H, S xs.length σ H → D.nx σ H) : Walked (Ite K a) g tb D σ H := by
  refine n_turns (n := xs.length) S start (fun i σ H lt st => ⟨⟨xs, xs[i], seq i σ H (Nat.le_of_lt lt) st, List.getElem?_eq_getElem lt⟩, ?_⟩) fun σ H st => ⟨⟨xs, seq _ σ H (Nat.le_refl _) st, Nat.le_refl _⟩, last σ H st⟩
  rintro _ _ ⟨p, x, rfl, np, rfl, hx⟩
  exact turn i x p σ H (hx xs (seq i σ H (Nat.le_of_lt lt) st)) st np
/-- for x in reversed(a list) -/
theorem for_revL (S : Nat → L2.St → Hp → Prop) (start : S 0 σ H) (seq : ∀ i σ H, S i σ H → SqL K H a xs)
    (turn : ∀ i x σ H, xs.reverse[i]? = some x → S i σ H → Onward g tb D (S (i + 1)) x σ H) (last : ∀ σ H, S xs.length σ H → D.nx σ H) : Walked (Itv K a xs.length) g tb D σ H := by
  have back : ∀ {i : Nat}, i < xs.length → xs.reverse[i]? = xs[xs.length - 1 - i]? := fun lt => List.getElem?_reverse lt
  refine n_turns (n := xs.length) S start (fun i σ H lt st => ⟨⟨lt, xs, _, seq i σ H st, List.getElem?_eq_getElem (by omega)⟩, ?_⟩) fun σ H st => ⟨Nat.le_refl xs.length, last σ H st⟩
  rintro x _ ⟨rfl, hx⟩
  exact turn i x σ _ ((back lt).trans (hx xs (seq i σ _ st))) st
end
section
variable {P : Program} {w : World} {K : PySem.W.Frag} {mg : Str → Option Value} {base : Heap}
/-! ### _law_divisor -/
def spDiv : Sp := fun vs H Q _ => ∃ a b : Int, vs = [.int a, .int b] ∧ Q (.int ((Int.gcd a b : Nat) : Int)) H
theorem mx (a : Int) : (if -a > a then -a else a) = ((a.natAbs : Nat) : Int) := by
  split <;> omega
theorem ok_law_divisor (T : Tx K mg) : FnOk P w K mg base CX0 1 T.law_divisor.f T.law_divisor.fd ["_law_one", "_law_other"] spDiv := by
  refine T.law_divisor.F.ok sc_law_divisor (fun vs H Q E h => ?_) (fun cdv A outer s H vs Q E hr h => ?_)
  · obtain ⟨a, b, rfl, _⟩ := h
    rfl
  · obtain ⟨a, b, rfl, q⟩ := h
    refine ⟨_, (pss_cons (ps_par (i := 0) (j := 1) rfl sc_law_divisor.nd rfl rfl (by decide) rfl rfl (pa_cons (pe_callB (call_max2 rfl) (by rfl) T.m_max (by decide +kernel) (pa_cons (pv 0) (pa_cons (pe_un un_neg (pv 0)) pa_nil))) (pa_cons (pe_callB (call_max2 rfl) (by rfl) T.m_max (by decide +kernel) (pa_cons (pv 1) (pa_cons (pe_un un_neg (pv 1)) pa_nil))) pa_nil)) (by rfl))
      (pss_cons (ps_while PassesOwn.never (pt_cmpR op_gt (pv 1) pe_int (nomark _))
        (pss_one (ps_par (i := 0) (j := 1) rfl sc_law_divisor.nd rfl rfl (by decide) rfl rfl (pa_cons (pv 1) (pa_cons (pe_op op_mod (pv 0) (pv 1)) pa_nil)) (by rfl))))
      (pss_one (ps_ret (pv 0))))), ?_⟩
    refine ⟨.int a, rfl, .int a, rfl, a, rfl, a, -a, rfl, .int b, rfl, .int b, rfl, b, rfl, b, -b, rfl, _, _, rfl, ?_⟩
    rw [mx, mx]
    refine while_by (fun σ H' => ∃ x y : Nat, σ = [some (.int (x : Int)), some (.int (y : Int))] ∧ H' = H ∧ Nat.gcd x y = Int.gcd a b)
      (fun σ _ => match σ with | [_, some (.int y)] => y.toNat | _ => 0) ⟨_, _, rfl, rfl, rfl⟩ (fun σ H' hP => ?_) (fun σ H' Q Q' hm hc => ?_)
    · obtain ⟨x, y, rfl, rfl, e⟩ := hP
      refine ⟨_, rfl, _, _, rfl, rfl, _, rfl, ite2 (fun h => ?_) (fun h => ?_)⟩
      · have hy : 0 < (y : Int) := of_decide_eq_true h
        refine ⟨_, rfl, _, rfl, _, rfl, _, _, rfl, rfl, hy, _, _, rfl, ⟨y, x % y, ?_, rfl, ?_⟩, ?_⟩
        · show [some (V.int (y : Int)), some (V.int ((x : Int) % (y : Int)))] = _
          rw [Int.natCast_emod]
        · rw [← e, Nat.gcd_comm x y, Nat.gcd_rec y x, Nat.gcd_comm]
        · show ((x : Int) % (y : Int)).toNat < (y : Int).toNat
          have := Int.emod_lt_of_pos (x : Int) hy
          have := Int.emod_nonneg (x : Int) (by omega : (y : Int) ≠ 0)
          omega
      · have hy : y = 0 := by
          have : ¬ 0 < (y : Int) := fun z => h (decide_eq_true z)
          omega
        refine ⟨_, rfl, ?_⟩
        rw [hy, Nat.gcd_zero_right] at e
        rw [e]
        exact q
    · obtain ⟨v, e, i, j, e1, e2, k, e3, q⟩ := hc
      exact ⟨v, e, i, j, e1, e2, k, e3, hm _ _ q⟩
/-! ### _law_frac, _law_add, _law_mul -/
def spFrac (K : PySem.W.Frag) : Sp := fun vs H Q _ => ∃ a b : Int, vs = [.int a, .int b] ∧ 0 < b ∧ b.natAbs < 2 ^ 9000 ∧ ∀ H' v, Same H H' → FrV K H' v (Rat.divInt a b) → Q v H'
theorem two_line : (2 : Nat) ≤ sizeLine := by decide
theorem ok_law_frac (T : Tx K mg) : FnOk P w K mg base CX0 2 T.law_frac.f T.law_frac.fd ["_law_above", "_law_below"] (spFrac K) := by
  refine T.law_frac.F.ok sc_law_frac (fun vs H Q E h => ?_) (fun cdv A outer s H vs Q E hr h => ?_)
  · obtain ⟨a, b, rfl, _⟩ := h
    rfl
  · obtain ⟨a, b, rfl, hb, hs, q⟩ := h
    refine ⟨_, (pss_cons (ps_set (i := 2) sc_law_frac.nd rfl (.inl rfl) (pe_call (ok_law_divisor T) hr (by rfl) T.law_divisor.g T.law_divisor.F.kp T.law_divisor.b .nil pass0 (pa_cons (pv 0) (pa_cons (pv 1) pa_nil))))
      (pss_cons (ps_if (pt_cmpR op_lt (pv 1) pe_int (nomark _))
        (pss_one (ps_set (i := 2) sc_law_frac.nd rfl (.inl rfl) (pe_un un_neg (pv 2))))
        pss_nil)
      (pss_one (ps_ret (pe_tup (pa_cons (pe_op op_fdivW (pv 0) (pv 2)) (pa_cons (pe_op op_fdivW (pv 1) (pv 2)) pa_nil))))))), ?_⟩
    refine ⟨_, rfl, _, rfl, _, _, rfl, _, rfl, _, _, rfl, rfl, _, rfl, ite2 (fun h => ?_) (fun h => ?_)⟩
    · exact absurd (of_decide_eq_true h) (by omega)
    · have hd : CDivW a ((Int.gcd a b : Nat) : Int) := wide_div (gcd_pos hb) (b := 9000) (by have := gcd_le (a := a) hb; omega) (by decide) (by decide)
      have hd2 : CDivW b ((Int.gcd a b : Nat) : Int) := wide_div (gcd_pos hb) (b := 9000) (by have := gcd_le (a := a) hb; omega) (by decide) (by decide)
      refine ⟨_, rfl, _, rfl, _, _, rfl, rfl, hd, _, rfl, _, rfl, _, _, rfl, rfl, hd2, two_line, fun p np => ?_⟩
      refine q _ _ (same_new np) ⟨p, rfl, sqT ?_⟩
      rw [upd_same, ← fr_num hb, ← fr_den hb]
def spAdd (K : PySem.W.Frag) : Sp := fun vs H Q _ => ∃ u v p q, vs = [u, v] ∧ FrV K H u p ∧ FrV K H v q ∧ Sm p ∧ Sm q ∧ ∀ H' x, Same H H' → FrV K H' x (p + q) → Q x H'
def spMul (K : PySem.W.Frag) : Sp := fun vs H Q _ => ∃ u v p q, vs = [u, v] ∧ FrV K H u p ∧ FrV K H v q ∧ Sm p ∧ Sm q ∧ ∀ H' x, Same H H' → FrV K H' x (p * q) → Q x H'
theorem Sm.nd {p q : Rat} (hp : Sm p) (hq : Sm q) : CMulW p.num (q.den : Int) := wide_mul hp.1 (by rw [Int.natAbs_natCast]; exact hq.2) (by decide) (by decide) (by decide)
theorem Sm.dd {p q : Rat} (hp : Sm p) (hq : Sm q) : CMulW (p.den : Int) (q.den : Int) := wide_mul (a := 4000) (b := 4000) (by rw [Int.natAbs_natCast]; exact hp.2) (by rw [Int.natAbs_natCast]; exact hq.2) (by decide) (by decide) (by decide)
theorem Sm.nn {p q : Rat} (hp : Sm p) (hq : Sm q) : CMulW p.num q.num := wide_mul hp.1 hq.1 (by decide) (by decide) (by decide)
theorem den_pos' (p q : Rat) : 0 < (p.den : Int) * (q.den : Int) := Int.mul_pos (by have := p.den_pos; omega) (by have := q.den_pos; omega)
theorem Sm.big {p q : Rat} (hp : Sm p) (hq : Sm q) : ((p.den : Int) * (q.den : Int)).natAbs < 2 ^ 9000 := by
  have h := wide_lt (i := (p.den : Int)) (j := (q.den : Int)) (a := 4000) (b := 4000) (by rw [Int.natAbs_natCast]; exact hp.2) (by rw [Int.natAbs_natCast]; exact hq.2)
  exact Nat.lt_of_lt_of_le h (Nat.pow_le_pow_right (by decide) (by decide))
theorem ok_law_add (T : Tx K mg) : FnOk P w K mg base CX0 3 T.law_add.f T.law_add.fd ["_law_one", "_law_other"] (spAdd K) := by
  refine T.law_add.F.ok sc_law_add (fun vs H Q E h => ?_) (fun cdv A outer s H vs Q E hr h => ?_)
  · obtain ⟨u, v, p, q, rfl, _⟩ := h
    rfl
  · obtain ⟨u, v, p, q, rfl, ⟨a, rfl, ha⟩, ⟨b, rfl, hb⟩, sp, sq, k⟩ := h
    refine ⟨_, (pss_one (ps_ret (pe_call (ok_law_frac T) hr (by rfl) T.law_frac.g T.law_frac.F.kp T.law_frac.b .nil pass0 (pa_cons (pe_op op_add (pe_op op_mulW (pe_ix ix_tup (pv 0) pe_int (fun _ _ => rfl)) (pe_ix ix_tup (pv 1) pe_int (fun _ _ => rfl))) (pe_op op_mulW (pe_ix ix_tup (pv 1) pe_int (fun _ _ => rfl)) (pe_ix ix_tup (pv 0) pe_int (fun _ _ => rfl)))) (pa_cons (pe_op op_mulW (pe_ix ix_tup (pv 0) pe_int (fun _ _ => rfl)) (pe_ix ix_tup (pv 1) pe_int (fun _ _ => rfl))) pa_nil))))), ?_⟩
    refine ⟨_, rfl, a, _, _, _, rfl, rfl, ha, atI_nat (j := 0) rfl, _, rfl, b, _, _, _, rfl, rfl, hb, atI_nat (j := 1) rfl, _, _, rfl, rfl, sp.nd sq, _, rfl, b, _, _, _, rfl, rfl, hb, atI_nat (j := 0) rfl, _, rfl, a, _, _, _, rfl, rfl, ha, atI_nat (j := 1) rfl, _, _, rfl, rfl, sq.nd sp, _, _, rfl, rfl,
      _, rfl, a, _, _, _, rfl, rfl, ha, atI_nat (j := 1) rfl, _, rfl, b, _, _, _, rfl, rfl, hb, atI_nat (j := 1) rfl, _, _, rfl, rfl, sp.dd sq, _, _, rfl, den_pos' p q, sp.big sq, fun H' x e hx => ?_⟩
    rw [← add_fr] at hx
    exact k H' x e hx
theorem ok_law_mul (T : Tx K mg) : FnOk P w K mg base CX0 3 T.law_mul.f T.law_mul.fd ["_law_one", "_law_other"] (spMul K) := by
  refine T.law_mul.F.ok sc_law_mul (fun vs H Q E h => ?_) (fun cdv A outer s H vs Q E hr h => ?_)
  · obtain ⟨u, v, p, q, rfl, _⟩ := h
    rfl
  · obtain ⟨u, v, p, q, rfl, ⟨a, rfl, ha⟩, ⟨b, rfl, hb⟩, sp, sq, k⟩ := h
    refine ⟨_, (pss_one (ps_ret (pe_call (ok_law_frac T) hr (by rfl) T.law_frac.g T.law_frac.F.kp T.law_frac.b .nil pass0 (pa_cons (pe_op op_mulW (pe_ix ix_tup (pv 0) pe_int (fun _ _ => rfl)) (pe_ix ix_tup (pv 1) pe_int (fun _ _ => rfl))) (pa_cons (pe_op op_mulW (pe_ix ix_tup (pv 0) pe_int (fun _ _ => rfl)) (pe_ix ix_tup (pv 1) pe_int (fun _ _ => rfl))) pa_nil))))), ?_⟩
    refine ⟨_, rfl, a, _, _, _, rfl, rfl, ha, atI_nat (j := 0) rfl, _, rfl, b, _, _, _, rfl, rfl, hb, atI_nat (j := 0) rfl, _, _, rfl, rfl, sp.nn sq,
      _, rfl, a, _, _, _, rfl, rfl, ha, atI_nat (j := 1) rfl, _, rfl, b, _, _, _, rfl, rfl, hb, atI_nat (j := 1) rfl, _, _, rfl, rfl, sp.dd sq, _, _, rfl, den_pos' p q, sp.big sq, fun H' x e hx => ?_⟩
    rw [← mul_fr] at hx
    exact k H' x e hx
end
/-! ### the data as plain data: for == and repr -/
def dFr (q : Rat) : PyData := .tuple [.int q.num, .int (q.den : Int)]
def dSt (L : List Rat) : PyData := .tuple (L.map dFr)
def dWd (w : List Nat) : PyData := .tuple (w.map fun (i : Nat) => .int (i : Int))
section
variable {K : PySem.W.Frag} {H : Hp}
theorem dpAll_of {α : Type} {R : V → α → Prop} {f : α → PyData} (h : ∀ v x, R v x → Dp K H v (f x)) : ∀ {vs : List V} {xs : List α}, Paired R vs xs → DpAll K H vs (xs.map f)
  | _, _, .nil => .nil
  | _, _, .cons r t => .cons (h _ _ r) (dpAll_of h t)
theorem FrV.dp {v : V} {q : Rat} (h : FrV K H v q) : Dp K H v (dFr q) := by
  obtain ⟨a, rfl, h⟩ := h
  exact .tup h (.cons (.int _) (.cons (.int _) .nil))
theorem StV.dp {v : V} {L : List Rat} (h : StV K H v L) : Dp K H v (dSt L) := by
  obtain ⟨a, vs, rfl, h, p⟩ := h
  exact .tup h (dpAll_of (fun _ _ z => FrV.dp z) p)
theorem dpAll_wd : ∀ w : List Nat, DpAll K H (wdv w) (w.map fun (i : Nat) => .int (i : Int))
  | [] => .nil
  | i :: w => .cons (.int _) (dpAll_wd w)
theorem WdV.dp {v : V} {w : List Nat} (h : WdV K H v w) : Dp K H v (dWd w) := by
  obtain ⟨a, rfl, h⟩ := h
  exact .tup h (dpAll_wd w)
end
theorem canLay_all {α : Type} {f : α → PyData} (h : ∀ x, PyData.canLay0 (f x) = true) : ∀ xs : List α, PyData.canLayAll0 (xs.map f) = true
  | [] => by simp [PyData.canLayAll0]
  | x :: xs => by simp [PyData.canLayAll0, h x, canLay_all h xs]
theorem depth_all {α : Type} {f : α → PyData} {n : Nat} (h : ∀ x, PyData.depth (f x) ≤ n) : ∀ xs : List α, PyData.depthAll (xs.map f) ≤ n
  | [] => by simp [PyData.depthAll]
  | x :: xs => by
    have := h x
    have := depth_all h xs
    simp only [List.map_cons, PyData.depthAll]; omega
theorem dFr_lay (q : Rat) : PyData.canLay0 (dFr q) = true := by simp [dFr, PyData.canLay0, PyData.canLayAll0]
theorem dFr_depth (q : Rat) : PyData.depth (dFr q) ≤ 1 := by simp [dFr, PyData.depth, PyData.depthAll]
theorem dFr_shaped (q : Rat) : SeqAt.shaped (dFr q) = true := by
  unfold SeqAt.shaped
  rw [dFr_lay, Bool.true_and]
  exact decide_eq_true (Nat.le_trans (dFr_depth q) (by decide))
theorem dSt_shaped (L : List Rat) : SeqAt.shaped (dSt L) = true := by
  unfold SeqAt.shaped dSt
  rw [show PyData.canLay0 (.tuple (L.map dFr)) = true by rw [PyData.canLay0]; exact canLay_all dFr_lay L, Bool.true_and]
  refine decide_eq_true ?_
  have := depth_all dFr_depth L
  rw [PyData.depth]; omega
theorem eqv_all {α : Type} [DecidableEq α] {f : α → PyData} (h : ∀ x y, PyData.eqv (f x) (f y) = decide (x = y)) : ∀ xs ys : List α, PyData.eqvAll (xs.map f) (ys.map f) = decide (xs = ys)
  | [], [] => by simp [PyData.eqvAll]
  | [], y :: ys => by simp [PyData.eqvAll]
  | x :: xs, [] => by simp [PyData.eqvAll]
  | x :: xs, y :: ys => by
    simp only [List.map_cons, PyData.eqvAll, h, eqv_all h xs ys]
    by_cases h1 : x = y <;> by_cases h2 : xs = ys <;> simp [h1, h2]
theorem rat_eq_iff (p q : Rat) : (p.num = q.num ∧ (p.den : Int) = (q.den : Int)) ↔ p = q := by
  constructor
  · rintro ⟨h1, h2⟩
    exact Rat.ext h1 (by omega)
  · rintro rfl
    exact ⟨rfl, rfl⟩
theorem eqv_dFr (p q : Rat) : PyData.eqv (dFr p) (dFr q) = decide (p = q) := by
  have e : PyData.eqv (dFr p) (dFr q) = ((p.num == q.num) && (((p.den : Int) == (q.den : Int)) && true)) := by
    simp only [dFr, PyData.eqv, PyData.eqvAll]
  rw [e, Bool.and_true, Bool.eq_iff_iff, Bool.and_eq_true, beq_iff_eq, beq_iff_eq, decide_eq_true_iff, rat_eq_iff]
theorem eqv_dSt (L M : List Rat) : PyData.eqv (dSt L) (dSt M) = decide (L = M) := by
  unfold dSt
  rw [PyData.eqv]
  exact eqv_all eqv_dFr L M
/-- (0, 1) -/
theorem dFr_zero : PyData.tuple [.int 0, .int 1] = dFr 0 := rfl
theorem pSnocR {α β : Type} {R : α → β → Prop} {vs : List α} {L : List β} {c : β} (h : Paired R vs (L ++ [c])) : ∃ vi v, vs = vi ++ [v] ∧ Paired R vi L ∧ R v c := by
  have hr := pRev h
  rw [List.reverse_append] at hr
  cases e : vs.reverse with
  | nil => rw [e] at hr; cases hr
  | cons v r =>
    rw [e] at hr
    cases hr with
    | cons h1 h2 =>
      refine ⟨r.reverse, v, ?_, ?_, h1⟩
      · have := congrArg List.reverse e
        rwa [List.reverse_reverse, List.reverse_cons] at this
      · have h3 : Paired R r L.reverse := h2
        have := pRev h3
        rwa [List.reverse_reverse] at this
def lstLen (H : Hp) (l : Addr) : Nat := match H l with
  | some (.lst vs) => vs.length
  | _ => 0
theorem lstLen_of {H : Hp} {l : Addr} {vs : List V} (h : H l = some (.lst vs)) : lstLen H l = vs.length := by unfold lstLen; rw [h]
theorem one_line : (1 : Nat) ≤ sizeLine := by decide
section
variable {P : Program} {w : World} {K : PySem.W.Frag} {mg : Str → Option Value} {base : Heap}
/-! ### _law_trim -/
def spTrim (K : PySem.W.Frag) : Sp := fun vs H Q _ => ∃ a ys L, vs = [.ref a] ∧ SqL K H a ys ∧ Paired (FrV K H) ys L ∧ L ≠ [] ∧ ∀ H' v, Same H H' → StV K H' v (trimR L) → Q v H'
theorem ok_law_trim (T : Tx K mg) : FnOk P w K mg base CX0 1 T.law_trim.f T.law_trim.fd ["_law_told"] (spTrim K) := by
  refine T.law_trim.F.ok sc_law_trim (fun vs H Q E h => ?_) (fun cdv A outer s H vs Q E hr h => ?_)
  · obtain ⟨a, ys, L, rfl, _⟩ := h
    rfl
  · obtain ⟨a, ys, L, rfl, hS, hp, hL, q⟩ := h
    refine ⟨_, (pss_cons (ps_set (i := 1) sc_law_trim.nd rfl (.inl rfl) (pe_callTy call_list_of (by rfl) T.m_list (by decide +kernel) (pa_cons (pv 0) pa_nil)))
      (pss_cons (ps_while PassesOwn.never (PW.pt (pw_and (pt_cmpR op_gt (pe_callB call_len_seq (by rfl) T.m_len (by decide +kernel) (pa_cons (pv 1) pa_nil)) pe_int (nomark _)) (pw_and1 (pt_cmpR (op_eqD hr.units) (pe_ix ix_list (pv 1) (pe_un un_neg pe_int) (fun _ _ => rfl)) (pe_tup (pa_cons pe_int (pa_cons pe_int pa_nil))) (nomark _)))))
        (pss_one (ps_expr (pe_bm0 PySem.F.plainAttrs_list PySem.F.slot_list_pop PySem.F.type_list_pop mt_pop (pv 1)))))
      (pss_one (ps_ret (pe_callTy call_tuple_of (by rfl) T.m_tuple (by decide +kernel) (pa_cons (pv 1) pa_nil)))))), ?_⟩
    refine ⟨_, rfl, a, _, rfl, .inl hS, fun l hl => ?_⟩
    refine while_by (fun σ H' => σ = [some (.ref a), some (.ref l)] ∧ Same H H' ∧ ∃ zs M, H' l = some (.lst zs) ∧ Paired (FrV K H') zs M ∧ M ≠ [] ∧ trimR M = trimR L)
      (fun _ H' => lstLen H' l) ⟨rfl, same_new hl, ys, L, upd_same, pMap hp fun _ _ z => z.mono (.new hl), hL, rfl⟩ (fun σ H' hP => ?_) (fun σ H' Q Q' hm hc => ?_)
    · obtain ⟨rfl, sm, zs, M, eM, pM, nM, tM⟩ := hP
      obtain ⟨Mi, c, rfl⟩ : ∃ Mi c, M = Mi ++ [c] := ⟨M.dropLast, M.getLast nM, (List.dropLast_concat_getLast nM).symm⟩
      obtain ⟨zi, z, rfl, pi, hz⟩ := pSnocR pM
      have lz := pLen pi
      have fin : ∀ H2, Same H' H2 → trimR (Mi ++ [c]) = Mi ++ [c] → H2 l = some (.lst (zi ++ [z])) → Paired (FrV K H2) (zi ++ [z]) (Mi ++ [c]) →
          (tRet (tCB (fun xs H Q => ∃ p ys, xs = [V.ref p] ∧ ((SqL K H p ys ∧ ∀ l, H l = none → Q (.ref l) (L2.upd H l (.tup ys))) ∨ (SqT K H p ys ∧ Q (.ref p) H))) (tCons (tVar 1) tNil)))
            { nx := fun _ H' => Q .non H', rt := Q } [some (.ref a), some (.ref l)] H2 := fun H2 s2 et e2 p2 => by
        refine ⟨_, rfl, l, _, rfl, .inl ⟨sqL e2, fun p np => q _ _ ((sm.trans s2).trans (same_new np)) ⟨p, _, rfl, sqT upd_same, ?_⟩⟩⟩
        rw [← tM, et]
        exact pMap p2 fun _ _ y => y.mono (.new np)
      refine ⟨_, rfl, l, _, rfl, .inl (sqL eM), _, _, rfl, rfl, _, rfl, ite2 (fun h => ?_) (fun h => ?_)⟩
      · have h1 : (1 : Int) < ((zi ++ [z]).length : Int) := of_decide_eq_true h
        refine ⟨_, rfl, 1, rfl, l, _, _, _, rfl, rfl, sqL eM, atI_last _ _, two_line, fun p np => ?_⟩
        refine ⟨_, _, (hz.mono (.new np)).dp, .tup (sqT upd_same) (.cons (.int _) (.cons (.int _) .nil)), dFr_shaped c, dFr_shaped 0, _, rfl, ?_⟩
        have np0 : H p = none := Same.free sm np
        have nlp : l ≠ p := ne_of_none eM np
        rw [dFr_zero, eqv_dFr]
        refine ite2 (fun h0 => ?_) (fun h0 => ?_)
        · have hc : c = 0 := of_decide_eq_true h0
          refine ⟨_, rfl, .inl ⟨rfl, _, sqL (by rw [upd_ne nlp]; exact eM)⟩, l, _, z, rfl, rfl, (by rw [upd_ne nlp]; exact eM), by simp, ?_⟩
          refine ⟨⟨rfl, sameUpd (sameUpd sm np0) hl, zi, Mi, by rw [List.dropLast_concat]; exact upd_same, ?_, ?_, ?_⟩, ?_⟩
          · exact pMap pi fun _ _ y => y.mono ((Tle.new np).trans (.lst (by rw [upd_ne nlp]; exact eM)))
          · intro e
            rw [e] at lz
            simp only [List.length_append, List.length_nil, List.length_singleton] at h1 lz
            omega
          · rw [← tM, trimR_turn (L := Mi ++ [c]), List.dropLast_concat]
            · simp only [List.length_append, List.length_singleton] at h1 ⊢
              omega
            · rw [List.getLast?_concat, hc]
          · rw [lstLen_of (vs := (zi ++ [z]).dropLast) upd_same, lstLen_of eM, List.dropLast_concat, List.length_append, List.length_singleton]
            omega
        · exact fin _ (same_new np) (trimR_stop (.inr fun z => h0 (decide_eq_true (by rw [List.getLast?_concat] at z; exact Option.some.inj z)))) (by rw [upd_ne nlp]; exact eM) (pMap pM fun _ _ y => y.mono (.new np))
      · have h1 : ¬ (1 : Int) < ((zi ++ [z]).length : Int) := fun z => h (decide_eq_true z)
        refine fin _ (Same.refl _) (trimR_stop (.inl ?_)) eM pM
        simp only [List.length_append, List.length_singleton] at h1 ⊢
        omega
    · obtain ⟨v, e, p, ys', e1, e2, i, j, e3, e4, k, e5, r⟩ := hc
      refine ⟨v, e, p, ys', e1, e2, i, j, e3, e4, k, e5, ?_⟩
      cases k with
      | true =>
        refine iteT ?_
        obtain ⟨v2, f, i2, f1, p2, xs2, i3, v3, f2, f3, f4, f5, f6, r⟩ := (if_pos rfl ▸ r : _)
        refine ⟨v2, f, i2, f1, p2, xs2, i3, v3, f2, f3, f4, f5, f6, fun t nt => ?_⟩
        obtain ⟨d, e', g1, g2, g3, g4, b, g5, r⟩ := r t nt
        exact ⟨d, e', g1, g2, g3, g4, b, g5, hm _ _ r⟩
      | false =>
        refine iteF ?_
        exact hm _ _ (by simpa using r)
end
/-- a reading in two parts: what comes of an expression, whatever follows -/
theorem part {te : TE} {σ : L2.St} {H : Hp} {Q : VK} (C : V → Hp → Prop) (h1 : ∀ R : VK, (∀ x H2, C x H2 → R x H2) → te σ H R) (h2 : ∀ x H2, C x H2 → Q x H2) : te σ H Q := h1 Q h2
theorem Sm.getD {b : Nat} {p : List Rat} (h : Bd b p) (hb : b < 4000) (i : Nat) : Sm (p.getD i 0) := by
  rw [List.getD]
  cases e : p[i]? with
  | none => exact Sm.zero
  | some q => exact h.sm hb (List.mem_of_getElem? e)
theorem line_of {n : Nat} (h : n ≤ 1000) : n < sizeLine := small1000 h
section
variable {P : Program} {w : World} {K : PySem.W.Frag} {mg : Str → Option Value} {base : Heap}
theorem FrV.zero {H : Hp} {p : Addr} : FrV K (L2.upd H p (.tup [.int 0, .int 1])) (.ref p) 0 := ⟨p, rfl, sqT upd_same⟩
/-! ### _law_sum -/
def spSum (K : PySem.W.Frag) : Sp := fun vs H Q _ => ∃ u v p q b c, vs = [u, v] ∧ StV K H u p ∧ StV K H v q ∧ Bd b p ∧ Bd c q ∧ b < 4000 ∧ c < 4000 ∧ p ≠ [] ∧ p.length + q.length ≤ 900 ∧ ∀ H' x, Same H H' → StV K H' x (lawSum p q) → Q x H'
theorem ok_law_sum (T : Tx K mg) : FnOk P w K mg base CX0 4 T.law_sum.f T.law_sum.fd ["_law_one", "_law_other"] (spSum K) := by
  refine T.law_sum.F.ok sc_law_sum (fun vs H Q E h => ?_) (fun cdv A outer s H vs Q E hr h => ?_)
  · obtain ⟨u, v, p, q, b, c, rfl, _⟩ := h
    rfl
  · obtain ⟨u, v, p, q, b, c, rfl, hu, hv, bp, bq, hb, hc, np, hlen, k⟩ := h
    refine ⟨_, (pss_cons (ps_set (i := 2) sc_law_sum.nd rfl (.inl rfl) (pe_lst pa_nil))
      (pss_cons (ps_for PassesOwn.never rfl (pi_range1 (by rfl) T.m_range (pa_cons (pe_callB (call_max2 rfl) (by rfl) T.m_max (by decide +kernel) (pa_cons (pe_callB call_len_seq (by rfl) T.m_len (by decide +kernel) (pa_cons (pv 0) pa_nil)) (pa_cons (pe_callB call_len_seq (by rfl) T.m_len (by decide +kernel) (pa_cons (pv 1) pa_nil)) pa_nil))) pa_nil)) (pg_name (i := 3) sc_law_sum.nd rfl (.inl rfl))
        (pss_cons (ps_set (i := 4) sc_law_sum.nd rfl (.inl rfl) (pe_ifExp (pt_cmpR op_lt (pv 3) (pe_callB call_len_seq (by rfl) T.m_len (by decide +kernel) (pa_cons (pv 0) pa_nil)) (nomark _)) (pe_ix ix_tup (pv 0) (pv 3) (fun _ _ => rfl)) (pe_tup (pa_cons pe_int (pa_cons pe_int pa_nil)))))
        (pss_cons (ps_set (i := 5) sc_law_sum.nd rfl (.inl rfl) (pe_ifExp (pt_cmpR op_lt (pv 3) (pe_callB call_len_seq (by rfl) T.m_len (by decide +kernel) (pa_cons (pv 1) pa_nil)) (nomark _)) (pe_ix ix_tup (pv 1) (pv 3) (fun _ _ => rfl)) (pe_tup (pa_cons pe_int (pa_cons pe_int pa_nil)))))
        (pss_one (ps_expr (pe_bm PySem.F.plainAttrs_list PySem.F.slot_list_append PySem.F.type_list_append mt_append (pv 2) (pa_cons (pe_call (ok_law_add T) hr (by rfl) T.law_add.g T.law_add.F.kp T.law_add.b .nil pass0 (pa_cons (pv 4) (pa_cons (pv 5) pa_nil))) pa_nil)))))))
      (pss_one (ps_ret (pe_call (ok_law_trim T) (hr.mono (by decide)) (by rfl) T.law_trim.g T.law_trim.F.kp T.law_trim.b .nil pass0 (pa_cons (pv 2) pa_nil)))))), ?_⟩
    obtain ⟨au, us, rfl, hSu, pu⟩ := id hu
    obtain ⟨av, ws, rfl, hSv, pw⟩ := id hv
    have lu := pLen pu
    have lw := pLen pw
    refine ⟨Nat.zero_le _, fun o no => ?_⟩
    refine ⟨_, rfl, au, us, rfl, .inr ((Tle.new no).sq hSu), _, rfl, av, ws, rfl, .inr ((Tle.new no).sq hSv), _, _, rfl, _, rfl, ?_, ?_, ?_⟩
    · split <;> omega
    · split <;> omega
    have emax : (if (ws.length : Int) > (us.length : Int) then (ws.length : Int) else (us.length : Int)).toNat = max p.length q.length := by
      split <;> omega
    rw [emax]
    refine for_range (lo := 0) (n := max p.length q.length) (fun i σ H' => ∃ x3 x4 x5, σ = [some (.ref au), some (.ref av), some (.ref o), x3, x4, x5] ∧ Same H H' ∧ ∃ zs, H' o = some (.lst zs) ∧ Paired (FrV K H') zs ((addL p q).take i))
      ⟨none, none, none, rfl, same_new no, [], upd_same, .nil⟩ (fun i σ H' hi hP => ?_) (fun σ H' hP => ?_)
    · obtain ⟨x3, x4, x5, rfl, sm, zs, eo, pz⟩ := hP
      have hSu' := (Tle.same sm).sq hSu
      have hSv' := (Tle.same sm).sq hSv
      have lz := pLen pz
      rw [List.length_take] at lz
      -- near
      refine part (te := tIf _ _ _) (fun x H2 => Same H' H2 ∧ FrV K H2 x (p.getD i 0)) (fun R key => ?_) (fun x H2 hx => ?_)
      · refine ⟨_, rfl, _, rfl, au, us, rfl, .inr hSu', _, _, rfl, rfl, _, rfl, ite2 (fun h => ?_) (fun h => ?_)⟩
        · have hi' : (0 : Int) + (i : Int) < (us.length : Int) := of_decide_eq_true h
          have hl : i < us.length := by omega
          obtain ⟨y, hy, ry⟩ := pAt pu (List.getElem?_eq_getElem hl)
          refine ⟨_, rfl, _, rfl, au, us, _, _, rfl, rfl, hSu', (by rw [Int.zero_add]; exact atI_nat (List.getElem?_eq_getElem hl)), key _ _ ⟨Same.refl _, ?_⟩⟩
          rw [List.getD, hy]
          exact ry.mono (Tle.same sm)
        · have hi' : ¬ (0 : Int) + (i : Int) < (us.length : Int) := fun z => h (decide_eq_true z)
          refine ⟨two_line, fun t nt => key _ _ ⟨same_new nt, ?_⟩⟩
          rw [List.getD, List.getElem?_eq_none (by omega)]
          exact FrV.zero
      obtain ⟨s2, fx⟩ := hx
      dsimp only [gName]
      refine part (te := tIf _ _ _) (fun y H3 => Same H2 H3 ∧ FrV K H3 y (q.getD i 0)) (fun R key => ?_) (fun y H3 hy => ?_)
      · have hSv2 := (Tle.same s2).sq hSv'
        refine ⟨_, rfl, _, rfl, av, ws, rfl, .inr hSv2, _, _, rfl, rfl, _, rfl, ite2 (fun h => ?_) (fun h => ?_)⟩
        · have hi' : (0 : Int) + (i : Int) < (ws.length : Int) := of_decide_eq_true h
          have hl : i < ws.length := by omega
          obtain ⟨y, hy, ry⟩ := pAt pw (List.getElem?_eq_getElem hl)
          refine ⟨_, rfl, _, rfl, av, ws, _, _, rfl, rfl, hSv2, (by rw [Int.zero_add]; exact atI_nat (List.getElem?_eq_getElem hl)), key _ _ ⟨Same.refl _, ?_⟩⟩
          rw [List.getD, hy]
          exact ry.mono ((Tle.same sm).trans (Tle.same s2))
        · have hi' : ¬ (0 : Int) + (i : Int) < (ws.length : Int) := fun z => h (decide_eq_true z)
          refine ⟨two_line, fun t nt => key _ _ ⟨same_new nt, ?_⟩⟩
          rw [List.getD, List.getElem?_eq_none (by omega)]
          exact FrV.zero
      obtain ⟨s3, fy⟩ := hy
      have eo3 : H3 o = some (.lst zs) := s3 _ _ (s2 _ _ eo)
      refine ⟨_, rfl, .inl ⟨rfl, _, sqL eo3⟩, _, rfl, _, rfl, x, y, _, _, rfl, fx.mono (Tle.same s3), fy, Sm.getD bp hb i, Sm.getD bq hc i, fun H4 z s4 fz => ?_⟩
      have eo4 : H4 o = some (.lst zs) := s4 _ _ eo3
      refine ⟨o, zs, z, rfl, rfl, eo4, line_of (by omega), ?_⟩
      refine ⟨_, _, _, rfl, sameUpd (((sm.trans s2).trans s3).trans s4) no, _, upd_same, ?_⟩
      have t4 : Tle H' (L2.upd H4 o (.lst (zs ++ [z]))) := (((Tle.same s2).trans (Tle.same s3)).trans (Tle.same s4)).trans (.lst eo4)
      rw [List.take_add_one, addL_get p q i hi]
      exact pSnoc (pMap pz fun _ _ y => y.mono t4) (fz.mono (.lst eo4))
    · obtain ⟨x3, x4, x5, rfl, sm, zs, eo, pz⟩ := hP
      rw [List.take_of_length_le (by rw [addL_len]; exact Nat.le_refl _)] at pz
      refine ⟨_, rfl, o, zs, _, rfl, sqL eo, pz, fun z => ?_, fun H4 x s4 fx => k H4 x (sm.trans s4) fx⟩
      have := addL_len p q
      rw [z] at this
      have h1 : 0 < p.length := List.length_pos_iff.mpr np
      simp only [List.length_nil] at this
      omega
end
theorem flat_rep {α : Type} (x : α) : ∀ n : Nat, (List.replicate n [x]).flatten = List.replicate n x
  | 0 => rfl
  | n + 1 => by
    rw [List.replicate_succ, List.flatten_cons, flat_rep x n]; rfl
theorem ixN_nat {n j : Nat} (h : j < n) : ixN n ((j : Nat) : Int) = some j := by
  unfold ixN
  rw [if_pos (by omega), if_pos (by omega)]
  simp
theorem getD_at {α : Type} {F : List α} {i : Nat} {d : α} (h : i < F.length) : F[i]? = some (F.getD i d) := by
  rw [List.getD, List.getElem?_eq_getElem h]; rfl
section
variable {P : Program} {w : World} {K : PySem.W.Frag} {mg : Str → Option Value} {base : Heap}
/-! ### _law_product -/
def spProd (K : PySem.W.Frag) : Sp := fun vs H Q _ => ∃ u v p q b c, vs = [u, v] ∧ StV K H u p ∧ StV K H v q ∧ Bd b p ∧ Bd c q ∧ b + c < 4000 ∧ p ≠ [] ∧ q ≠ [] ∧ p.length + q.length ≤ 900 ∧ ∀ H' x, Same H H' → StV K H' x (lawProd p q) → Q x H'
theorem ok_law_product (T : Tx K mg) : FnOk P w K mg base CX0 4 T.law_product.f T.law_product.fd ["_law_one", "_law_other"] (spProd K) := by
  refine T.law_product.F.ok sc_law_product (fun vs H Q E h => ?_) (fun cdv A outer s H vs Q E hr h => ?_)
  · obtain ⟨u, v, p, q, b, c, rfl, _⟩ := h
    rfl
  · obtain ⟨u, v, p, q, b, c, rfl, hu, hv, bp, bq, hbc, np, nq, hlen, k⟩ := h
    refine ⟨_, (pss_cons (ps_set (i := 2) sc_law_product.nd rfl (.inl rfl) (pe_op op_rep (pe_lst (pa_cons (pe_tup (pa_cons pe_int (pa_cons pe_int pa_nil))) pa_nil)) (pe_op op_sub (pe_op op_add (pe_callB call_len_seq (by rfl) T.m_len (by decide +kernel) (pa_cons (pv 0) pa_nil)) (pe_callB call_len_seq (by rfl) T.m_len (by decide +kernel) (pa_cons (pv 1) pa_nil))) pe_int)))
      (pss_cons (ps_for PassesOwn.never rfl (pi_enumT (by rfl) T.m_enumerate (pa_cons (pv 0) pa_nil)) (pg_tup (by rfl) (pgs_cons (pg_name (i := 3) sc_law_product.nd rfl (.inl rfl)) (pgs_cons (pg_name (i := 4) sc_law_product.nd rfl (.inl rfl)) pgs_nil)))
        (pss_one (ps_for PassesOwn.never rfl (pi_enumT (by rfl) T.m_enumerate (pa_cons (pv 1) pa_nil)) (pg_tup (by rfl) (pgs_cons (pg_name (i := 5) sc_law_product.nd rfl (.inl rfl)) (pgs_cons (pg_name (i := 6) sc_law_product.nd rfl (.inl rfl)) pgs_nil)))
          (pss_one (ps_asg (pe_call (ok_law_add T) hr (by rfl) T.law_add.g T.law_add.F.kp T.law_add.b .nil pass0 (pa_cons (pe_ix ix_list (pv 2) (pe_op op_add (pv 3) (pv 5)) (fun _ _ => rfl)) (pa_cons (pe_call (ok_law_mul T) hr (by rfl) T.law_mul.g T.law_mul.F.kp T.law_mul.b .nil pass0 (pa_cons (pv 4) (pa_cons (pv 6) pa_nil))) pa_nil))) (pg_sub (pv 2) (pe_op op_add (pv 3) (pv 5)) set_list))))))
      (pss_one (ps_ret (pe_call (ok_law_trim T) (hr.mono (by decide)) (by rfl) T.law_trim.g T.law_trim.F.kp T.law_trim.b .nil pass0 (pa_cons (pv 2) pa_nil)))))), ?_⟩
    obtain ⟨au, us, rfl, hSu, pu⟩ := id hu
    obtain ⟨av, ws, rfl, hSv, pw⟩ := id hv
    have lu := pLen pu
    have lw := pLen pw
    have lp : 0 < p.length := List.length_pos_iff.mpr np
    have lq : 0 < q.length := List.length_pos_iff.mpr nq
    refine ⟨two_line, fun t nt => ⟨one_line, fun l nl => ?_⟩⟩
    have nl0 : H l = none := Same.free (same_new nt) nl
    have ntl : t ≠ l := ne_of_none upd_same nl
    have s0 : Same H (L2.upd (L2.upd H t (.tup [.int 0, .int 1])) l (.lst [.ref t])) := (same_new nt).trans (same_new nl)
    refine ⟨_, rfl, au, us, rfl, .inr ((Tle.same s0).sq hSu), _, rfl, av, ws, rfl, .inr ((Tle.same s0).sq hSv), _, _, rfl, rfl, _, _, rfl, rfl, l, _, _, rfl, rfl, upd_same, by omega, by omega, ?_, fun o no => ?_⟩
    · have : (1 : Nat) * (((us.length : Int) + (ws.length : Int) - 1).toNat) ≤ 1000 := by omega
      exact Nat.le_of_lt (line_of this)
    have no0 : H o = none := Same.free s0 no
    have en : ((us.length : Int) + (ws.length : Int) - 1).toNat = p.length + q.length - 1 := by omega
    have s1 := s0.trans (same_new (o := .lst (List.replicate (((us.length : Int) + (ws.length : Int) - 1).toNat) [V.ref t]).flatten) no)
    have fz : FrV K (L2.upd (L2.upd (L2.upd H t (.tup [.int 0, .int 1])) l (.lst [.ref t])) o (.lst (List.replicate (((us.length : Int) + (ws.length : Int) - 1).toNat) [V.ref t]).flatten)) (.ref t) 0 :=
      (FrV.zero (p := t)).mono ((Tle.new nl).trans (Tle.new no))
    refine ⟨_, rfl, au, us, rfl, (Tle.same s1).sq hSu, ?_⟩
    refine for_enumT (xs := us) (fun i σ H' => ∃ y3 y4 y5 y6, σ = [some (.ref au), some (.ref av), some (.ref o), y3, y4, y5, y6] ∧ Same H H' ∧ ∃ zs, H' o = some (.lst zs) ∧ Paired (FrV K H') zs (pst p q i 0))
      ⟨none, none, none, none, rfl, s1, _, upd_same, ?_⟩ (fun i σ H' hi hP => ?_) (fun i x T0 σ H' hx hP nT => ?_) (fun σ H' hP => ?_)
    · rw [flat_rep, en] at fz
      rw [pst_start, flat_rep, en]
      exact pRep fz _
    · obtain ⟨y3, y4, y5, y6, rfl, sm, zs, eo, pz⟩ := hP
      exact (Tle.same sm).sq hSu
    · obtain ⟨y3, y4, y5, y6, rfl, sm, zs, eo, pz⟩ := hP
      have hil : i < us.length := (List.getElem?_eq_some_iff.mp hx).1
      obtain ⟨a, ha, ra⟩ := pAt pu hx
      have ea : p.getD i 0 = a := by rw [List.getD, ha]; rfl
      have nTo : o ≠ T0 := ne_of_none eo nT
      have nT0 : H T0 = none := Same.free sm nT
      refine ⟨T0, _, rfl, sqT upd_same, rfl, _, _, rfl, _, _, rfl, rfl, ?_⟩
      have s2 : Same H (L2.upd H' T0 (.tup [.int (i : Nat), x])) := sm.trans (same_new nT)
      refine ⟨_, rfl, av, ws, rfl, (Tle.same s2).sq hSv, ?_⟩
      refine for_enumT (xs := ws) (fun j σ H2 => ∃ y5 y6, σ = [some (.ref au), some (.ref av), some (.ref o), some (.int (i : Nat)), some x, y5, y6] ∧ Same H H2 ∧ ∃ zs, H2 o = some (.lst zs) ∧ Paired (FrV K H2) zs (pst p q i j))
        ⟨y5, y6, rfl, s2, zs, by rw [upd_ne nTo]; exact eo, pMap pz fun _ _ y => y.mono (.new nT)⟩ (fun j σ H2 hj hP => ?_) (fun j y T1 σ H2 hy hP nT1 => ?_) (fun σ H2 hP => ?_)
      · obtain ⟨y5, y6, rfl, sm2, _⟩ := hP
        exact (Tle.same sm2).sq hSv
      · obtain ⟨y5, y6, rfl, sm2, zs2, eo2, pz2⟩ := hP
        have hjl : j < ws.length := (List.getElem?_eq_some_iff.mp hy).1
        obtain ⟨c', hc', rc⟩ := pAt pw hy
        have ec : q.getD j 0 = c' := by rw [List.getD, hc']; rfl
        have nT1o : o ≠ T1 := ne_of_none eo2 nT1
        refine ⟨T1, _, rfl, sqT upd_same, rfl, _, _, rfl, _, _, rfl, rfl, ?_⟩
        have s3 : Same H (L2.upd H2 T1 (.tup [.int (j : Nat), y])) := sm2.trans (same_new nT1)
        have eo3 : (L2.upd H2 T1 (.tup [.int (j : Nat), y])) o = some (.lst zs2) := by rw [upd_ne nT1o]; exact eo2
        have l2 := pLen pz2
        rw [pst_len] at l2
        have hb2 : i + j < zs2.length := by omega
        have bF : Bd (b + c) (pst p q i j) := bp.pst bq i j
        have hg : (pst p q i j)[i + j]? = some ((pst p q i j).getD (i + j) 0) := getD_at (by rw [pst_len]; omega)
        obtain ⟨zv, hz, rz⟩ := pAtR pz2 hg
        refine ⟨_, rfl, _, rfl, _, rfl, _, _, rfl, rfl, o, zs2, _, zv, rfl, rfl, sqL eo3, atI_nat (j := i + j) hz, _, rfl, _, rfl, x, y, a, c', rfl, ra.mono (Tle.same s3), rc.mono (Tle.same s3), ?_, ?_, fun H4 m s4 fm => ?_⟩
        · rw [← ea]; exact Sm.getD bp (by omega) i
        · rw [← ec]; exact Sm.getD bq (by omega) j
        refine ⟨zv, m, _, _, rfl, (rz.mono (.new nT1)).mono (Tle.same s4), fm, Sm.getD bF hbc _, ?_, fun H5 z s5 fz5 => ?_⟩
        · have h1 : a ∈ p := List.mem_of_getElem? ha
          have h2 : c' ∈ q := List.mem_of_getElem? hc'
          have m1 := bp.mem h1
          have m2 := bq.mem h2
          have e1 := mul_fr a c'
          have dd : (a.den : Int) * (c'.den : Int) = ((a.den * c'.den : Nat) : Int) := (Int.natCast_mul _ _).symm
          rw [dd] at e1
          have hb : Bd (b + c) [a * c'] := ⟨[a.num * c'.num], a.den * c'.den, Nat.mul_pos a.den_pos c'.den_pos, by rw [Nat.pow_add]; exact Nat.mul_le_mul m1.2 m2.2,
            by rw [Nat.pow_add]; simp only [S1, Int.natAbs_mul, Nat.add_zero]; exact Nat.mul_le_mul m1.1 m2.1, by rw [List.map_cons, List.map_nil, e1, Rat.divInt_ofNat]⟩
          exact hb.sm hbc List.mem_cons_self
        have eo5 : H5 o = some (.lst zs2) := s5 _ _ (s4 _ _ eo3)
        refine ⟨_, rfl, _, rfl, _, rfl, _, _, rfl, rfl, o, zs2, _, i + j, rfl, rfl, eo5, ixN_nat hb2, ?_⟩
        refine ⟨_, _, rfl, sameUpd ((s3.trans s4).trans s5) no0, _, upd_same, ?_⟩
        have t5 : Tle H2 (L2.upd H5 o (.lst (zs2.set (i + j) z))) := (((Tle.new nT1).trans (Tle.same s4)).trans (Tle.same s5)).trans (.lst eo5)
        rw [pst_step (by omega), ea, ec]
        exact pSet (fz5.mono (.lst eo5)) _ (pMap pz2 fun _ _ y => y.mono t5)
      · obtain ⟨y5, y6, rfl, sm2, zs2, eo2, pz2⟩ := hP
        rw [lw, pst_row (by omega)] at pz2
        exact ⟨_, _, _, _, rfl, sm2, zs2, eo2, pz2⟩
    · obtain ⟨y3, y4, y5, y6, rfl, sm, zs, eo, pz⟩ := hP
      rw [lu, pst_end] at pz
      refine ⟨_, rfl, o, zs, _, rfl, sqL eo, pz, fun z => ?_, fun H4 x s4 fx => k H4 x (sm.trans s4) fx⟩
      have := pLen pz
      have h2 := conv_eq np nq
      have h3 := mul_len p q np nq
      rw [h2] at z
      rw [z, List.length_nil] at h3
      omega
end
theorem cutFrom (xs : List V) (k : Nat) : cutV xs (some ((k : Nat) : Int)) none = xs.drop k := by
  unfold cutV
  rw [HT.sIx_nat xs.length 0 k, HT.sIx_none]
  by_cases h : k ≤ xs.length
  · rw [Nat.min_eq_left h]
    exact List.take_of_length_le (by rw [List.length_drop]; exact Nat.le_refl _)
  · rw [Nat.min_eq_right (by omega), Nat.sub_self, List.take_zero]
    exact (List.drop_eq_nil_iff.mpr (by omega)).symm
section
variable {P : Program} {w : World} {K : PySem.W.Frag} {mg : Str → Option Value} {base : Heap}
/-! ### _law_within -/
def spWithin (K : PySem.W.Frag) : Sp := fun vs H Q _ => ∃ u v inner outer b d, vs = [u, v] ∧ StV K H u inner ∧ StV K H v outer ∧ Bd b inner ∧ Bd d outer ∧ (outer.length + 1) * (b + d + 1) < 3990 ∧ inner ≠ [] ∧ 2 + (outer.length + 1) * inner.length ≤ 400 ∧
  ∀ H' x, Same H H' → StV K H' x (lawWithin inner outer) → Q x H'
theorem ok_law_within (T : Tx K mg) : FnOk P w K mg base CX0 5 T.law_within.f T.law_within.fd ["_law_inner", "_law_outer"] (spWithin K) := by
  refine T.law_within.F.ok sc_law_within (fun vs H Q E h => ?_) (fun cdv A outer' s H vs Q E hr h => ?_)
  · obtain ⟨u, v, p, q, b, c, rfl, _⟩ := h
    rfl
  · obtain ⟨u, v, inner, outer, b, d, rfl, hu, hv, bi, bo, hbits, ni, hlen, k⟩ := h
    refine ⟨_, (pss_cons (ps_set (i := 2) sc_law_within.nd rfl (.inl rfl) (pe_tup (pa_cons (pe_tup (pa_cons pe_int (pa_cons pe_int pa_nil))) pa_nil)))
      (pss_cons (ps_for PassesOwn.never rfl (pi_tup (pe_revT (pv 1))) (pg_name (i := 3) sc_law_within.nd rfl (.inl rfl))
        (pss_one (ps_set (i := 2) sc_law_within.nd rfl (.inl rfl) (pe_call (ok_law_sum T) hr (by rfl) T.law_sum.g T.law_sum.F.kp T.law_sum.b .nil pass0 (pa_cons (pe_call (ok_law_product T) hr (by rfl) T.law_product.g T.law_product.F.kp T.law_product.b .nil pass0 (pa_cons (pv 2) (pa_cons (pv 0) pa_nil))) (pa_cons (pe_tup (pa_cons (pv 3) pa_nil)) pa_nil))))))
      (pss_one (ps_ret (pv 2))))), ?_⟩
    obtain ⟨av, ws, rfl, hSv, pw⟩ := id hv
    have lw := pLen pw
    refine ⟨two_line, fun t nt => ⟨one_line, fun l nl => ?_⟩⟩
    have s0 : Same H (L2.upd (L2.upd H t (.tup [.int 0, .int 1])) l (.tup [.ref t])) := (same_new nt).trans (same_new nl)
    refine ⟨_, rfl, av, ws, rfl, (Tle.same s0).sq hSv, fun r nr => ?_⟩
    have s1 := s0.trans (same_new (o := .tup ws.reverse) nr)
    refine ⟨r, rfl, ⟨_, sqT upd_same⟩, ?_⟩
    refine for_tup (xs := ws.reverse) (fun i σ H' => ∃ x y3, σ = [some u, some (.ref av), some x, y3] ∧ Same H H' ∧ H' r = some (.tup ws.reverse) ∧ StV K H' x ((outer.reverse.take i).foldl (horL inner) [0]))
      ⟨_, none, rfl, s1, upd_same, l, _, rfl, sqT ((same_new nr) _ _ upd_same), .cons ((FrV.zero (p := t)).mono ((Tle.new nl).trans (Tle.new nr))) .nil⟩ (fun i σ H' hi hP => ?_) (fun i x σ H' hx hP => ?_) (fun σ H' hP => ?_)
    · obtain ⟨x, y3, rfl, sm, er, _⟩ := hP
      exact sqT er
    · obtain ⟨f, y3, rfl, sm, er, hf⟩ := hP
      obtain ⟨c, hc, rc⟩ := pAt (pRev pw) hx
      have hil : i < outer.reverse.length := (List.getElem?_eq_some_iff.mp hc).1
      have hil' : i < outer.length := by rw [List.length_reverse] at hil; exact hil
      have lt : (outer.reverse.take i).length = i := by rw [List.length_take]; omega
      have hmem : c ∈ outer := List.mem_reverse.mp (List.mem_of_getElem? hc)
      have bf : Bd (i * (b + d + 1)) ((outer.reverse.take i).foldl (horL inner) [0]) := by
        have := bi.fold (d := d) (outer.reverse.take i) [0] 0 .zero fun y hy => bo.one (List.mem_reverse.mp (List.mem_of_mem_take hy))
        rw [lt, Nat.zero_add] at this
        exact this
      obtain ⟨lf, nf⟩ := fold_len ni (outer.reverse.take i) [0] (by simp)
      rw [lt, List.length_singleton] at lf
      have m1 : (i + 1) * (b + d + 1) ≤ outer.length * (b + d + 1) := Nat.mul_le_mul_right _ hil'
      have m2 : (i + 1) * inner.length ≤ outer.length * inner.length := Nat.mul_le_mul_right _ hil'
      rw [Nat.add_mul, Nat.one_mul] at m1 m2 hbits hlen
      have lpr : (lawProd ((outer.reverse.take i).foldl (horL inner) [0]) inner).length ≤ ((outer.reverse.take i).foldl (horL inner) [0]).length + inner.length := by
        unfold lawProd
        have := trimR_len_le (conv ((outer.reverse.take i).foldl (horL inner) [0]) inner)
        rw [conv_eq nf ni, mul_len _ inner nf ni] at this
        rw [conv_eq nf ni]; omega
      have npr : lawProd ((outer.reverse.take i).foldl (horL inner) [0]) inner ≠ [] := by
        unfold lawProd
        refine trimR_ne _ (Nat.le_refl _) fun z => ?_
        have := mul_len _ inner nf ni
        rw [conv_eq nf ni] at z
        rw [z, List.length_nil] at this
        have h1 : 0 < inner.length := List.length_pos_iff.mpr ni
        have h2 : 0 < ((outer.reverse.take i).foldl (horL inner) [0]).length := List.length_pos_iff.mpr nf
        omega
      refine ⟨_, rfl, _, rfl, f, u, _, inner, _, b, rfl, hf, hu.mono (Tle.same sm), bf, bi, by omega, nf, ni, by omega, fun H3 z s3 hz => ?_⟩
      refine ⟨_, rfl, one_line, fun t2 nt2 => ?_⟩
      refine ⟨z, .ref t2, _, [c], _, d, rfl, hz.mono (.new nt2), ⟨t2, _, rfl, sqT upd_same, .cons (rc.mono (((Tle.same sm).trans (Tle.same s3)).trans (.new nt2))) .nil⟩, (bf.conv bi).trim, bo.one hmem, by omega, by omega, npr, ?_, fun H4 x4 s4 hx4 => ?_⟩
      · rw [List.length_singleton]; omega
      · refine ⟨x4, _, rfl, ((sm.trans s3).trans (same_new nt2)).trans s4, s4 _ _ ((same_new nt2) _ _ (s3 _ _ er)), ?_⟩
        rw [List.take_add_one, hc, List.foldl_append]
        exact hx4
    · obtain ⟨f, y3, rfl, sm, er, hf⟩ := hP
      rw [List.length_reverse, lw, List.take_of_length_le (by rw [List.length_reverse]; exact Nat.le_refl _)] at hf
      exact ⟨_, rfl, k H' f sm hf⟩
/-! ### _law_whole -/
def spWhole (K : PySem.W.Frag) : Sp := fun vs H Q _ => ∃ a ys a0 r, vs = [.ref a] ∧ SqL K H a ys ∧ Paired (StV K H) ys (a0 :: r) ∧ Let a0 ∧ (∀ L ∈ r, Let L) ∧ r.length ≤ 2 ∧ ∀ H' x, Same H H' → StV K H' x (lawWhole (a0 :: r)) → Q x H'
theorem ok_law_whole (T : Tx K mg) : FnOk P w K mg base CX0 6 T.law_whole.f T.law_whole.fd ["_law_rows_so"] (spWhole K) := by
  refine T.law_whole.F.ok sc_law_whole (fun vs H Q E h => ?_) (fun cdv A outer' s H vs Q E hr h => ?_)
  · obtain ⟨a, ys, a0, r, rfl, _⟩ := h
    rfl
  · obtain ⟨a, ys, a0, r, rfl, hS, pp, la, lr, hl, k⟩ := h
    refine ⟨_, (pss_cons (ps_set (i := 1) sc_law_whole.nd rfl (.inl rfl) (pe_ix ix_list (pv 0) pe_int (fun _ _ => rfl)))
      (pss_cons (ps_for PassesOwn.never rfl (pi_list (pe_slice sl_list (pv 0) (po_some pe_int) po_none)) (pg_name (i := 2) sc_law_whole.nd rfl (.inl rfl))
        (pss_one (ps_set (i := 1) sc_law_whole.nd rfl (.inl rfl) (pe_call (ok_law_within T) hr (by rfl) T.law_within.g T.law_within.F.kp T.law_within.b .nil pass0 (pa_cons (pv 1) (pa_cons (pv 2) pa_nil))))))
      (pss_one (ps_ret (pv 1))))), ?_⟩
    cases pp with
    | cons hy0 pr =>
      rename_i y0 ys
      have lys := pLen pr
      refine ⟨_, rfl, a, _, _, y0, rfl, rfl, hS, atI_nat (j := 0) rfl, ?_⟩
      refine ⟨_, rfl, 1, rfl, a, _, rfl, hS, fun l nl => ⟨l, rfl, ⟨_, sqL upd_same⟩, ?_⟩⟩
      have ec : cutV (y0 :: ys) (some 1) none = ys := cutFrom (y0 :: ys) 1
      refine for_list (xs := ys) (fun i σ H' => ∃ x y2, σ = [some (.ref a), some x, y2] ∧ Same H H' ∧ H' l = some (.lst ys) ∧ StV K H' x ((r.take i).foldl lawWithin a0))
        ⟨y0, none, rfl, same_new nl, by rw [upd_same, ec], hy0.mono (.new nl)⟩ (fun i σ H' hi hP => ?_) (fun i x σ H' hx hP => ?_) (fun σ H' hP => ?_)
      · obtain ⟨x, y2, rfl, sm, el, _⟩ := hP
        exact sqL el
      · obtain ⟨f, y2, rfl, sm, el, hf⟩ := hP
        obtain ⟨L, hL, rL⟩ := pAt pr hx
        have hil : i < r.length := (List.getElem?_eq_some_iff.mp hL).1
        have lL := lr L (List.mem_of_getElem? hL)
        obtain ⟨g1, g2, g3⟩ := part_ok la lr i (by omega)
        have b1 : lbits i ≤ 228 := by
          have : i = 0 ∨ i = 1 := by omega
          rcases this with rfl | rfl <;> decide
        have b2 : llen i ≤ 12 := by
          have : i = 0 ∨ i = 1 := by omega
          rcases this with rfl | rfl <;> decide
        have lL4 := lL.len
        refine ⟨_, rfl, _, rfl, f, x, _, L, _, _, rfl, hf, rL.mono (Tle.same sm), g2, lL.bd, ?_, fun z => ?_, ?_, fun H3 z s3 hz => ?_⟩
        · have : (L.length + 1) * (lbits i + 28 + 1) ≤ 5 * 257 := Nat.mul_le_mul (by omega) (by omega)
          omega
        · have := g1.1
          rw [z, List.length_nil] at this
          omega
        · have : (L.length + 1) * ((r.take i).foldl lawWithin a0).length ≤ 5 * 12 := Nat.mul_le_mul (by omega) (by omega)
          omega
        · refine ⟨z, _, rfl, sm.trans s3, s3 _ _ el, ?_⟩
          rw [List.take_add_one, hL, List.foldl_append]
          exact hz
      · obtain ⟨f, y2, rfl, sm, el, hf⟩ := hP
        rw [List.take_of_length_le (by omega)] at hf
        exact ⟨_, rfl, k H' f sm hf⟩
/-! ### _law_word_step -/
def spWordStep (K : PySem.W.Frag) : Sp := fun vs H Q _ => ∃ u v R wd, vs = [u, v] ∧ RwV K H u R ∧ WdV K H v wd ∧ wd ≠ [] ∧ wd.length ≤ 3 ∧ (∀ i ∈ wd, i < R.length) ∧ (∀ L ∈ R, Let L) ∧ ∀ H' x, Same H H' → StV K H' x (wstep R wd) → Q x H'
theorem ok_law_word_step (T : Tx K mg) : FnOk P w K mg base CX0 7 T.law_word_step.f T.law_word_step.fd ["_law_rows_so", "_law_letters_so"] (spWordStep K) := by
  refine T.law_word_step.F.ok sc_law_word_step (fun vs H Q E h => ?_) (fun cdv A outer' s H vs Q E hr h => ?_)
  · obtain ⟨u, v, R, wd, rfl, _⟩ := h
    rfl
  · obtain ⟨u, v, R, wd, rfl, hu, hv, nw, hw3, hin, hR, k⟩ := h
    refine ⟨_, (pss_one (ps_ret (pe_call (ok_law_whole T) hr (by rfl) T.law_whole.g T.law_whole.F.kp T.law_whole.b .nil pass0 (pa_cons (pe_lc (own := [("_law_letter", 2)]) (g := gName 2) rfl sc_law_word_step.nd (pi_tup (pv 1)) (blkOk_by (N := N_law_word_step) (own := [("_law_letter", 2)]) (sc := defScope s_law_word_step) (by decide +kernel)) (fun _ _ _ _ _ => pg_name (i := 2) sc_law_word_step.nd rfl (.inl rfl)) (fun _ _ _ _ _ => pts_nil) (fun _ _ _ _ _ => (pe_ix (r := rIxT K) ix_tup (pv 0) (pv 2) (fun _ _ => rfl)))) pa_nil)))), ?_⟩
    obtain ⟨au, us, rfl, hSu, pu⟩ := id hu
    obtain ⟨av, rfl, hSv⟩ := id hv
    have lu := pLen pu
    refine ⟨_, rfl, av, rfl, ⟨_, hSv⟩, fun D nD => ?_⟩
    refine lc_tup (xs := wdv wd) (fun i H' => Same H H' ∧ ∃ zs, H' D = some (.lst zs) ∧ Paired (StV K H') zs ((wd.take i).map fun i => R.getD i [])) ⟨same_new nD, [], upd_same, .nil⟩ (fun i H' hi hP => (Tle.same hP.1).sq hSv) (fun i x H' hx hP => ?_) (fun H' hP => ?_)
    · obtain ⟨sm, zs, eD, pz⟩ := hP
      have hil : i < wd.length := by
        have := (List.getElem?_eq_some_iff.mp hx).1
        unfold wdv at this
        rw [List.length_map] at this
        exact this
      have ex : x = .int ((wd[i] : Nat) : Int) := by
        unfold wdv at hx
        rw [List.getElem?_map, List.getElem?_eq_getElem hil] at hx
        exact (Option.some.inj hx).symm
      subst ex
      have hlt := hin _ (List.getElem_mem hil)
      have hus : wd[i] < us.length := by omega
      obtain ⟨L, hL, rL⟩ := pAt pu (List.getElem?_eq_getElem hus)
      have lz := pLen pz
      rw [List.length_map, List.length_take] at lz
      refine ⟨rfl, _, rfl, _, rfl, au, us, _, _, rfl, rfl, (Tle.same sm).sq hSu, atI_nat (List.getElem?_eq_getElem hus), zs, eD, line_of (by omega), sameUpd sm nD, _, upd_same, ?_⟩
      rw [List.take_add_one, List.getElem?_eq_getElem hil, List.map_append]
      refine pSnoc (pMap pz fun _ _ y => y.mono (.lst eD)) ?_
      have eL : R.getD wd[i] [] = L := by rw [List.getD, hL]; rfl
      show StV K _ _ (R.getD wd[i] [])
      rw [eL]
      exact (rL.mono (Tle.same sm)).mono (.lst eD)
    · obtain ⟨sm, zs, eD, pz⟩ := hP
      have lz : (wdv wd).length = wd.length := by unfold wdv; rw [List.length_map]
      rw [lz, List.take_length] at pz
      cases wd with
      | nil => exact absurd rfl nw
      | cons i0 wr =>
        have hl : ∀ i ∈ i0 :: wr, Let (R.getD i []) := fun i hi => by
          have := hin i hi
          rw [List.getD, List.getElem?_eq_getElem this]
          exact hR _ (List.getElem_mem this)
        refine ⟨D, zs, _, _, rfl, sqL eD, pz, hl _ List.mem_cons_self, fun L hL => ?_, ?_, fun H4 x s4 hx => k H4 x (sm.trans s4) hx⟩
        · obtain ⟨i, hi, rfl⟩ := List.mem_map.mp hL
          exact hl i (List.mem_cons_of_mem _ hi)
        · show (wr.map _).length ≤ 2
          rw [List.length_map]
          simp only [List.length_cons] at hw3
          omega
end
section
variable {P : Program} {w : World} {K : PySem.W.Frag} {mg : Str → Option Value} {base : Heap}
/-! ### [word + (letter,) for letter in range(n)] -/
theorem wdv_snoc (u : Word) (i : Nat) : wdv (u ++ [i]) = wdv u ++ [.int ((i : Nat) : Int)] := by unfold wdv; rw [List.map_append]; rfl
theorem lc_ext {σ : L2.St} {H1 : Hp} {D : Addr} {Qd : Hp → Prop} {a b n : Nat} {wv : V} {u : Word} (hab : a ≠ b) (hb : b < σ.length) (ha : σ[a]? = some (some wv)) (hw : WdV K H1 wv u) (hul : u.length ≤ 20) (hn : n ≤ 900) (nD : H1 D = none)
    (hd : ∀ H' zs, Same H1 H' → H' D = some (.lst zs) → Paired (WdV K H') zs (ext1 n u) → Qd H') :
    ∃ W : Nat → Nat → Hp → Prop, (∃ m, W 0 m (L2.upd H1 D (.lst []))) ∧ ∀ i m H, W i m H →
      ((Itr 0 n).stop i H ∧ Qd H) ∨ ((Itr 0 n).go i H ∧ ∃ Nx : Hp → Prop, (∀ H', Nx H' → ∃ m', m' < m ∧ W (i + 1) m' H') ∧ ∀ x H', (Itr 0 n).yld i H x H' → gName b x (wipe σ [b]) H' fun σ2 H2 => wipe σ2 [b] = wipe σ [b] ∧ tYes σ2 H2 fun c H3 =>
        if c = true then tOp (rCatA K) (tVar a) (tTup (tCons (tVar b) tNil)) σ2 H3 fun y H4 => ∃ acc, H4 D = some (.lst acc) ∧ acc.length < sizeLine ∧ Nx (L2.upd H4 D (.lst (acc ++ [y]))) else Nx H3) := by
  refine lc_range (lo := 0) (n := n) (fun i H' => Same H1 H' ∧ ∃ zs, H' D = some (.lst zs) ∧ Paired (WdV K H') zs ((List.range i).map fun i => u ++ [i])) ⟨same_new nD, [], upd_same, .nil⟩ (fun i H' hi hP => ?_) (fun H' hP => ?_)
  · obtain ⟨sm, zs, eD, pz⟩ := hP
    have lz := pLen pz
    rw [List.length_map, List.length_range] at lz
    obtain ⟨aw, rfl, hSw⟩ := hw.mono (Tle.same sm)
    have e1 : wipe σ [b] = σ.set b none := rfl
    have e2 : ((wipe σ [b]).set b (some (.int (0 + (i : Int)))))[a]? = some (some (.ref aw)) := by
      rw [e1, List.getElem?_set_ne (Ne.symm hab), List.getElem?_set_ne (Ne.symm hab)]; exact ha
    have e3 : ((wipe σ [b]).set b (some (.int (0 + (i : Int)))))[b]? = some (some (.int (0 + (i : Int)))) := by
      rw [List.getElem?_set_self]
      rw [e1, List.length_set]; exact hb
    have fin : ∀ H4 y, Same H' H4 → WdV K H4 y (u ++ [i]) → ∃ acc, H4 D = some (.lst acc) ∧ acc.length < sizeLine ∧ (Same H1 (L2.upd H4 D (.lst (acc ++ [y]))) ∧ ∃ zs, (L2.upd H4 D (.lst (acc ++ [y]))) D = some (.lst zs) ∧ Paired (WdV K (L2.upd H4 D (.lst (acc ++ [y])))) zs ((List.range (i + 1)).map fun i => u ++ [i])) := fun H4 y s4 hy => by
      have eD4 := s4 _ _ eD
      refine ⟨zs, eD4, line_of (by omega), sameUpd (sm.trans s4) nD, _, upd_same, ?_⟩
      rw [List.range_succ, List.map_append]
      exact pSnoc (pMap pz fun _ _ y => y.mono ((Tle.same s4).trans (.lst eD4))) (hy.mono (.lst eD4))
    refine ⟨?_, ?_⟩
    · show ((wipe σ [b]).set b _).set b none = σ.set b none
      rw [e1, List.set_set, List.set_set]
    · refine ⟨_, e2, _, e3, one_line, fun p np => ?_⟩
      have es : SqT K (L2.upd H' p (.tup [.int (0 + (i : Int))])) p [.int (0 + (i : Int))] := sqT upd_same
      refine ⟨aw, p, wdv u, _, rfl, rfl, (Tle.new np).sq hSw, es, ?_, fun h0 => ?_, fun _ h0 => (nomatch h0), fun h0 _ t nt => ?_⟩
      · unfold wdv
        rw [List.length_map, List.length_singleton]
        exact Nat.le_of_lt (line_of (by omega))
      · have hu : u = [] := by unfold wdv at h0; exact List.map_eq_nil_iff.mp h0
        refine fin _ _ (same_new np) ⟨p, rfl, ?_⟩
        rw [hu, List.nil_append]
        refine sqT ?_
        rw [upd_same, Int.zero_add]; rfl
      · refine fin _ _ ((same_new np).trans (same_new nt)) ⟨t, rfl, sqT ?_⟩
        rw [upd_same, Int.zero_add, wdv_snoc]
  · obtain ⟨sm, zs, eD, pz⟩ := hP
    exact hd H' zs sm eD pz
/-! ### _law_words -/
def spWords (K : PySem.W.Frag) : Sp := fun vs H Q _ => ∃ n m : Nat, vs = [.int (n : Int), .int (m : Int)] ∧ n ≤ 8 ∧ m ≤ 8 ∧ (allw n m).length ≤ 400 ∧ ∀ H' l zs, Same H H' → H' l = some (.lst zs) → H l = none → Paired (WdV K H') zs (allw n m) → Q (.ref l) H'
theorem ok_law_words (T : Tx K mg) : FnOk P w K mg base CX0 1 T.law_words.f T.law_words.fd ["_law_many_so", "_law_most_so"] (spWords K) := by
  refine T.law_words.F.ok sc_law_words (fun vs H Q E h => ?_) (fun cdv A outer' s H vs Q E hr h => ?_)
  · obtain ⟨n, m, rfl, _⟩ := h
    rfl
  · obtain ⟨n, m, rfl, hn, hm, hlen, k⟩ := h
    refine ⟨_, (pss_cons (ps_par (i := 2) (j := 3) rfl sc_law_words.nd rfl rfl (by decide) rfl rfl (pa_cons (pe_lst pa_nil) (pa_cons (pe_lst (pa_cons (pe_tup pa_nil) pa_nil)) pa_nil)) (by rfl))
      (pss_cons (ps_for PassesOwn.never rfl (pi_range1 (by rfl) T.m_range (pa_cons (pv 1) pa_nil)) (pg_name (i := 4) sc_law_words.nd rfl (.inl rfl))
        (pss_cons (ps_set (i := 5) sc_law_words.nd rfl (.inl rfl) (pe_lst pa_nil))
        (pss_cons (ps_for PassesOwn.never rfl (pi_list (pv 3)) (pg_name (i := 6) sc_law_words.nd rfl (.inr rfl))
          (pss_one (ps_set (i := 5) sc_law_words.nd rfl (.inl rfl) (pe_op op_cat (pv 5) (pe_lc (own := [("_law_letter", 7)]) (g := gName 7) rfl sc_law_words.nd (pi_range1 rfl T.m_range (pa_cons (pv 0) pa_nil)) (blkOk_by (N := N_law_words) (own := [("_law_letter", 7)]) (sc := defScope s_law_words) (by decide +kernel)) (fun _ _ _ _ _ => pg_name (i := 7) sc_law_words.nd rfl (.inl rfl)) (fun _ _ _ _ _ => pts_nil) (fun _ _ _ _ _ => (pe_op (r := rCatA K) op_catA (pv 6) (pe_tup (pa_cons (pv 7) pa_nil)))))))))
        (pss_cons (ps_set (i := 3) sc_law_words.nd rfl (.inl rfl) (pv 5))
        (pss_one (ps_set (i := 2) sc_law_words.nd rfl (.inl rfl) (pe_op op_cat (pv 2) (pv 3))))))))
      (pss_one (ps_ret (pv 2))))), ?_⟩
    refine ⟨Nat.zero_le _, fun f0 nf0 => ⟨Nat.zero_le _, fun t0 nt0 => ⟨one_line, fun r0 nr0 => ⟨_, _, rfl, ?_⟩⟩⟩⟩
    have s0 : Same H (L2.upd (L2.upd (L2.upd H f0 (.lst [])) t0 (.tup [])) r0 (.lst [.ref t0])) := ((same_new nf0).trans (same_new nt0)).trans (same_new nr0)
    refine ⟨_, rfl, _, rfl, by omega, by omega, ?_⟩
    rw [Int.toNat_natCast]
    refine for_range (lo := 0) (n := m) (fun i σ H' => ∃ f r x4 x5 x6 x7, σ = [some (.int n), some (.int m), some (.ref f), some (.ref r), x4, x5, x6, x7] ∧ Same H H' ∧ H f = none ∧ ∃ fs rs, H' f = some (.lst fs) ∧ H' r = some (.lst rs) ∧ Paired (WdV K H') fs (allw n i) ∧ Paired (WdV K H') rs (lev n i))
      ⟨f0, r0, none, none, none, none, rfl, s0, nf0, [], [.ref t0], ?_, upd_same, .nil, .cons ⟨t0, rfl, sqT ?_⟩ .nil⟩ (fun i σ H' hi hP => ?_) (fun σ H' hP => ?_)
    · exact (same_new nr0) _ _ ((same_new nt0) _ _ upd_same)
    · exact (same_new nr0) _ _ upd_same
    · obtain ⟨f, r, x4, x5, x6, x7, rfl, sm, nf, fs, rs, ef, er, pf, pr⟩ := hP
      have lv : (lev n (i + 1)).length ≤ 400 := Nat.le_trans (lev_le n hi) hlen
      have lf := pLen pf
      have lr := pLen pr
      have la : (allw n (i + 1)).length ≤ 400 := Nat.le_trans (allw_mono n hi) hlen
      have la' : (allw n (i + 1)).length = (allw n i).length + (lev n (i + 1)).length := List.length_append
      refine ⟨Nat.zero_le _, fun g0 ng0 => ?_⟩
      refine ⟨_, rfl, r, rfl, ⟨_, sqL ((same_new ng0) _ _ er)⟩, ?_⟩
      refine for_list (xs := rs) (fun j σ H2 => ∃ g x6 x7, σ = [some (.int n), some (.int m), some (.ref f), some (.ref r), some (.int (0 + (i : Int))), some (.ref g), x6, x7] ∧ Same H' H2 ∧ ∃ gs, H2 g = some (.lst gs) ∧ Paired (WdV K H2) gs (exts n ((lev n i).take j)))
        ⟨g0, x6, x7, rfl, same_new ng0, [], upd_same, .nil⟩ (fun j σ H2 hj hP => ?_) (fun j x σ H2 hx hP => ?_) (fun σ H2 hP => ?_)
      · obtain ⟨g, x6, x7, rfl, sm2, _⟩ := hP
        exact sqL (sm2 _ _ er)
      · obtain ⟨g, x6, x7, rfl, sm2, gs, eg, pg⟩ := hP
        obtain ⟨u, hu, ru⟩ := pAt pr hx
        have humem := List.mem_of_getElem? hu
        have hul := (lev_wlen n i humem).1
        have lg := pLen pg
        have hjl : j < (lev n i).length := (List.getElem?_eq_some_iff.mp hu).1
        have lext : (exts n ((lev n i).take (j + 1))).length ≤ 400 := by
          have e1 := exts_len n ((lev n i).take (j + 1))
          have e2 := exts_len n (lev n i)
          have e3 : ((lev n i).take (j + 1)).length * n ≤ (lev n i).length * n := Nat.mul_le_mul_right _ (by rw [List.length_take]; omega)
          have e4 : (lev n (i + 1)).length = (exts n (lev n i)).length := rfl
          omega
        have et : (lev n i).take (j + 1) = (lev n i).take j ++ [u] := by rw [List.take_add_one, hu]; rfl
        rw [et, exts_snoc, List.length_append, ext1_len] at lext
        refine ⟨_, rfl, _, rfl, (n : Int), rfl, by omega, by omega, fun D nD => ?_⟩
        rw [Int.toNat_natCast]
        refine lc_ext (a := 6) (b := 7) (wv := x) (u := u) (by decide) (by simp) rfl (ru.mono (Tle.same sm2)) (by omega) (by omega) nD fun H3 zs s3 eD pz => ?_
        have lz := pLen pz
        rw [ext1_len] at lz
        refine ⟨g, D, gs, zs, rfl, rfl, s3 _ _ eg, eD, Nat.le_of_lt (line_of (by omega)), fun p np => ?_⟩
        refine ⟨p, _, _, rfl, (sm2.trans s3).trans (same_new np), _, upd_same, ?_⟩
        rw [et, exts_snoc]
        exact pApp (pMap pg fun _ _ y => y.mono ((Tle.same s3).trans (.new np))) (pMap pz fun _ _ y => y.mono (.new np))
      · obtain ⟨g, x6, x7, rfl, sm2, gs, eg, pg⟩ := hP
        rw [lr, List.take_length] at pg
        have lg := pLen pg
        have lg' : gs.length = (lev n (i + 1)).length := lg
        refine ⟨_, rfl, ?_⟩
        refine ⟨_, rfl, _, rfl, f, g, fs, gs, rfl, rfl, sm2 _ _ ef, eg, Nat.le_of_lt (line_of (by omega)), fun p np => ?_⟩
        have np0 : H p = none := Same.free (sm.trans sm2) np
        refine ⟨p, g, _, _, _, _, rfl, (sm.trans sm2).trans (same_new np), np0, _, gs, upd_same, (same_new np) _ _ eg, ?_, pMap pg fun _ _ y => y.mono (.new np)⟩
        exact pApp (pMap pf fun _ _ y => y.mono ((Tle.same sm2).trans (.new np))) (pMap pg fun _ _ y => y.mono (.new np))
    · obtain ⟨f, r, x4, x5, x6, x7, rfl, sm, nf, fs, rs, ef, er, pf, pr⟩ := hP
      exact ⟨_, rfl, k H' f fs sm ef nf pf⟩
end
/-! ### the state that is drawn from -/
def st3 (c l : Addr) (k : Nat) : List (Key × V) := [(.inr "cells", .ref c), (.inr "lefts", .ref l), (.inr "at", .int (k : Int))]
structure StA (H : Hp) (d c l : Addr) (n : Nat) : Prop where
  ne : c ≠ l
  ex : ∃ (cs ls : List Int) (k : Nat), H d = some (.dK (st3 c l k)) ∧ H c = some (.lst (cs.map V.int)) ∧ H l = some (.lst (ls.map V.int)) ∧ ls.length = cs.length ∧ 0 < cs.length ∧ cs.length ≤ 63 ∧ (∀ x ∈ ls, 0 ≤ x) ∧ k ≤ n
def But (d l : Addr) (H H' : Hp) : Prop := ∀ b o, b ≠ d → b ≠ l → H b = some o → H' b = some o
theorem But.refl (d l : Addr) (H : Hp) : But d l H H := fun _ _ _ _ h => h
theorem But.trans {d l : Addr} {H H1 H2 : Hp} (a : But d l H H1) (b : But d l H1 H2) : But d l H H2 := fun c o h1 h2 h => b c o h1 h2 (a c o h1 h2 h)
theorem But.same {d l : Addr} {H H' : Hp} (e : Same H H') : But d l H H' := fun b o _ _ h => e b o h
theorem StA.mono {H : Hp} {d c l : Addr} {n m : Nat} (h : StA H d c l n) (hm : n ≤ m) : StA H d c l m := by
  obtain ⟨ne, cs, ls, k, h1, h2, h3, h4, h5, h6, h7, h8⟩ := h
  exact ⟨ne, cs, ls, k, h1, h2, h3, h4, h5, h6, h7, by omega⟩
theorem StA.same {H H' : Hp} {d c l : Addr} {n : Nat} (h : StA H d c l n) (e : Same H H') : StA H' d c l n := by
  obtain ⟨ne, cs, ls, k, h1, h2, h3, h4⟩ := h
  exact ⟨ne, cs, ls, k, e _ _ h1, e _ _ h2, e _ _ h3, h4⟩
theorem StA.not {H : Hp} {d c l : Addr} {n : Nat} (h : StA H d c l n) {p : Addr} (hp : H p = none) : p ≠ d ∧ p ≠ c ∧ p ≠ l := by
  obtain ⟨ne, cs, ls, k, h1, h2, h3, h4⟩ := h
  refine ⟨fun z => ?_, fun z => ?_, fun z => ?_⟩
  · rw [z, h1] at hp; cases hp
  · rw [z, h2] at hp; cases hp
  · rw [z, h3] at hp; cases hp
theorem StA.tle {H H' : Hp} {d c l : Addr} {n : Nat} (h : StA H d c l n) (e : But d l H H') : Tle H H' := by
  obtain ⟨ne, cs, ls, k, h1, h2, h3, h4⟩ := h
  intro a xs r
  have na : a ≠ d := fun z => by rcases r with r | ⟨_, r⟩ <;> rw [z, h1] at r <;> cases r
  have nl : a ≠ l := fun z => by rcases r with r | ⟨_, r⟩ <;> rw [z, h3] at r <;> cases r
  rcases r with r | ⟨o, r⟩
  · exact .inl (e _ _ na nl r)
  · exact .inr ⟨o, e _ _ na nl r⟩
theorem But.free {H H' : Hp} {d c l : Addr} {n : Nat} (e : But d l H H') (h : StA H' d c l n) {p : Addr} (hp : H' p = none) : H p = none := by
  cases q : H p with
  | none => rfl
  | some o =>
    obtain ⟨n1, _, n3⟩ := h.not hp
    rw [e p o n1 n3 q] at hp
    cases hp
/-- what is new may be changed -/
theorem butUpd {d l : Addr} {H0 H : Hp} (e : But d l H0 H) {p : Addr} {o : HO} (h : H0 p = none) : But d l H0 (L2.upd H p o) := fun b x n1 n2 q => by
  rw [upd_ne (ne_of_none q h)]
  exact e b x n1 n2 q
theorem StA.upd {H : Hp} {d c l : Addr} {n : Nat} (h : StA H d c l n) {p : Addr} {o : HO} (h1 : p ≠ d) (h2 : p ≠ c) (h3 : p ≠ l) : StA (L2.upd H p o) d c l n := by
  obtain ⟨ne, cs, ls, k, e1, e2, e3, e4⟩ := h
  exact ⟨ne, cs, ls, k, by rw [upd_ne (Ne.symm h1)]; exact e1, by rw [upd_ne (Ne.symm h2)]; exact e2, by rw [upd_ne (Ne.symm h3)]; exact e3, e4⟩
section
variable {P : Program} {w : World} {K : PySem.W.Frag} {mg : Str → Option Value} {base : Heap}
/-! ### _law_mixed -/
def spMixed : Sp := fun vs H Q _ => ∃ (c : Int) (k : Nat), vs = [.int c, .int (k : Int)] ∧ k ≤ 100000 ∧ ∀ r : Nat, r < 2147483629 → Q (.int (r : Int)) H
theorem ok_law_mixed (T : Tx K mg) : FnOk P w K mg base CX0 1 T.law_mixed.f T.law_mixed.fd ["_law_cell", "_law_k"] spMixed := by
  refine T.law_mixed.F.ok sc_law_mixed (fun vs H Q E h => ?_) (fun cdv A outer' s H vs Q E hr h => ?_)
  · obtain ⟨c, k, rfl, _⟩ := h
    rfl
  · obtain ⟨c, k, rfl, hk, q⟩ := h
    refine ⟨_, (pss_cons (ps_set (i := 0) sc_law_mixed.nd rfl (.inl rfl) (pe_op op_mod (pe_callTy call_int1 (by rfl) T.m_int (by decide +kernel) (pa_cons (pv 0) pa_nil)) pe_int))
      (pss_one (ps_ret (pe_op op_mod (pe_op op_mul (pe_op op_mod (pe_op op_add (pe_op op_add (pe_op op_mul (pv 0) (pe_op op_add pe_int (pe_op op_mul (pe_op op_mul pe_int (pv 1)) (pv 1)))) (pe_op op_mul pe_int (pv 1))) pe_int) pe_int) pe_int) pe_int)))), ?_⟩
    have b1 := Int.emod_nonneg c (show (2147483647 : Int) ≠ 0 by decide)
    have b2 := Int.emod_lt_of_pos c (show (0 : Int) < 2147483647 by decide)
    refine ⟨_, rfl, .inl ⟨c, rfl, _, _, rfl, rfl, (by show (0 : Int) < 2147483647; decide), ?_⟩⟩
    refine ⟨_, rfl, _, rfl, _, _, rfl, rfl, .inl ⟨by decide, by decide⟩, _, rfl, _, _, rfl, rfl, .inl ⟨by omega, by omega⟩, _, _, rfl, rfl, _, _, rfl, rfl, .inl ⟨by omega, by omega⟩, _, rfl, _, _, rfl, rfl, .inl ⟨by decide, by decide⟩, _, _, rfl, rfl, _, _, rfl, rfl, _, _, rfl, rfl, (by show (0 : Int) < 2147483647; decide), _, _, rfl, rfl, .inr ⟨by decide, by decide⟩, _, _, rfl, rfl, (by show (0 : Int) < 2147483629; decide), ?_⟩
    generalize (c % 2147483647 * (48271 + 2 * (k : Int) * (k : Int)) + 69621 * (k : Int) + 11) % 2147483647 * 69621 = z
    have c1 := Int.emod_nonneg z (show (2147483629 : Int) ≠ 0 by decide)
    have c2 := Int.emod_lt_of_pos z (show (0 : Int) < 2147483629 by decide)
    have e : z % 2147483629 = (((z % 2147483629).toNat : Nat) : Int) := by omega
    show Q (.int (z % 2147483629)) H
    rw [e]
    exact q _ (by omega)
/-! ### _law_draw -/
def spDraw : Sp := fun vs H Q _ => ∃ (d c l : Addr) (n lim : Nat), vs = [.ref d, .int (lim : Int)] ∧ StA H d c l n ∧ n ≤ 10000 ∧ 1 ≤ lim ∧ lim ≤ 100 ∧ ∀ H' (r : Nat), But d l H H' → StA H' d c l (n + 1) → r < lim → Q (.int (r : Int)) H'
theorem ok_law_draw (T : Tx K mg) : FnOk P w K mg base CX0 2 T.law_draw.f T.law_draw.fd ["_law_state", "_law_limit"] spDraw := by
  refine T.law_draw.F.ok sc_law_draw (fun vs H Q E h => ?_) (fun cdv A outer' s H vs Q E hr h => ?_)
  · obtain ⟨d, c, l, n, lim, rfl, _⟩ := h
    rfl
  · obtain ⟨d, c, l, n, lim, rfl, ⟨ncl, cs, ls, k, hd, hc, hl, el, pos, hle, hls, hkn⟩, hn, hl1, hl2, q⟩ := h
    have hu := hu_of hr
    refine ⟨_, (pss_cons (ps_set (i := 2) sc_law_draw.nd rfl (.inl rfl) (pe_dget hu (pv 0) pe_str (fun _ _ => rfl)))
      (pss_cons (ps_dput hu (pv 0) pe_str (pe_op op_add (pv 2) pe_int) rfl)
      (pss_cons (ps_set (i := 3) sc_law_draw.nd rfl (.inl rfl) (pe_op op_mod (pe_callTy call_int1 (by rfl) T.m_int (by decide +kernel) (pa_cons (pv 2) pa_nil)) (pe_callB call_len_seq (by rfl) T.m_len (by decide +kernel) (pa_cons (pe_dget hu (pv 0) pe_str (fun _ _ => rfl)) pa_nil))))
      (pss_cons (ps_set (i := 4) sc_law_draw.nd rfl (.inl rfl) (pe_ix ix_list (pe_dget hu (pv 0) pe_str (fun _ _ => rfl)) (pv 3) (fun _ _ => rfl)))
      (pss_cons (ps_if (pt_cmpR op_gt (pv 4) pe_int (nomark _))
        (pss_cons (ps_asg (pe_op op_fdivW (pv 4) (pv 1)) (pg_sub (pe_dget hu (pv 0) pe_str (fun _ _ => rfl)) (pv 3) set_list))
        (pss_one (ps_ret (pe_op op_mod (pe_callTy call_int1 (by rfl) T.m_int (by decide +kernel) (pa_cons (pv 4) pa_nil)) (pv 1)))))
        pss_nil)
      (pss_cons (ps_set (i := 5) sc_law_draw.nd rfl (.inl rfl) (pe_call (ok_law_mixed T) hr (by rfl) T.law_mixed.g T.law_mixed.F.kp T.law_mixed.b .nil pass0 (pa_cons (pe_call (ok_law_mixed T) hr (by rfl) T.law_mixed.g T.law_mixed.F.kp T.law_mixed.b .nil pass0 (pa_cons (pe_ix ix_list (pe_dget hu (pv 0) pe_str (fun _ _ => rfl)) (pv 3) (fun _ _ => rfl)) (pa_cons (pv 2) pa_nil))) (pa_cons (pe_op op_add pe_int (pv 2)) pa_nil))))
      (pss_one (ps_ret (pe_op op_mod (pe_op op_fdiv (pe_callTy call_int1 (by rfl) T.m_int (by decide +kernel) (pa_cons (pe_op op_add (pe_op op_mul (pv 5) pe_int) (pe_call (ok_law_mixed T) hr (by rfl) T.law_mixed.g T.law_mixed.F.kp T.law_mixed.b .nil pass0 (pa_cons (pv 5) (pa_cons (pe_op op_add pe_int (pv 2)) pa_nil)))) pa_nil)) pe_int) (pv 1)))))))))), ?_⟩
    have ndc : d ≠ c := ne_of hd hc (by intro z; cases z)
    have ndl : d ≠ l := ne_of hd hl (by intro z; cases z)
    have eput : putK (st3 c l k) (.inr "at") (.int ((k : Int) + 1)) = st3 c l (k + 1) := by
      unfold st3; rfl
    refine ⟨_, rfl, d, _, rfl, DGet.k (k := Sum.inr "at") hd, ?_⟩
    refine ⟨_, rfl, _, _, rfl, rfl, _, rfl, d, _, rfl, DPut.k (k := Sum.inr "at") hd (by show 3 < sizeLine; decide), ?_⟩
    rw [eput]
    have hd1 : (L2.upd H d (.dK (st3 c l (k + 1)))) d = some (.dK (st3 c l (k + 1))) := upd_same
    have hc1 : (L2.upd H d (.dK (st3 c l (k + 1)))) c = some (.lst (cs.map V.int)) := by rw [upd_ne ndc.symm]; exact hc
    have hl1' : (L2.upd H d (.dK (st3 c l (k + 1)))) l = some (.lst (ls.map V.int)) := by rw [upd_ne ndl.symm]; exact hl
    have hlen : (cs.map V.int).length = cs.length := List.length_map ..
    refine ⟨_, rfl, .inl ⟨(k : Int), rfl, _, rfl, d, _, rfl, DGet.k (k := Sum.inr "cells") hd1, c, _, rfl, .inl (sqL hc1), _, _, rfl, rfl, (by show (0 : Int) < _; rw [hlen]; omega), ?_⟩⟩
    have epl : ((k : Int) % ((cs.map V.int).length : Int)) = ((k % cs.length : Nat) : Int) := by rw [hlen, Int.natCast_emod]
    have hpl : k % cs.length < cs.length := Nat.mod_lt _ pos
    have hp2 : k % cs.length < ls.length := by omega
    have glt : (ls.map V.int)[k % cs.length]? = some (.int ls[k % cs.length]) := by rw [List.getElem?_map, List.getElem?_eq_getElem hp2]; rfl
    have gct : (cs.map V.int)[k % cs.length]? = some (.int cs[k % cs.length]) := by rw [List.getElem?_map, List.getElem?_eq_getElem hpl]; rfl
    refine ⟨_, rfl, d, _, rfl, DGet.k (k := Sum.inr "lefts") hd1, _, rfl, l, _, _, _, rfl, rfl, sqL hl1', (by rw [epl]; exact atI_nat glt), ?_⟩
    have stB : But d l H (L2.upd H d (.dK (st3 c l (k + 1)))) := fun b o n1 n2 e => by rw [upd_ne n1]; exact e
    refine ⟨_, rfl, _, _, rfl, rfl, _, rfl, ite2 (fun h => ?_) (fun h => ?_)⟩
    · have hpos : 0 < ls[k % cs.length] := of_decide_eq_true h
      refine ⟨_, rfl, _, rfl, _, _, rfl, rfl, wide_div (b := 8) (by omega) (by rw [Int.natAbs_natCast]; omega) (by decide) (by decide), _, rfl, d, _, rfl, DGet.k (k := Sum.inr "lefts") hd1, _, rfl, l, _, _, k % cs.length, rfl, congrArg V.int epl, hl1', ixN_nat (by rw [List.length_map]; exact hp2), ?_⟩
      refine ⟨_, rfl, .inl ⟨_, rfl, _, rfl, _, _, rfl, rfl, (by show (0 : Int) < _; omega), ?_⟩⟩
      have c1 := Int.emod_nonneg ls[k % cs.length] (show ((lim : Nat) : Int) ≠ 0 by omega)
      have c2 := Int.emod_lt_of_pos ls[k % cs.length] (show (0 : Int) < ((lim : Nat) : Int) by omega)
      have e : ls[k % cs.length] % ((lim : Nat) : Int) = (((ls[k % cs.length] % ((lim : Nat) : Int)).toNat : Nat) : Int) := by omega
      show Q (.int (ls[k % cs.length] % ((lim : Nat) : Int))) _
      rw [e]
      refine q _ _ (fun b o n1 n2 z => by rw [upd_ne n2]; exact stB b o n1 n2 z) ⟨ncl, cs, ls.set (k % cs.length) (ls[k % cs.length] / (lim : Int)), k + 1, by rw [upd_ne ndl]; exact hd1, by rw [upd_ne ncl]; exact hc1, by rw [upd_same, List.map_set], by rw [List.length_set]; exact el, pos, hle, fun x hx => ?_, by omega⟩ (by omega)
      rcases List.mem_or_eq_of_mem_set hx with hx | rfl
      · exact hls x hx
      · exact Int.ediv_nonneg (by omega) (by omega)
    · refine ⟨_, rfl, d, _, rfl, DGet.k (k := Sum.inr "cells") hd1, _, rfl, c, _, _, _, rfl, rfl, sqL hc1, (by rw [epl]; exact atI_nat gct), _, rfl, cs[k % cs.length], k, rfl, by omega, fun r1 hr1 => ?_⟩
      refine ⟨_, rfl, _, _, rfl, rfl, (r1 : Int), 40 + k, ?_, by omega, fun r2 hr2 => ?_⟩
      · show [V.int (r1 : Int), V.int (40 + (k : Int))] = _
        rw [Int.natCast_add]; rfl
      refine ⟨_, rfl, _, _, rfl, rfl, .inl ⟨by omega, by omega⟩, _, rfl, _, rfl, _, _, rfl, rfl, (r2 : Int), 7 + k, ?_, by omega, fun r3 hr3 => ?_⟩
      · show [V.int (r2 : Int), V.int (7 + (k : Int))] = _
        rw [Int.natCast_add]; rfl
      refine ⟨_, _, rfl, rfl, .inl ⟨_, rfl, _, _, rfl, rfl, ⟨by decide, by decide⟩, _, rfl, _, _, rfl, rfl, (by show (0 : Int) < _; omega), ?_⟩⟩
      show Q (.int ((((r2 : Int) * 2147483647 + (r3 : Int)) / 64) % (lim : Int))) _
      generalize (((r2 : Int) * 2147483647 + (r3 : Int)) / 64) = z
      have c1 := Int.emod_nonneg z (show ((lim : Nat) : Int) ≠ 0 by omega)
      have c2 := Int.emod_lt_of_pos z (show (0 : Int) < ((lim : Nat) : Int) by omega)
      have e : z % ((lim : Nat) : Int) = (((z % ((lim : Nat) : Int)).toNat : Nat) : Int) := by omega
      rw [e]
      exact q _ _ stB ⟨ncl, cs, ls, k + 1, hd1, hc1, hl1', el, pos, hle, hls, by omega⟩ (by omega)
end
theorem q2_of {a b : Int} (ha : a.natAbs ≤ 2) (h0 : 0 < b) (hb : b ≤ 2) : Q2 (Rat.divInt a b) := by
  constructor
  · rw [← fr_num h0]
    exact Nat.le_trans (Int.natAbs_ediv_le_natAbs _ _) ha
  · have e := fr_den (a := a) h0
    have g := gcd_pos (a := a) h0
    have : b / ((Int.gcd a b : Nat) : Int) ≤ b := Int.ediv_le_self _ (by omega)
    omega
section
variable {P : Program} {w : World} {K : PySem.W.Frag} {mg : Str → Option Value} {base : Heap}
def spNumber (K : PySem.W.Frag) : Sp := fun vs H Q _ => ∃ (d c l : Addr) (n : Nat), vs = [.ref d, .int 2, .int 2] ∧ StA H d c l n ∧ n ≤ 9000 ∧ ∀ H' v q, But d l H H' → StA H' d c l (n + 2) → FrV K H' v q → Q2 q → Q v H'
theorem ok_law_number (T : Tx K mg) : FnOk P w K mg base CX0 3 T.law_number.f T.law_number.fd ["_law_state", "_law_most_to", "_law_below"] (spNumber K) := by
  refine T.law_number.F.ok sc_law_number (fun vs H Q E h => ?_) (fun cdv A outer' s H vs Q E hr h => ?_)
  · obtain ⟨d, c, l, n, rfl, _⟩ := h
    rfl
  · obtain ⟨d, c, l, n, rfl, st, hn, q⟩ := h
    refine ⟨_, (pss_one (ps_ret (pe_call (ok_law_frac T) hr (by rfl) T.law_frac.g T.law_frac.F.kp T.law_frac.b .nil pass0 (pa_cons (pe_op op_sub (pe_call (ok_law_draw T) hr (by rfl) T.law_draw.g T.law_draw.F.kp T.law_draw.b .nil pass0 (pa_cons (pv 0) (pa_cons (pe_op op_add (pe_op op_mul pe_int (pv 1)) pe_int) pa_nil))) (pv 1)) (pa_cons (pe_op op_add pe_int (pe_call (ok_law_draw T) hr (by rfl) T.law_draw.g T.law_draw.F.kp T.law_draw.b .nil pass0 (pa_cons (pv 0) (pa_cons (pv 2) pa_nil)))) pa_nil))))), ?_⟩
    refine ⟨_, rfl, _, rfl, _, _, rfl, rfl, .inl ⟨by decide, by decide⟩, _, _, rfl, rfl, d, c, l, n, 5, rfl, st, by omega, by decide, by decide, fun H1 r b1 st1 hr1 => ?_⟩
    refine ⟨_, rfl, _, _, rfl, rfl, _, rfl, _, rfl, d, c, l, n + 1, 2, rfl, st1, by omega, by decide, by decide, fun H2 r2 b2 st2 hr2 => ?_⟩
    refine ⟨_, _, rfl, rfl, (r : Int) - 2, 1 + (r2 : Int), rfl, by omega, ?_, fun H3 v s3 hv => ?_⟩
    · have : (1 + (r2 : Int)).natAbs < 2 ^ 2 := by omega
      exact Nat.lt_of_lt_of_le this (Nat.pow_le_pow_right (by decide) (by decide))
    · exact q H3 v _ ((b1.trans b2).trans (.same s3)) (st2.same s3) hv (q2_of (by omega) (by omega) (by omega))
def spStep (K : PySem.W.Frag) : Sp := fun vs H Q _ => ∃ (d c l : Addr) (n size : Nat), vs = [.ref d, .int (size : Int), .int 2, .int 2] ∧ StA H d c l n ∧ n ≤ 8000 ∧ 1 ≤ size ∧ size ≤ 2 ∧ ∀ H' v L, But d l H H' → StA H' d c l (n + 7) → StV K H' v L → Stp2 size L → Q v H'
theorem ok_law_step (T : Tx K mg) : FnOk P w K mg base CX0 4 T.law_step.f T.law_step.fd ["_law_state", "_law_size", "_law_most_to", "_law_below"] (spStep K) := by
  refine T.law_step.F.ok sc_law_step (fun vs H Q E h => ?_) (fun cdv A outer' s H vs Q E hr h => ?_)
  · obtain ⟨d, c, l, n, size, rfl, _⟩ := h
    rfl
  · obtain ⟨d, c, l, n, size, rfl, st, hn, hs1, hs2, q⟩ := h
    refine ⟨_, (pss_cons (ps_setLc (i := 5) (own := [("_law_power", 4)]) (g := gName 4) rfl sc_law_step.nd rfl rfl (sw_true rfl rfl rfl (by decide +kernel)) (pi_range1 rfl T.m_range (pa_cons (pv 1) pa_nil)) (blkOk_by (N := N_law_step) (own := [("_law_power", 4)]) (sc := defScope s_law_step) (by decide +kernel)) (fun _ _ _ _ _ => pg_name (i := 4) sc_law_step.nd rfl (.inl rfl)) (fun _ _ _ _ _ => pts_nil) (fun _ _ _ _ _ => (pe_call (ok_law_number T) hr (by rfl) T.law_number.g T.law_number.F.kp T.law_number.b .nil pass0 (pa_cons (pv 0) (pa_cons (pv 2) (pa_cons (pv 3) pa_nil))))))
      (pss_cons (ps_set (i := 6) sc_law_step.nd rfl (.inl rfl) (pe_call (ok_law_frac T) (hr.mono (by decide)) (by rfl) T.law_frac.g T.law_frac.F.kp T.law_frac.b .nil pass0 (pa_cons (pe_op op_mul (pe_op op_add pe_int (pe_call (ok_law_draw T) (hr.mono (by decide)) (by rfl) T.law_draw.g T.law_draw.F.kp T.law_draw.b .nil pass0 (pa_cons (pv 0) (pa_cons (pv 2) pa_nil)))) (pe_op op_sub pe_int (pe_op op_mul pe_int (pe_call (ok_law_draw T) (hr.mono (by decide)) (by rfl) T.law_draw.g T.law_draw.F.kp T.law_draw.b .nil pass0 (pa_cons (pv 0) (pa_cons pe_int pa_nil)))))) (pa_cons (pe_op op_add pe_int (pe_call (ok_law_draw T) (hr.mono (by decide)) (by rfl) T.law_draw.g T.law_draw.F.kp T.law_draw.b .nil pass0 (pa_cons (pv 0) (pa_cons (pv 3) pa_nil)))) pa_nil))))
      (pss_one (ps_ret (pe_callTy call_tuple_of (by rfl) T.m_tuple (by decide +kernel) (pa_cons (pe_op op_cat (pv 5) (pe_lst (pa_cons (pv 6) pa_nil))) pa_nil)))))), ?_⟩
    refine ⟨_, rfl, (size : Int), rfl, by omega, by omega, fun D nD => ?_⟩
    rw [Int.toNat_natCast]
    have stD : ∀ {H' : Hp} {n' : Nat} {o : HO}, StA H' d c l n' → StA (L2.upd H' D o) d c l n' := fun {H' n' o} z => let ⟨a1, a2, a3⟩ := st.not nD; z.upd a1 a2 a3
    refine lc_range (lo := 0) (n := size) (fun i H' => But d l H H' ∧ StA H' d c l (n + 2 * i) ∧ ∃ zs M, H' D = some (.lst zs) ∧ Paired (FrV K H') zs M ∧ M.length = i ∧ ∀ q ∈ M, Q2 q)
      ⟨.same (same_new nD), stD st, [], [], upd_same, .nil, rfl, fun q hq => by cases hq⟩ (fun i H' hi hP => ?_) (fun H' hP => ?_)
    · obtain ⟨bu, st', zs, M, eD, pz, lM, hM⟩ := hP
      have lz := pLen pz
      refine ⟨rfl, _, rfl, _, rfl, _, rfl, d, c, l, n + 2 * i, rfl, st', by omega, fun H2 v q2 b2 st2 hv hq2 => ?_⟩
      have nDd := st.not nD
      have eD2 : H2 D = some (.lst zs) := b2 _ _ nDd.1 nDd.2.2 eD
      refine ⟨zs, eD2, line_of (by omega), butUpd (bu.trans b2) nD, stD st2, _, M ++ [q2], upd_same, pSnoc (pMap pz fun _ _ y => y.mono ((st'.tle b2).trans (.lst eD2))) (hv.mono (.lst eD2)), by rw [List.length_append, List.length_singleton]; omega, fun q hq => ?_⟩
      rcases List.mem_append.mp hq with hq | hq
      · exact hM q hq
      · rw [List.mem_singleton.mp hq]; exact hq2
    · obtain ⟨bu, st', zs, M, eD, pz, lM, hM⟩ := hP
      have lz := pLen pz
      have nDd := st.not nD
      refine ⟨_, rfl, _, rfl, d, c, l, n + 2 * size, 2, rfl, st', by omega, by decide, by decide, fun H1 r1 b1 st1 hr1 => ?_⟩
      refine ⟨_, _, rfl, rfl, _, rfl, d, c, l, n + 2 * size + 1, 2, rfl, st1, by omega, by decide, by decide, fun H2 r2 b2 st2 hr2 => ?_⟩
      refine ⟨_, _, rfl, rfl, .inl ⟨by decide, by decide⟩, _, _, rfl, rfl, _, _, rfl, rfl, .inl ⟨by omega, by omega⟩, _, rfl, _, rfl, d, c, l, n + 2 * size + 2, 2, rfl, st2, by omega, by decide, by decide, fun H3 r3 b3 st3 hr3 => ?_⟩
      have hm : (1 + (r1 : Int)) * (1 - 2 * (r2 : Int)) = 1 + (r1 : Int) ∨ (1 + (r1 : Int)) * (1 - 2 * (r2 : Int)) = -(1 + (r1 : Int)) := by
        have : r2 = 0 ∨ r2 = 1 := by omega
        rcases this with rfl | rfl
        · left; simp
        · right; simp [Int.mul_neg]
      refine ⟨_, _, rfl, rfl, (1 + (r1 : Int)) * (1 - 2 * (r2 : Int)), 1 + (r3 : Int), rfl, by omega, ?_, fun H4 v s4 hv => ?_⟩
      · have : (1 + (r3 : Int)).natAbs < 2 ^ 2 := by omega
        exact Nat.lt_of_lt_of_le this (Nat.pow_le_pow_right (by decide) (by decide))
      have hq2 : Q2 (Rat.divInt ((1 + (r1 : Int)) * (1 - 2 * (r2 : Int))) (1 + (r3 : Int))) := q2_of (by rcases hm with e | e <;> rw [e] <;> omega) (by omega) (by omega)
      have hne : Rat.divInt ((1 + (r1 : Int)) * (1 - 2 * (r2 : Int))) (1 + (r3 : Int)) ≠ 0 := fun z => by
        have := fr_num (a := (1 + (r1 : Int)) * (1 - 2 * (r2 : Int))) (b := 1 + (r3 : Int)) (by omega)
        rw [z] at this
        have hd : (((Int.gcd ((1 + (r1 : Int)) * (1 - 2 * (r2 : Int))) (1 + (r3 : Int)) : Nat) : Int)) ∣ ((1 + (r1 : Int)) * (1 - 2 * (r2 : Int))) := Int.gcd_dvd_left ..
        have := Int.ediv_mul_cancel hd
        have h0 : ((1 + (r1 : Int)) * (1 - 2 * (r2 : Int))) / (((Int.gcd ((1 + (r1 : Int)) * (1 - 2 * (r2 : Int))) (1 + (r3 : Int)) : Nat) : Int)) = 0 := by assumption
        rw [h0, Int.zero_mul] at this
        rcases hm with e | e <;> omega
      generalize Rat.divInt ((1 + (r1 : Int)) * (1 - 2 * (r2 : Int))) (1 + (r3 : Int)) = q0 at hv hq2 hne
      have b4 : But d l H' H4 := ((b1.trans b2).trans b3).trans (.same s4)
      have st4 : StA H4 d c l (n + 2 * size + 3) := st3.same s4
      have eD4 : H4 D = some (.lst zs) := b4 _ _ nDd.1 nDd.2.2 eD
      refine ⟨_, rfl, _, rfl, one_line, fun t nt => ⟨D, t, zs, [v], rfl, rfl, (same_new nt) _ _ eD4, upd_same, Nat.le_of_lt (line_of (by rw [List.length_singleton]; omega)), fun u nu => ?_⟩⟩
      refine ⟨u, _, rfl, .inl ⟨sqL upd_same, fun x nx => ?_⟩⟩
      have s5 := ((same_new (o := .lst [v]) nt).trans (same_new (o := .lst (zs ++ [v])) nu)).trans (same_new (o := .tup (zs ++ [v])) nx)
      refine q _ _ (M ++ [q0]) ((bu.trans b4).trans (.same s5)) ((st4.same s5).mono (by omega)) ⟨x, _, rfl, sqT upd_same, pSnoc (pMap pz fun _ _ y => y.mono ((st'.tle b4).trans (Tle.same s5))) (hv.mono (Tle.same s5))⟩ ⟨by rw [List.length_append, List.length_singleton]; omega, fun q hq => ?_, Tp.of_last List.getLast?_concat hne⟩
      rcases List.mem_append.mp hq with hq | hq
      · exact hM q hq
      · rw [List.mem_singleton.mp hq]; exact hq2
def spRow (K : PySem.W.Frag) : Sp := fun vs H Q _ => ∃ (d c l sl : Addr) (n : Nat) (sizes : List Nat), vs = [.ref d, .ref sl, .int 2, .int 2] ∧ StA H d c l n ∧ n ≤ 7000 ∧ SqL K H sl (wdv sizes) ∧ sl ≠ d ∧ sl ≠ l ∧ sizes.length ≤ 3 ∧ (∀ z ∈ sizes, 1 ≤ z ∧ z ≤ 2) ∧
  ∀ H' v R, But d l H H' → StA H' d c l (n + 21) → RwV K H' v R → R.length = sizes.length → (∀ L ∈ R, Stp2 1 L ∨ Stp2 2 L) → Q v H'
theorem ok_law_row (T : Tx K mg) : FnOk P w K mg base CX0 5 T.law_row.f T.law_row.fd ["_law_state", "_law_sizes_so", "_law_most_to", "_law_below"] (spRow K) := by
  refine T.law_row.F.ok sc_law_row (fun vs H Q E h => ?_) (fun cdv A outer' s H vs Q E hr h => ?_)
  · obtain ⟨d, c, l, sl, n, sizes, rfl, _⟩ := h
    rfl
  · obtain ⟨d, c, l, sl, n, sizes, rfl, st, hn, hSl, nsd, nsl, hlen, hz, q⟩ := h
    refine ⟨_, (pss_one (ps_ret (pe_callTy call_tuple_of (by rfl) T.m_tuple (by decide +kernel) (pa_cons (pe_lc (own := [("_law_size", 4)]) (g := gName 4) rfl sc_law_row.nd (pi_list (pv 1)) (blkOk_by (N := N_law_row) (own := [("_law_size", 4)]) (sc := defScope s_law_row) (by decide +kernel)) (fun _ _ _ _ _ => pg_name (i := 4) sc_law_row.nd rfl (.inl rfl)) (fun _ _ _ _ _ => pts_nil) (fun _ _ _ _ _ => (pe_call (ok_law_step T) hr (by rfl) T.law_step.g T.law_step.F.kp T.law_step.b .nil pass0 (pa_cons (pv 0) (pa_cons (pv 4) (pa_cons (pv 2) (pa_cons (pv 3) pa_nil))))))) pa_nil)))), ?_⟩
    refine ⟨_, rfl, sl, rfl, ⟨_, hSl⟩, fun D nD => ?_⟩
    have stD : ∀ {H' : Hp} {n' : Nat} {o : HO}, StA H' d c l n' → StA (L2.upd H' D o) d c l n' := fun {H' n' o} z => let ⟨a1, a2, a3⟩ := st.not nD; z.upd a1 a2 a3
    have nDd := st.not nD
    have sqBut : ∀ {H'}, But d l H H' → SqL K H' sl (wdv sizes) := fun {H'} b => by
      rcases hSl with (h | ⟨o, h⟩) | h
      · exact .inl (.inl (b _ _ nsd nsl h))
      · exact .inl (.inr ⟨o, b _ _ nsd nsl h⟩)
      · exact .inr h
    refine lc_list (xs := wdv sizes) (fun i H' => But d l H H' ∧ StA H' d c l (n + 7 * i) ∧ ∃ zs M, H' D = some (.lst zs) ∧ Paired (StV K H') zs M ∧ M.length = i ∧ ∀ L ∈ M, Stp2 1 L ∨ Stp2 2 L)
      ⟨.same (same_new nD), stD st, [], [], upd_same, .nil, rfl, fun q hq => by cases hq⟩ (fun i H' hi hP => sqBut hP.1) (fun i x H' hx hP => ?_) (fun H' hP => ?_)
    · obtain ⟨bu, st', zs, M, eD, pz, lM, hM⟩ := hP
      have lz := pLen pz
      have hil : i < sizes.length := by
        have := (List.getElem?_eq_some_iff.mp hx).1
        unfold wdv at this
        rw [List.length_map] at this
        exact this
      have ex : x = .int ((sizes[i] : Nat) : Int) := by
        unfold wdv at hx
        rw [List.getElem?_map, List.getElem?_eq_getElem hil] at hx
        exact (Option.some.inj hx).symm
      subst ex
      have hs := hz _ (List.getElem_mem hil)
      refine ⟨rfl, _, rfl, _, rfl, _, rfl, _, rfl, d, c, l, n + 7 * i, sizes[i], rfl, st', by omega, hs.1, hs.2, fun H2 v L b2 st2 hv hL => ?_⟩
      have eD2 : H2 D = some (.lst zs) := b2 _ _ nDd.1 nDd.2.2 eD
      refine ⟨zs, eD2, line_of (by omega), butUpd (bu.trans b2) nD, stD st2, _, M ++ [L], upd_same, pSnoc (pMap pz fun _ _ y => y.mono ((st'.tle b2).trans (.lst eD2))) (hv.mono (.lst eD2)), by rw [List.length_append, List.length_singleton]; omega, fun q hq => ?_⟩
      rcases List.mem_append.mp hq with hq | hq
      · exact hM q hq
      · rw [List.mem_singleton.mp hq]
        have : sizes[i] = 1 ∨ sizes[i] = 2 := by omega
        rcases this with e | e
        · exact .inl (e ▸ hL)
        · exact .inr (e ▸ hL)
    · obtain ⟨bu, st', zs, M, eD, pz, lM, hM⟩ := hP
      have lw : (wdv sizes).length = sizes.length := by unfold wdv; rw [List.length_map]
      rw [lw] at st' lM
      refine ⟨D, _, rfl, .inl ⟨sqL eD, fun x nx => ?_⟩⟩
      exact q _ _ M (bu.trans (.same (same_new nx))) ((st'.same (same_new nx)).mono (by omega)) ⟨x, zs, rfl, sqT upd_same, pMap pz fun _ _ y => y.mono (.new nx)⟩ lM hM
end
theorem shaped_ints (ns : List Int) : SeqAt.shaped (.list (ns.map PyData.int)) = true := by
  unfold SeqAt.shaped
  rw [show PyData.canLay0 (.list (ns.map PyData.int)) = true by rw [PyData.canLay0]; exact canLay_all (fun _ => by simp [PyData.canLay0]) ns, Bool.true_and]
  refine decide_eq_true ?_
  have := depth_all (f := PyData.int) (n := 0) (fun _ => by simp [PyData.depth]) ns
  rw [PyData.depth]; omega
theorem dpAll_ints {K : PySem.W.Frag} {H : Hp} : ∀ ns : List Int, DpAll K H (ns.map V.int) (ns.map PyData.int)
  | [] => .nil
  | n :: ns => .cons (.int n) (dpAll_ints ns)
section
variable {P : Program} {w : World} {K : PySem.W.Frag} {mg : Str → Option Value} {base : Heap}
def spBegin (K : PySem.W.Frag) : Sp := fun vs H Q _ => ∃ (a : Addr) (ns : List Int), vs = [.ref a] ∧ SqL K H a (ns.map V.int) ∧ ns.length ≤ 63 ∧ ∀ H' d c l, Same H H' → StA H' d c l 0 → Q (.ref d) H'
theorem ok_law_begin (T : Tx K mg) : FnOk P w K mg base CX0 1 T.law_begin.f T.law_begin.fd ["_law_script"] (spBegin K) := by
  refine T.law_begin.F.ok sc_law_begin (fun vs H Q E h => ?_) (fun cdv A outer' s H vs Q E hr h => ?_)
  · obtain ⟨a, ns, rfl, _⟩ := h
    rfl
  · obtain ⟨a, ns, rfl, hS, hlen, q⟩ := h
    refine ⟨_, (pss_cons (ps_set (i := 1) sc_law_begin.nd rfl (.inl rfl) (pe_ifExp (pt_cmpR (op_neD hr.units) (pv 0) (pe_lst pa_nil) (nomark _)) (pe_callTy call_list_of (by rfl) T.m_list (by decide +kernel) (pa_cons (pv 0) pa_nil)) (pe_lst (pa_cons pe_int pa_nil))))
      (pss_one (ps_ret (pe_disp (pps_cons pe_str (pv 1) (pps_cons pe_str (pe_lc (own := [("_law_cell", 2)]) (g := gName 2) rfl sc_law_begin.nd (pi_list (pv 1)) (blkOk_by (N := N_law_begin) (own := [("_law_cell", 2)]) (sc := defScope s_law_begin) (by decide +kernel)) (fun _ _ _ _ _ => pg_name (i := 2) sc_law_begin.nd rfl (.inl rfl)) (fun _ _ _ _ _ => pts_nil) (fun _ _ _ _ _ => (pe_ifExp (pt_cmpR (r := rI0 fun i j => .bl (decide (j ≤ i))) op_ge (pv 2) (pe_op (r := rI CPow fun i j => .int (i ^ j.toNat)) op_pow pe_int pe_int) (nomark _)) (pv 2) pe_int))) (pps_cons pe_str pe_int pps_nil))) (by rfl) (by rfl) (fun z => by cases z) (by decide))))), ?_⟩
    refine part (te := tIf _ _ _) (fun x H2 => ∃ (c : Addr) (cs : List Int), x = .ref c ∧ Same H H2 ∧ H2 c = some (.lst (cs.map V.int)) ∧ 0 < cs.length ∧ cs.length ≤ 63) (fun R key => ?_) (fun x H2 hx => ?_)
    · refine ⟨_, rfl, Nat.zero_le _, fun e ne => ⟨_, _, .lst ((same_new ne).seq hS) (dpAll_ints ns), .lst (sqL upd_same) .nil, shaped_ints ns, shaped_ints [], _, rfl, ?_⟩⟩
      have hS1 := (same_new (o := .lst []) ne).seq hS
      cases ns with
      | nil =>
        rw [show (!PyData.eqv (.list (([] : List Int).map PyData.int)) (.list [])) = false by simp [PyData.eqv, PyData.eqvAll]]
        refine iteF ⟨one_line, fun c nc => key _ _ ⟨c, [0], rfl, (same_new ne).trans (same_new nc), upd_same, by decide, by decide⟩⟩
      | cons n r =>
        rw [show (!PyData.eqv (.list ((n :: r).map PyData.int)) (.list [])) = true by simp [PyData.eqv, PyData.eqvAll]]
        refine iteT ⟨_, rfl, a, _, rfl, .inl hS1, fun c nc => key _ _ ⟨c, n :: r, rfl, (same_new ne).trans (same_new nc), upd_same, by simp, hlen⟩⟩
    · obtain ⟨c, cs, rfl, s2, ec, hpos, hle⟩ := hx
      refine fun p np => ⟨_, rfl, _, rfl, c, rfl, ⟨_, sqL ((same_new np) _ _ ec)⟩, fun D nD => ?_⟩
      have s3 := s2.trans (same_new (o := .dK []) np)
      refine lc_list (xs := cs.map V.int) (fun i H' => Same (L2.upd H2 p (.dK [])) H' ∧ ∃ ls : List Int, H' D = some (.lst (ls.map V.int)) ∧ ls.length = i ∧ ∀ x ∈ ls, 0 ≤ x)
        ⟨same_new nD, [], upd_same, rfl, fun x hx => by cases hx⟩ (fun i H' hi hP => sqL (hP.1 _ _ ((same_new np) _ _ ec))) (fun i x H' hx hP => ?_) (fun H' hP => ?_)
      · obtain ⟨sm, ls, eD, ll, hls⟩ := hP
        have hil : i < cs.length := by
          have := (List.getElem?_eq_some_iff.mp hx).1
          rw [List.length_map] at this
          exact this
        have ex : x = .int cs[i] := by
          rw [List.getElem?_map, List.getElem?_eq_getElem hil] at hx
          exact (Option.some.inj hx).symm
        subst ex
        have fin : ∀ y : Int, 0 ≤ y → ∃ acc, H' D = some (.lst acc) ∧ acc.length < sizeLine ∧ (Same (L2.upd H2 p (.dK [])) (L2.upd H' D (.lst (acc ++ [.int y]))) ∧ ∃ ls : List Int, (L2.upd H' D (.lst (acc ++ [.int y]))) D = some (.lst (ls.map V.int)) ∧ ls.length = i + 1 ∧ ∀ x ∈ ls, 0 ≤ x) := fun y hy => by
          refine ⟨_, eD, line_of (by rw [List.length_map]; omega), sameUpd sm nD, ls ++ [y], by rw [upd_same, List.map_append]; rfl, by rw [List.length_append, List.length_singleton]; omega, fun x hx => ?_⟩
          rcases List.mem_append.mp hx with hx | hx
          · exact hls x hx
          · rw [List.mem_singleton.mp hx]; exact hy
        refine ⟨rfl, ?_⟩
        refine ⟨_, rfl, _, _, rfl, rfl, ⟨by decide, by decide, by decide⟩, _, _, rfl, rfl, _, rfl, ite2 (fun h => ?_) (fun h => ?_)⟩
        · have h1 : (10 : Int) ^ (18 : Int).toNat ≤ cs[i] := of_decide_eq_true h
          have h2 : (10 : Int) ^ (18 : Int).toNat = 1000000000000000000 := by decide
          exact ⟨_, rfl, fin cs[i] (by omega)⟩
        · exact fin 0 (by decide)
      · obtain ⟨sm, ls, eD, ll, hls⟩ := hP
        rw [List.length_map] at ll
        have ep : H' p = some (.dK []) := sm _ _ upd_same
        have ecc : H' c = some (.lst (cs.map V.int)) := sm _ _ ((same_new np) _ _ ec)
        refine ⟨ep, [(.inr "cells", .ref c), (.inr "lefts", .ref D), (.inr "at", .int 0)], rfl, (by show 3 ≤ 15; decide), ?_⟩
        have em : mergeK ([] : List (Key × V)) [(.inr "cells", .ref c), (.inr "lefts", .ref D), (.inr "at", .int 0)] = st3 c D 0 := by rfl
        rw [em]
        have npc : c ≠ p := ne_of ecc ep (by intro z; cases z)
        have npD : D ≠ p := ne_of eD ep (by intro z; cases z)
        have ncD : c ≠ D := fun z => by
          have : (L2.upd H2 p (.dK [])) D = some (.lst (cs.map V.int)) := by rw [← z]; exact (same_new np) _ _ ec
          rw [nD] at this; cases this
        have np0 : H p = none := Same.free s2 np
        refine q _ p c D (fun b o e => ?_) ⟨ncD, cs, ls, 0, upd_same, by rw [upd_ne npc]; exact ecc, by rw [upd_ne npD]; exact eD, ll, hpos, hle, hls, Nat.le_refl _⟩
        have nb : b ≠ p := ne_of_none e np0
        rw [upd_ne nb]
        exact sm _ _ (s3 _ _ e)
end
/-! ### steps written out -/
def teFr (a b : Int) : TE := tTup (tCons (tC (.int a)) (tCons (tC (.int b)) tNil))
def taFrs : List (Int × Int) → TA
  | [] => tNil
  | p :: r => tCons (teFr p.1 p.2) (taFrs r)
@[irreducible] def teLit (ps : List (Int × Int)) : TE := tTup (taFrs ps)
theorem pe_lit {X : Cx} {es : List Expr} {x1 : Nat} {pos : Pos} {ps : List (Int × Int)} (h : PA X es (taFrs ps)) : PE X (.Tuple es x1 pos) (teLit ps) := by
  unfold teLit
  exact pe_tup h
def lit (ps : List (Int × Int)) : List Rat := ps.map fun p => Rat.divInt p.1 p.2
def CanP (p : Int × Int) : Prop := (Rat.divInt p.1 p.2).num = p.1 ∧ ((Rat.divInt p.1 p.2).den : Int) = p.2
section
variable {K : PySem.W.Frag}
theorem lit_args : ∀ (ps : List (Int × Int)), (∀ p ∈ ps, CanP p) → ∀ (σ : L2.St) (H : Hp) (Q : List V → Hp → Prop), (∀ vs H2, Same H H2 → Paired (FrV K H2) vs (lit ps) → Q vs H2) → taFrs ps σ H Q
  | [], _, σ, H, Q, h => h [] H (Same.refl _) .nil
  | p :: r, hp, σ, H, Q, h => by
    refine ⟨two_line, fun t nt => ?_⟩
    refine lit_args r (fun x hx => hp x (List.mem_cons_of_mem _ hx)) σ _ _ fun vs H2 s2 hv => ?_
    refine h (.ref t :: vs) H2 ((same_new nt).trans s2) (.cons ⟨t, rfl, ?_⟩ hv)
    obtain ⟨e1, e2⟩ := hp p List.mem_cons_self
    refine (Tle.same s2).sq (sqT ?_)
    rw [upd_same, e1, e2]
theorem lit_step (ps : List (Int × Int)) (hp : ∀ p ∈ ps, CanP p) (hl : ps.length ≤ 100) (σ : L2.St) (H : Hp) (Q : VK) (h : ∀ x H2, Same H H2 → StV K H2 x (lit ps) → Q x H2) : teLit ps σ H Q := by
  unfold teLit
  refine lit_args (K := K) ps hp σ H _ fun vs H2 s2 hv => ?_
  have lv := pLen hv
  unfold lit at lv
  rw [List.length_map] at lv
  refine ⟨Nat.le_of_lt (line_of (by omega)), fun t nt => h _ _ (s2.trans (same_new nt)) ⟨t, vs, rfl, sqT upd_same, pMap hv fun _ _ y => y.mono (.new nt)⟩⟩
end
/-! the written steps -/
abbrev p_two : List (Int × Int) := [(0, 1), (0, 1), (1, 1)]
abbrev p_three : List (Int × Int) := [(0, 1), (0, 1), (0, 1), (1, 1)]
abbrev p_more : List (Int × Int) := [(1, 1), (0, 1), (1, 1)]
abbrev p_sq : List (Int × Int) := [(1, 1), (2, 1), (1, 1)]
abbrev p_on : List (Int × Int) := [(1, 2), (1, 1)]
abbrev p_x : List (Int × Int) := [(0, 1), (1, 1)]
abbrev p_minus : List (Int × Int) := [(0, 1), (-1, 1)]
theorem can_of (ps : List (Int × Int)) (h : (ps.all fun p => decide ((Rat.divInt p.1 p.2).num = p.1) && decide (((Rat.divInt p.1 p.2).den : Int) = p.2)) = true) : ∀ p ∈ ps, CanP p := fun p hp => by
  have := List.all_eq_true.mp h p hp
  rw [Bool.and_eq_true, decide_eq_true_iff, decide_eq_true_iff] at this
  exact this
theorem ltr_of (ps : List (Int × Int)) (h : (decide (2 ≤ ps.length) && decide (ps.length ≤ 4) && ps.all (fun p => decide ((Rat.divInt p.1 p.2).num.natAbs ≤ 64) && decide ((Rat.divInt p.1 p.2).den ≤ 8)) && (match ps.getLast? with | some p => decide (Rat.divInt p.1 p.2 ≠ 0) | none => false)) = true) : Ltr (lit ps) := by
  rw [Bool.and_eq_true, Bool.and_eq_true, Bool.and_eq_true, decide_eq_true_iff, decide_eq_true_iff] at h
  obtain ⟨⟨⟨h1, h2⟩, h3⟩, h4⟩ := h
  have hl : (lit ps).length = ps.length := List.length_map ..
  refine ⟨⟨by omega, fun c hc => ?_⟩, by omega, fun q hq => ?_⟩
  · unfold lit at hc
    rw [List.getLast?_map] at hc
    cases e : ps.getLast? with
    | none => rw [e] at hc; cases hc
    | some p =>
      rw [e] at hc h4
      have e2 : Rat.divInt p.1 p.2 = c := Option.some.inj hc
      rw [← e2]
      exact of_decide_eq_true h4
  · obtain ⟨p, hp, rfl⟩ := List.mem_map.mp hq
    have := List.all_eq_true.mp h3 p hp
    rw [Bool.and_eq_true, decide_eq_true_iff, decide_eq_true_iff] at this
    exact this
theorem lit_on : lit p_on = onL := by decide +kernel
section
variable {P : Program} {w : World} {K : PySem.W.Frag} {mg : Str → Option Value} {base : Heap}
def spSome (K : PySem.W.Frag) : Sp := fun vs H Q _ => ∃ (d c l : Addr) (n : Nat), vs = [.ref d] ∧ StA H d c l n ∧ n ≤ 1000 ∧ ∀ H' v R, But d l H H' → StA H' d c l (n + 50) → RwV K H' v R → Menu R → Q v H'
theorem ok_law_some_steps (T : Tx K mg) : FnOk P w K mg base CX0 6 T.law_some_steps.f T.law_some_steps.fd ["_law_state"] (spSome K) := by
  refine T.law_some_steps.F.ok sc_law_some_steps (fun vs H Q E h => ?_) (fun cdv A outer' s H vs Q E hr h => ?_)
  · obtain ⟨d, c, l, n, rfl, _⟩ := h
    rfl
  · obtain ⟨d, c, l, n, rfl, st, hn, q⟩ := h
    refine ⟨_, (pss_cons (ps_asg (pe_tup (pa_cons (pe_lit (ps := p_two) (pa_cons (pe_tup (pa_cons pe_int (pa_cons pe_int pa_nil))) (pa_cons (pe_tup (pa_cons pe_int (pa_cons pe_int pa_nil))) (pa_cons (pe_tup (pa_cons pe_int (pa_cons pe_int pa_nil))) pa_nil)))) (pa_cons (pe_lit (ps := p_three) (pa_cons (pe_tup (pa_cons pe_int (pa_cons pe_int pa_nil))) (pa_cons (pe_tup (pa_cons pe_int (pa_cons pe_int pa_nil))) (pa_cons (pe_tup (pa_cons pe_int (pa_cons pe_int pa_nil))) (pa_cons (pe_tup (pa_cons pe_int (pa_cons pe_int pa_nil))) pa_nil))))) (pa_cons (pe_tup (pa_cons (pe_tup (pa_cons pe_int (pa_cons pe_int pa_nil))) (pa_cons (pe_tup (pa_cons (pe_un un_neg pe_int) (pa_cons pe_int pa_nil))) pa_nil))) pa_nil)))) (pg_tup (by rfl) (pgs_cons (pg_name (i := 1) sc_law_some_steps.nd rfl (.inl rfl)) (pgs_cons (pg_name (i := 2) sc_law_some_steps.nd rfl (.inl rfl)) (pgs_cons (pg_name (i := 3) sc_law_some_steps.nd rfl (.inl rfl)) pgs_nil)))))
      (pss_cons (ps_par (i := 4) (j := 5) rfl sc_law_some_steps.nd rfl rfl (by decide) rfl rfl (pa_cons (pe_call (ok_law_draw T) (hr.mono (by decide)) (by rfl) T.law_draw.g T.law_draw.F.kp T.law_draw.b .nil pass0 (pa_cons (pv 0) (pa_cons pe_int pa_nil))) (pa_cons (pe_call (ok_law_step T) (hr.mono (by decide)) (by rfl) T.law_step.g T.law_step.F.kp T.law_step.b .nil pass0 (pa_cons (pv 0) (pa_cons pe_int (pa_cons pe_int (pa_cons pe_int pa_nil))))) pa_nil)) (by rfl))
      (pss_cons (ps_if (pt_cmpR op_eq (pv 4) pe_int (nomark _))
        (pss_one (ps_ret (pe_tup (pa_cons (pv 1) (pa_cons (pv 2) pa_nil)))))
        pss_nil)
      (pss_cons (ps_if (pt_cmpR op_eq (pv 4) pe_int (nomark _))
        (pss_one (ps_ret (pe_tup (pa_cons (pv 1) (pa_cons (pv 3) (pa_cons (pe_lit (ps := p_more) (pa_cons (pe_tup (pa_cons pe_int (pa_cons pe_int pa_nil))) (pa_cons (pe_tup (pa_cons pe_int (pa_cons pe_int pa_nil))) (pa_cons (pe_tup (pa_cons pe_int (pa_cons pe_int pa_nil))) pa_nil)))) pa_nil))))))
        pss_nil)
      (pss_cons (ps_if (pt_cmpR op_eq (pv 4) pe_int (nomark _))
        (pss_cons (ps_set (i := 6) sc_law_some_steps.nd rfl (.inl rfl) (pe_lit (ps := p_on) (pa_cons (pe_tup (pa_cons pe_int (pa_cons pe_int pa_nil))) (pa_cons (pe_tup (pa_cons pe_int (pa_cons pe_int pa_nil))) pa_nil))))
        (pss_one (ps_ret (pe_tup (pa_cons (pv 6) (pa_cons (pe_call (ok_law_within T) hr (by rfl) T.law_within.g T.law_within.F.kp T.law_within.b .nil pass0 (pa_cons (pv 6) (pa_cons (pv 5) pa_nil))) (pa_cons (pv 5) pa_nil)))))))
        pss_nil)
      (pss_cons (ps_if (pt_cmpR op_eq (pv 4) pe_int (nomark _))
        (pss_one (ps_ret (pe_tup (pa_cons (pv 1) (pa_cons (pe_lit (ps := p_more) (pa_cons (pe_tup (pa_cons pe_int (pa_cons pe_int pa_nil))) (pa_cons (pe_tup (pa_cons pe_int (pa_cons pe_int pa_nil))) (pa_cons (pe_tup (pa_cons pe_int (pa_cons pe_int pa_nil))) pa_nil)))) (pa_cons (pe_lit (ps := p_sq) (pa_cons (pe_tup (pa_cons pe_int (pa_cons pe_int pa_nil))) (pa_cons (pe_tup (pa_cons pe_int (pa_cons pe_int pa_nil))) (pa_cons (pe_tup (pa_cons pe_int (pa_cons pe_int pa_nil))) pa_nil)))) pa_nil))))))
        pss_nil)
      (pss_cons (ps_if (pt_cmpR op_eq (pv 4) pe_int (nomark _))
        (pss_one (ps_ret (pe_tup (pa_cons (pv 5) (pa_cons (pe_lit (ps := p_x) (pa_cons (pe_tup (pa_cons pe_int (pa_cons pe_int pa_nil))) (pa_cons (pe_tup (pa_cons pe_int (pa_cons pe_int pa_nil))) pa_nil))) pa_nil)))))
        pss_nil)
      (pss_one (ps_ret (pe_call (ok_law_row T) hr (by rfl) T.law_row.g T.law_row.F.kp T.law_row.b .nil pass0 (pa_cons (pv 0) (pa_cons (pe_lc (own := [("_law_turn", 7)]) (g := gName 7) rfl sc_law_some_steps.nd (pi_range1 rfl T.m_range (pa_cons (pe_op op_add pe_int (pe_call (ok_law_draw T) (hr.mono (by decide)) (by rfl) T.law_draw.g T.law_draw.F.kp T.law_draw.b .nil pass0 (pa_cons (pv 0) (pa_cons pe_int pa_nil)))) pa_nil)) (blkOk_by (N := N_law_some_steps) (own := [("_law_turn", 7)]) (sc := defScope s_law_some_steps) (by decide +kernel)) (fun _ _ _ _ _ => pg_name (i := 7) sc_law_some_steps.nd rfl (.inl rfl)) (fun _ _ _ _ _ => pts_nil) (fun _ _ _ _ _ => (pe_op op_add pe_int (pe_call (ok_law_draw T) (hr.mono (by decide)) (by rfl) T.law_draw.g T.law_draw.F.kp T.law_draw.b .nil pass0 (pa_cons (pv 0) (pa_cons pe_int pa_nil)))))) (pa_cons pe_int (pa_cons pe_int pa_nil)))))))))))))), ?_⟩
    have three_line : (3 : Nat) ≤ sizeLine := by decide
    -- the three written ones
    refine lit_step (K := K) p_two (can_of _ (by decide +kernel)) (by decide) _ _ _ fun x1 H1 s1 h1 => ?_
    refine lit_step (K := K) p_three (can_of _ (by decide +kernel)) (by decide) _ _ _ fun x2 H2 s2 h2 => ?_
    refine ⟨two_line, fun t1 n1 => ⟨1, rfl, two_line, fun t2 n2 => ⟨two_line, fun t3 n3 => ⟨three_line, fun t4 n4 => ?_⟩⟩⟩⟩
    refine ⟨t4, _, rfl, sqT upd_same, rfl, _, _, rfl, _, _, rfl, _, _, rfl, rfl, ?_⟩
    have s3 : Same H2 (L2.upd (L2.upd (L2.upd (L2.upd H2 t1 (.tup [.int 0, .int 1])) t2 (.tup [.int (-1), .int 1])) t3 (.tup [.ref t1, .ref t2])) t4 (.tup [x1, x2, .ref t3])) := (((same_new n1).trans (same_new n2)).trans (same_new n3)).trans (same_new n4)
    have hm : StV K (L2.upd (L2.upd (L2.upd (L2.upd H2 t1 (.tup [.int 0, .int 1])) t2 (.tup [.int (-1), .int 1])) t3 (.tup [.ref t1, .ref t2])) t4 (.tup [x1, x2, .ref t3])) (.ref t3) (lit p_minus) := by
      have c1 : CanP (0, 1) := can_of [(0, 1)] (by decide +kernel) _ List.mem_cons_self
      have c2 : CanP (-1, 1) := can_of [(-1, 1)] (by decide +kernel) _ List.mem_cons_self
      refine ⟨t3, _, rfl, (Tle.new n4).sq (sqT upd_same), .cons ⟨t1, rfl, (Tle.new n4).sq ((Tle.new n3).sq ((Tle.new n2).sq (sqT ?_)))⟩ (.cons ⟨t2, rfl, (Tle.new n4).sq ((Tle.new n3).sq (sqT ?_))⟩ .nil)⟩
      · rw [upd_same, c1.1, c1.2]
      · rw [upd_same, c2.1, c2.2]
    generalize (L2.upd (L2.upd (L2.upd (L2.upd H2 t1 (.tup [.int 0, .int 1])) t2 (.tup [.int (-1), .int 1])) t3 (.tup [.ref t1, .ref t2])) t4 (.tup [x1, x2, .ref t3])) = H3 at s3 hm ⊢
    have sH : Same H H3 := (s1.trans s2).trans s3
    -- the draws
    refine ⟨_, rfl, d, c, l, n, 6, rfl, st.same sH, by omega, by decide, by decide, fun H4 r b4 st4 hr4 => ?_⟩
    refine ⟨_, rfl, d, c, l, n + 1, 2, rfl, st4, by omega, by decide, by decide, fun H5 told L b5 st5 hL SL => ?_⟩
    refine ⟨_, _, rfl, ?_⟩
    have bu5 : But d l H H5 := ((But.same sH).trans b4).trans b5
    have t35 : Tle H3 H5 := ((st.same sH).tle b4).trans (st4.tle b5)
    have k1 : StV K H5 x1 (lit p_two) := h1.mono (((Tle.same s2).trans (Tle.same s3)).trans t35)
    have k2 : StV K H5 x2 (lit p_three) := h2.mono ((Tle.same s3).trans t35)
    have k3 : StV K H5 (.ref t3) (lit p_minus) := hm.mono t35
    -- a row is handed back
    have back : ∀ H6 t vs R, Same H5 H6 → H6 t = none → Paired (StV K H6) vs R → Menu R → Q (.ref t) (L2.upd H6 t (.tup vs)) := fun H6 t vs R s6 nt hv mR =>
      q _ _ R (bu5.trans ((But.same s6).trans (.same (same_new nt)))) (((st5.same s6).same (same_new nt)).mono (by omega)) ⟨t, vs, rfl, sqT upd_same, pMap hv fun _ _ y => y.mono (.new nt)⟩ mR
    have m2 : ∀ {a b : List Rat}, Ltr a → Ltr b → Menu [a, b] := fun {a b} ha hb => ⟨.inl rfl, fun L hL => by
      rcases List.mem_cons.mp hL with rfl | hL
      · exact ha
      · rw [List.mem_singleton.mp hL]; exact hb⟩
    have m3 : ∀ {a b c : List Rat}, Ltr a → Ltr b → Ltr c → Menu [a, b, c] := fun {a b c} ha hb hc => ⟨.inr rfl, fun L hL => by
      rcases List.mem_cons.mp hL with rfl | hL
      · exact ha
      rcases List.mem_cons.mp hL with rfl | hL
      · exact hb
      · rw [List.mem_singleton.mp hL]; exact hc⟩
    have e_two : Ltr (lit p_two) := ltr_of _ (by decide +kernel)
    have e_three : Ltr (lit p_three) := ltr_of _ (by decide +kernel)
    have e_more : Ltr (lit p_more) := ltr_of _ (by decide +kernel)
    have e_sq : Ltr (lit p_sq) := ltr_of _ (by decide +kernel)
    have e_x : Ltr (lit p_x) := ltr_of _ (by decide +kernel)
    have e_minus : Ltr (lit p_minus) := ltr_of _ (by decide +kernel)
    have e_told : Ltr L := SL.ltr (by decide) (by decide)
    -- pick 0
    refine ⟨_, rfl, rfl, _, rfl, ite2 (fun _ => ?_) (fun _ => ?_)⟩
    · exact ⟨_, rfl, _, rfl, two_line, fun t nt => back H5 t _ _ (Same.refl _) nt (.cons k1 (.cons k2 .nil)) (m2 e_two e_three)⟩
    -- pick 1
    refine ⟨_, rfl, rfl, _, rfl, ite2 (fun _ => ?_) (fun _ => ?_)⟩
    · refine ⟨_, rfl, _, rfl, ?_⟩
      refine lit_step (K := K) p_more (can_of _ (by decide +kernel)) (by decide) _ _ _ fun x6 H6 s6 h6 => ?_
      exact ⟨three_line, fun t nt => back H6 t _ _ s6 nt (.cons (k1.mono (Tle.same s6)) (.cons (k3.mono (Tle.same s6)) (.cons h6 .nil))) (m3 e_two e_minus e_more)⟩
    -- pick 2
    refine ⟨_, rfl, rfl, _, rfl, ite2 (fun _ => ?_) (fun _ => ?_)⟩
    · refine lit_step (K := K) p_on (can_of _ (by decide +kernel)) (by decide) _ _ _ fun x6 H6 s6 h6 => ?_
      rw [lit_on] at h6
      refine ⟨_, rfl, _, rfl, _, rfl, x6, told, onL, L, 28, 28, rfl, h6, hL.mono (Tle.same s6), onL_ltr.let.bd, e_told.let.bd, ?_, by decide, ?_, fun H7 x7 s7 h7 => ?_⟩
      · rw [SL.len]; decide
      · rw [SL.len]; decide
      · exact ⟨_, rfl, three_line, fun t nt => back H7 t _ _ (s6.trans s7) nt (.cons (h6.mono (Tle.same s7)) (.cons h7 (.cons (hL.mono (Tle.same (s6.trans s7))) .nil))) (m3 onL_ltr (on_told SL) e_told)⟩
    -- pick 3
    refine ⟨_, rfl, rfl, _, rfl, ite2 (fun _ => ?_) (fun _ => ?_)⟩
    · refine ⟨_, rfl, ?_⟩
      refine lit_step (K := K) p_more (can_of _ (by decide +kernel)) (by decide) _ _ _ fun x6 H6 s6 h6 => ?_
      refine lit_step (K := K) p_sq (can_of _ (by decide +kernel)) (by decide) _ _ _ fun x7 H7 s7 h7 => ?_
      exact ⟨three_line, fun t nt => back H7 t _ _ (s6.trans s7) nt (.cons (k1.mono (Tle.same (s6.trans s7))) (.cons (h6.mono (Tle.same s7)) (.cons h7 .nil))) (m3 e_two e_more e_sq)⟩
    -- pick 4
    refine ⟨_, rfl, rfl, _, rfl, ite2 (fun _ => ?_) (fun _ => ?_)⟩
    · refine ⟨_, rfl, ?_⟩
      refine lit_step (K := K) p_x (can_of _ (by decide +kernel)) (by decide) _ _ _ fun x6 H6 s6 h6 => ?_
      exact ⟨two_line, fun t nt => back H6 t _ _ s6 nt (.cons (hL.mono (Tle.same s6)) (.cons h6 .nil)) (m2 e_told e_x)⟩
    -- else a drawn row
    refine ⟨_, rfl, _, rfl, d, c, l, n + 8, 2, rfl, st5.mono (by omega), by omega, by decide, by decide, fun H6 r6 b6 st6 hr6 => ?_⟩
    refine ⟨_, _, rfl, rfl, 2 + (r6 : Int), rfl, by omega, by omega, fun D nD => ?_⟩
    have ern : (2 + (r6 : Int)).toNat = 2 + r6 := by omega
    rw [ern]
    have stD : ∀ {H' : Hp} {n' : Nat} {o : HO}, StA H' d c l n' → StA (L2.upd H' D o) d c l n' := fun {H' n' o} z => let ⟨a1, a2, a3⟩ := st6.not nD; z.upd a1 a2 a3
    have nDd := st6.not nD
    refine lc_range (lo := 0) (n := 2 + r6) (fun i H' => But d l H6 H' ∧ StA H' d c l (n + 9 + i) ∧ ∃ sz : List Nat, H' D = some (.lst (wdv sz)) ∧ sz.length = i ∧ ∀ z ∈ sz, 1 ≤ z ∧ z ≤ 2)
      ⟨.same (same_new nD), stD (st6.mono (by omega)), [], upd_same, rfl, fun z hz => by cases hz⟩ (fun i H' hi hP => ?_) (fun H' hP => ?_)
    · obtain ⟨bu, st', sz, eD, lz, hz⟩ := hP
      refine ⟨rfl, _, rfl, d, c, l, n + 9 + i, 2, rfl, st', by omega, by decide, by decide, fun H7 r7 b7 st7 hr7 => ?_⟩
      have eD7 : H7 D = some (.lst (wdv sz)) := b7 _ _ nDd.1 nDd.2.2 eD
      refine ⟨_, _, rfl, rfl, _, eD7, ?_, butUpd (bu.trans b7) nD, stD st7, sz ++ [1 + r7], ?_, by rw [List.length_append, List.length_singleton]; omega, fun z hz' => ?_⟩
      · unfold wdv
        rw [List.length_map]
        exact line_of (by omega)
      · rw [upd_same, wdv_snoc]
        show some (HO.lst (wdv sz ++ [V.int (1 + (r7 : Int))])) = _
        rw [Int.natCast_add]; rfl
      · rcases List.mem_append.mp hz' with hz' | hz'
        · exact hz z hz'
        · rw [List.mem_singleton.mp hz']; omega
    · obtain ⟨bu, st', sz, eD, lz, hz⟩ := hP
      refine ⟨d, c, l, D, _, sz, rfl, st', by omega, sqL eD, nDd.1, nDd.2.2, by omega, hz, fun H7 v R b7 st7 hv hR hR2 => ?_⟩
      refine q H7 v R (((bu5.trans b6).trans bu).trans b7) (st7.mono (by omega)) hv ⟨by omega, fun L' hL' => ?_⟩
      rcases hR2 L' hL' with z | z
      · exact z.ltr (by decide) (by decide)
      · exact z.ltr (by decide) (by decide)
end
/-- a polynomial of the program, the list that it tells, its size -/
def PolyV (K : PySem.W.Frag) (H : Hp) (v : V) (m : Nat) (L : List Rat) : Prop := ∃ a l ks b, v = .ref a ∧ SqT K H a [.ref l, .int b] ∧ SqL K H l (ks.map V.int) ∧ 0 < b ∧ b.natAbs ≤ 2 ^ m ∧ S1 ks ≤ 2 ^ m ∧ asQ ks b = L
theorem PolyV.same {K : PySem.W.Frag} {H H' : Hp} (e : Same H H') {v : V} {m : Nat} {L : List Rat} (h : PolyV K H v m L) : PolyV K H' v m L := by
  obtain ⟨a, l, ks, b, h1, h2, h3, h4⟩ := h
  exact ⟨a, l, ks, b, h1, (Tle.same e).sq h2, e.seq h3, h4⟩
theorem PolyV.mono {K : PySem.W.Frag} {H : Hp} {v : V} {m n : Nat} {L : List Rat} (h : PolyV K H v m L) (hm : m ≤ n) : PolyV K H v n L := by
  obtain ⟨a, l, ks, b, h1, h2, h3, h4, h5, h6, h7⟩ := h
  have := Nat.pow_le_pow_right (n := 2) (by decide) hm
  exact ⟨a, l, ks, b, h1, h2, h3, h4, by omega, by omega, h7⟩
/-- one whose list is new -/
def PolyN (p : Addr → Prop) (K : PySem.W.Frag) (H : Hp) (v : V) (m : Nat) (L : List Rat) : Prop := ∃ a l ks b, v = .ref a ∧ SqT K H a [.ref l, .int b] ∧ SqL K H l (ks.map V.int) ∧ 0 < b ∧ b.natAbs ≤ 2 ^ m ∧ S1 ks ≤ 2 ^ m ∧ asQ ks b = L ∧ p l
theorem PolyN.v {p : Addr → Prop} {K : PySem.W.Frag} {H : Hp} {v : V} {m : Nat} {L : List Rat} (h : PolyN p K H v m L) : PolyV K H v m L := by
  obtain ⟨a, l, ks, b, h1, h2, h3, h4, h5, h6, h7, _⟩ := h
  exact ⟨a, l, ks, b, h1, h2, h3, h4, h5, h6, h7⟩
theorem PolyN.imp {p q : Addr → Prop} (f : ∀ l, p l → q l) {K : PySem.W.Frag} {H : Hp} {v : V} {m : Nat} {L : List Rat} (h : PolyN p K H v m L) : PolyN q K H v m L := by
  obtain ⟨a, l, ks, b, h1, h2, h3, h4, h5, h6, h7, h8⟩ := h
  exact ⟨a, l, ks, b, h1, h2, h3, h4, h5, h6, h7, f _ h8⟩
theorem PolyN.same {p : Addr → Prop} {K : PySem.W.Frag} {H H' : Hp} (e : Same H H') {v : V} {m : Nat} {L : List Rat} (h : PolyN p K H v m L) : PolyN p K H' v m L := by
  obtain ⟨a, l, ks, b, h1, h2, h3, h4⟩ := h
  exact ⟨a, l, ks, b, h1, (Tle.same e).sq h2, e.seq h3, h4⟩
theorem PolyN.off {D : Addr} {K : PySem.W.Frag} {H : Hp} {ys : List V} {o : HO} (eD : H D = some (.lst ys)) {v : V} {m : Nat} {L : List Rat} (h : PolyN (· ≠ D) K H v m L) : PolyN (· ≠ D) K (upd H D o) v m L := by
  obtain ⟨a, l, ks, b, h1, h2, h3, h4, h5, h6, h7, h8⟩ := h
  refine ⟨a, l, ks, b, h1, (Tle.lst eD).sq h2, ?_, h4, h5, h6, h7, h8⟩
  rcases h3 with (h3 | ⟨u, h3⟩) | h3
  · exact .inl (.inl (by rw [upd_ne h8]; exact h3))
  · exact .inl (.inr ⟨u, by rw [upd_ne h8]; exact h3⟩)
  · exact .inr h3
theorem lt_pow {x m n : Nat} (h : x ≤ 2 ^ m) (hm : m < n) : x < 2 ^ n := Nat.lt_of_le_of_lt h (Nat.pow_lt_pow_right (by decide) hm)
theorem cutTo (xs : List V) (k : Nat) : cutV xs none (some ((k : Nat) : Int)) = xs.take k := by
  unfold cutV
  rw [HT.sIx_none, HT.sIx_nat xs.length xs.length k, List.drop_zero, Nat.sub_zero]
  by_cases h : k ≤ xs.length
  · rw [Nat.min_eq_left h]
  · rw [Nat.min_eq_right (by omega), List.take_length, List.take_of_length_le (by omega)]
theorem low_step {ks : List Int} {n : Nat} (h : 0 < n) (h0 : ks.getD (n - 1) 0 = 0) : low ks n = low ks (n - 1) := by
  obtain ⟨m, rfl⟩ : ∃ m, n = m + 1 := ⟨n - 1, by omega⟩
  exact if_pos (show ks.getD m 0 = 0 from h0)
theorem low_stop {ks : List Int} {n : Nat} (h0 : n = 0 ∨ ks.getD (n - 1) 0 ≠ 0) : low ks n = n := by
  cases n with
  | zero => rfl
  | succ m =>
    rcases h0 with h0 | h0
    · cases h0
    · show (if ks.getD m 0 = 0 then low ks m else m + 1) = m + 1
      exact if_neg h0
/-- a test in two parts -/
theorem tpart {c : TT} {σ : L2.St} {H : Hp} {Q : Bool → Hp → Prop} (C : Bool → Prop) (h1 : ∀ R : Bool → Hp → Prop, (∀ b, C b → R b H) → c σ H R) (h2 : ∀ b, C b → Q b H) : c σ H Q := h1 Q h2
section
variable {P : Program} {w : World} {K : PySem.W.Frag} {mg : Str → Option Value} {base : Heap}
/-! ### number_of -/
theorem ok_number_of (T : Tx K mg) : FnOk P w K mg base CX0 1 T.number_of.f T.number_of.fd ["above", "below"] (spFrac K) := by
  refine T.number_of.F.ok sc_number_of (fun vs H Q E h => ?_) (fun cdv A outer s H vs Q E hr h => ?_)
  · obtain ⟨a, b, rfl, _⟩ := h
    rfl
  · obtain ⟨a, b, rfl, hb, hs, q⟩ := h
    refine ⟨_, (pss_cons (ps_set (i := 2) sc_number_of.nd rfl (.inl rfl) (pe_callBfun cr_gcd (by rfl) T.m_gcd (pa_cons (pv 0) (pa_cons (pv 1) pa_nil))))
      (pss_cons (ps_if (pt_cmpR op_lt (pv 1) pe_int (nomark _))
        (pss_one (ps_set (i := 2) sc_number_of.nd rfl (.inl rfl) (pe_un un_neg (pv 2))))
        pss_nil)
      (pss_one (ps_ret (pe_tup (pa_cons (pe_op op_fdivW (pv 0) (pv 2)) (pa_cons (pe_op op_fdivW (pv 1) (pv 2)) pa_nil))))))), ?_⟩
    refine ⟨_, rfl, _, rfl, a, b, rfl, ?_⟩
    refine ⟨_, rfl, _, _, rfl, rfl, _, rfl, ite2 (fun h => ?_) (fun h => ?_)⟩
    · exact absurd (of_decide_eq_true h) (by omega)
    · have hd : CDivW a ((Int.gcd a b : Nat) : Int) := wide_div (gcd_pos hb) (b := 9000) (by have := gcd_le (a := a) hb; omega) (by decide) (by decide)
      have hd2 : CDivW b ((Int.gcd a b : Nat) : Int) := wide_div (gcd_pos hb) (b := 9000) (by have := gcd_le (a := a) hb; omega) (by decide) (by decide)
      refine ⟨_, rfl, _, rfl, _, _, rfl, rfl, hd, _, rfl, _, rfl, _, _, rfl, rfl, hd2, two_line, fun p np => ?_⟩
      refine q _ _ (same_new np) ⟨p, rfl, sqT ?_⟩
      rw [upd_same, ← fr_num hb, ← fr_den hb]; rfl
/-! ### reduced -/
def spReduced (K : PySem.W.Frag) : Sp := fun vs H Q _ => ∃ (l : Addr) (ks : List Int) (b : Int) (m : Nat), vs = [.ref l, .int b] ∧ SqL K H l (ks.map V.int) ∧ 0 < b ∧ b.natAbs ≤ 2 ^ m ∧ S1 ks ≤ 2 ^ m ∧ m ≤ 8500 ∧ ks.length ≤ 900 ∧
  ∀ H' v L, Same H H' → PolyN (fun l => H l = none) K H' v m L → Tp L → (∀ x, ev L x = ev (asQ ks b) x) → L.length ≤ ks.length → Q v H'
theorem ok_reduced (T : Tx K mg) : FnOk P w K mg base CX0 1 T.reduced.f T.reduced.fd ["numbers", "below"] (spReduced K) := by
  refine T.reduced.F.ok sc_reduced (fun vs H Q E h => ?_) (fun cdv A outer s H vs Q E hr h => ?_)
  · obtain ⟨l, ks, b, m, rfl, _⟩ := h
    rfl
  · obtain ⟨l, ks, b, m, rfl, hS, hb, hb2, hk2, hm, hlen, q⟩ := h
    refine ⟨_, (pss_cons (ps_set (i := 2) sc_reduced.nd rfl (.inl rfl) (pe_callB call_len_seq (by rfl) T.m_len (by decide +kernel) (pa_cons (pv 0) pa_nil)))
      (pss_cons (ps_while PassesOwn.never (PW.pt (pw_and (pt_cmpR op_gt (pv 2) pe_int (nomark _)) (pw_and1 (pt_cmpR op_eq (pe_ix ix_list (pv 0) (pe_op op_sub (pv 2) pe_int) (fun _ _ => rfl)) pe_int (nomark _)))))
        (pss_one (ps_set (i := 2) sc_reduced.nd rfl (.inl rfl) (pe_op op_sub (pv 2) pe_int))))
      (pss_cons (ps_set (i := 3) sc_reduced.nd rfl (.inr rfl) (pe_callBfun cr_gcd (by rfl) T.m_gcd (pa_cons (pv 1) (pa_cons pe_int pa_nil))))
      (pss_cons (ps_for PassesOwn.never rfl (pi_list (pe_slice sl_list (pv 0) po_none (po_some (pv 2)))) (pg_name (i := 4) sc_reduced.nd rfl (.inl rfl))
        (pss_one (ps_set (i := 3) sc_reduced.nd rfl (.inr rfl) (pe_callBfun cr_gcd (by rfl) T.m_gcd (pa_cons (pv 3) (pa_cons (pv 4) pa_nil))))))
      (pss_cons (ps_if (pt_cmpR op_lt (pv 1) pe_int (nomark _))
        (pss_one (ps_set (i := 3) sc_reduced.nd rfl (.inr rfl) (pe_un un_neg (pv 3))))
        pss_nil)
      (pss_one (ps_ret (pe_tup (pa_cons (pe_lc (own := [("number", 4)]) (g := gName 4) rfl sc_reduced.nd (pi_list (pe_slice sl_list (pv 0) po_none (po_some (pv 2)))) (blkOk_by (N := N_reduced) (own := [("number", 4)]) (sc := defScope s_reduced) (by decide +kernel)) (fun _ _ _ _ _ => pg_name (i := 4) sc_reduced.nd rfl (.inl rfl)) (fun _ _ _ _ _ => pts_nil) (fun _ _ _ _ _ => (pe_op (r := rI CDivW fun i j => .int (i / j)) op_fdivW (pv 4) (pv 3)))) (pa_cons (pe_op op_fdivW (pv 1) (pv 3)) pa_nil)))))))))), ?_⟩
    have hlm : (ks.map V.int).length = ks.length := List.length_map ..
    obtain ⟨g0, gb, bg0, bgb, s1k, tp, evk, easq, lenk⟩ := red_ok (ks := ks) hb
    have hg2 : (gcds b (ks.take (low ks ks.length))).natAbs < 2 ^ 9000 := lt_pow (m := m) (by omega) (by omega)
    refine ⟨_, rfl, l, _, rfl, .inl hS, ?_⟩
    refine while_by (fun σ H' => ∃ (n : Nat), σ = [some (.ref l), some (.int b), some (.int (n : Int)), none, none] ∧ H' = H ∧ n ≤ ks.length ∧ low ks n = low ks ks.length)
      (fun σ _ => match σ with | [_, _, some (.int n), _, _] => n.toNat | _ => 0) ⟨ks.length, by rw [hlm]; rfl, rfl, Nat.le_refl _, rfl⟩ (fun σ H' hP => ?_) (fun σ H' Q Q' hm hc => ?_)
    · obtain ⟨n, rfl, rfl, hn, hlow⟩ := hP
      refine tpart (c := tAnd _ _) (fun b => (b = true ∧ 0 < n ∧ ks.getD (n - 1) 0 = 0) ∨ (b = false ∧ low ks n = n)) (fun R key => ?_) (fun c hb' => ?_)
      · refine ⟨_, rfl, _, _, rfl, rfl, _, rfl, ite2 (fun h => ?_) (fun h => ?_)⟩
        · have hn0 : 0 < n := by have := of_decide_eq_true h; omega
          have hix : (n : Int) - 1 = ((n - 1 : Nat) : Int) := by omega
          have hn1 : n - 1 < ks.length := by omega
          have gl : (ks.map V.int)[n - 1]? = some (.int (ks.getD (n - 1) 0)) := by
            rw [List.getElem?_map, List.getElem?_eq_getElem hn1, List.getD, List.getElem?_eq_getElem hn1]; rfl
          refine ⟨_, rfl, _, rfl, _, _, rfl, rfl, l, _, _, _, rfl, rfl, hS, (by rw [hix]; exact atI_nat gl), rfl, _, rfl, key _ ?_⟩
          by_cases h0 : ks.getD (n - 1) 0 = 0
          · exact .inl ⟨decide_eq_true (congrArg V.int h0), hn0, h0⟩
          · exact .inr ⟨decide_eq_false fun z => h0 (V.int.inj z), low_stop (.inr h0)⟩
        · exact key _ (.inr ⟨rfl, low_stop (.inl (by have : ¬ 0 < (n : Int) := fun z => h (decide_eq_true z); omega))⟩)
      rcases hb' with ⟨rfl, hn0, e0⟩ | ⟨rfl, hln⟩
      · have hix : (n : Int) - 1 = ((n - 1 : Nat) : Int) := by omega
        refine iteT ⟨_, rfl, _, _, rfl, rfl, ⟨n - 1, ?_, rfl, by omega, ?_⟩, ?_⟩
        · show [some (V.ref l), some (V.int b), some (V.int ((n : Int) - 1)), none, none] = _
          rw [hix]
        · rw [← low_step hn0 e0]; exact hlow
        · show ((n : Int) - 1).toNat < (n : Int).toNat
          omega
      · refine iteF ?_
        have en : n = low ks ks.length := by rw [← hlow, hln]
        refine ⟨_, rfl, b, 0, rfl, ?_⟩
        have eg0 : ((Nat.gcd b.natAbs (0 : Int).natAbs : Nat) : Int) = b := by
          show ((Nat.gcd b.natAbs 0 : Nat) : Int) = b
          rw [Nat.gcd_zero_right]; omega
        rw [eg0]
        have ecut : cutV (ks.map V.int) none (some ((n : Nat) : Int)) = ((ks.take n).map V.int) := by rw [cutTo, List.map_take]
        refine ⟨_, rfl, _, rfl, (n : Int), rfl, l, _, rfl, hS, fun l2 nl2 => ?_⟩
        rw [ecut]
        refine ⟨l2, rfl, ⟨_, sqL upd_same⟩, ?_⟩
        refine for_list (xs := (ks.take n).map V.int) (fun i σ H2 => ∃ x4, σ = [some (.ref l), some (.int b), some (.int (n : Int)), some (.int (gcds b ((ks.take n).take i))), x4] ∧ H2 = L2.upd H' l2 (.lst ((ks.take n).map V.int)))
          ⟨none, rfl, rfl⟩ (fun i σ H2 hi hP => ?_) (fun i x σ H2 hx hP => ?_) (fun σ H2 hP => ?_)
        · obtain ⟨x4, rfl, rfl⟩ := hP
          exact sqL upd_same
        · obtain ⟨x4, rfl, rfl⟩ := hP
          have hil : i < (ks.take n).length := by
            have := (List.getElem?_eq_some_iff.mp hx).1
            rw [List.length_map] at this
            exact this
          have ex : x = .int (ks.take n)[i] := by
            rw [List.getElem?_map, List.getElem?_eq_getElem hil] at hx
            exact (Option.some.inj hx).symm
          subst ex
          refine ⟨_, rfl, _, rfl, _, _, rfl, ?_⟩
          refine ⟨some (.int (ks.take n)[i]), ?_, rfl⟩
          rw [show (ks.take n).take (i + 1) = (ks.take n).take i ++ [(ks.take n)[i]] by rw [List.take_add_one, List.getElem?_eq_getElem hil]; rfl, gcds_snoc]
          rfl
        · obtain ⟨x4, rfl, rfl⟩ := hP
          rw [List.length_map, List.take_length, en]
          refine ⟨_, rfl, _, _, rfl, rfl, _, rfl, ite2 (fun h => ?_) (fun h => ?_)⟩
          · exact absurd (of_decide_eq_true h) (by omega)
          have hS2 : SqL K (L2.upd H' l2 (.lst ((ks.take (low ks ks.length)).map V.int))) l (ks.map V.int) := (same_new nl2).seq hS
          rw [en] at ecut
          refine ⟨_, rfl, _, rfl, ((low ks ks.length : Nat) : Int), rfl, l, _, rfl, hS2, fun l3 nl3 => ?_⟩
          rw [ecut]
          refine ⟨l3, rfl, ⟨_, sqL upd_same⟩, fun D nD => ?_⟩
          have s3 : Same H' (L2.upd (L2.upd H' l2 (.lst ((ks.take (low ks ks.length)).map V.int))) l3 (.lst ((ks.take (low ks ks.length)).map V.int))) := (same_new nl2).trans (same_new nl3)
          refine lc_list (xs := (ks.take (low ks ks.length)).map V.int) (fun i H4 => Same (L2.upd (L2.upd H' l2 (.lst ((ks.take (low ks ks.length)).map V.int))) l3 (.lst ((ks.take (low ks ks.length)).map V.int))) H4 ∧ H4 D = some (.lst ((((ks.take (low ks ks.length)).take i).map (· / gcds b (ks.take (low ks ks.length)))).map V.int)))
            ⟨same_new nD, upd_same⟩ (fun i H4 hi hP => sqL (hP.1 _ _ upd_same)) (fun i x H4 hx hP => ?_) (fun H4 hP => ?_)
          · obtain ⟨sm, eD⟩ := hP
            have hil : i < (ks.take (low ks ks.length)).length := by
              have := (List.getElem?_eq_some_iff.mp hx).1
              rw [List.length_map] at this
              exact this
            have ex : x = .int (ks.take (low ks ks.length))[i] := by
              rw [List.getElem?_map, List.getElem?_eq_getElem hil] at hx
              exact (Option.some.inj hx).symm
            subst ex
            have hll : (ks.take (low ks ks.length)).length ≤ ks.length := by rw [List.length_take]; omega
            refine ⟨rfl, _, rfl, _, rfl, _, _, rfl, rfl, wide_div g0 hg2 (by decide) (by decide), _, eD, ?_, sameUpd sm nD, ?_⟩
            · rw [List.length_map, List.length_map, List.length_take]
              exact line_of (by omega)
            · rw [upd_same, List.take_add_one, List.getElem?_eq_getElem hil]
              simp only [Option.toList_some, List.map_append, List.map_cons, List.map_nil]
          · obtain ⟨sm, eD⟩ := hP
            rw [List.length_map, List.take_length] at eD
            refine ⟨_, rfl, _, rfl, _, _, rfl, rfl, wide_div g0 hg2 (by decide) (by decide), two_line, fun t nt => ?_⟩
            refine q _ _ _ ((s3.trans sm).trans (same_new nt)) ⟨t, D, _, _, rfl, sqT upd_same, sqL ((same_new nt) _ _ eD), bg0, ?_, Nat.le_trans s1k hk2, rfl, Same.free s3 nD⟩ tp evk ?_
            · show (b / gcds b (ks.take (low ks ks.length))).natAbs ≤ 2 ^ m
              omega
            · unfold asQ
              rw [List.length_map]
              exact lenk
    · obtain ⟨v, e, i, j, e3, e4, k, e5, r⟩ := hc
      refine ⟨v, e, i, j, e3, e4, k, e5, ?_⟩
      cases k with
      | true =>
        refine iteT ?_
        obtain ⟨v2, f, v3, f1, i2, i3, f2, f3, p, xs, i4, v4, g1, g2, g3, g4, g5, b2, g6, r⟩ := (if_pos rfl ▸ r : _)
        exact ⟨v2, f, v3, f1, i2, i3, f2, f3, p, xs, i4, v4, g1, g2, g3, g4, g5, b2, g6, hm _ _ r⟩
      | false =>
        refine iteF ?_
        exact hm _ _ (by simpa using r)
end
def onOne (B : Nat) (q : Rat) : Int := q.num * ((B / q.den : Nat) : Int)
theorem onOne_asQ {B : Nat} (hB : 0 < B) : ∀ L : List Rat, (∀ q ∈ L, q.den ∣ B) → asQ (L.map (onOne B)) (B : Int) = L
  | [], _ => rfl
  | q :: L, h => by
    have ih := onOne_asQ hB L fun x hx => h x (List.mem_cons_of_mem _ hx)
    unfold asQ at ih ⊢
    rw [List.map_cons, List.map_cons, ih]
    congr 1
    obtain ⟨c, hc⟩ := h q List.mem_cons_self
    have hd := q.den_pos
    have e1 : B / q.den = c := by rw [hc]; exact Nat.mul_div_cancel_left c hd
    have hc0 : 0 < c := by
      rcases Nat.eq_zero_or_pos c with z | z
      · rw [z, Nat.mul_zero] at hc; omega
      · exact z
    unfold onOne
    rw [e1, hc, Int.natCast_mul, Rat.divInt_mul_right (by omega), Rat.num_divInt_den]
theorem onOne_S1 {B : Nat} (hB : B ≤ 4096) : ∀ L : List Rat, (∀ q ∈ L, q.num.natAbs ≤ 64) → S1 (L.map (onOne B)) ≤ L.length * 262144
  | [], _ => Nat.zero_le _
  | q :: L, h => by
    have ih := onOne_S1 hB L fun x hx => h x (List.mem_cons_of_mem _ hx)
    have h1 := h q List.mem_cons_self
    have h2 : B / q.den ≤ B := Nat.div_le_self _ _
    have h3 : (onOne B q).natAbs ≤ 64 * 4096 := by
      unfold onOne
      rw [Int.natAbs_mul, Int.natAbs_natCast]
      exact Nat.mul_le_mul h1 (by omega)
    simp only [List.map_cons, S1, List.length_cons, Nat.succ_mul]; omega
section
variable {P : Program} {w : World} {K : PySem.W.Frag} {mg : Str → Option Value} {base : Heap}
/-! ### as_poly -/
def spAsPoly (K : PySem.W.Frag) : Sp := fun vs H Q _ => ∃ u L, vs = [u] ∧ StV K H u L ∧ Ltr L ∧ ∀ H' v, Same H H' → PolyN (fun l => H l = none) K H' v 20 L → Q v H'
theorem ok_as_poly (T : Tx K mg) : FnOk P w K mg base CX0 2 T.as_poly.f T.as_poly.fd ["step"] (spAsPoly K) := by
  refine T.as_poly.F.ok sc_as_poly (fun vs H Q E h => ?_) (fun cdv A outer s H vs Q E hr h => ?_)
  · obtain ⟨u, L, rfl, _⟩ := h
    rfl
  · obtain ⟨u, L, rfl, hu, hL, q⟩ := h
    refine ⟨_, (pss_cons (ps_set (i := 1) sc_as_poly.nd rfl (.inr rfl) pe_int)
      (pss_cons (ps_for PassesOwn.never rfl (pi_tup (pv 0)) (pg_name (i := 2) sc_as_poly.nd rfl (.inl rfl))
        (pss_one (ps_set (i := 1) sc_as_poly.nd rfl (.inr rfl) (pe_op op_fdivW (pe_op op_mulW (pv 1) (pe_ix ix_tup (pv 2) pe_int (fun _ _ => rfl))) (pe_callBfun cr_gcd (by rfl) T.m_gcd (pa_cons (pv 1) (pa_cons (pe_ix ix_tup (pv 2) pe_int (fun _ _ => rfl)) pa_nil)))))))
      (pss_one (ps_ret (pe_call (ok_reduced T) hr (by rfl) T.reduced.g T.reduced.F.kp T.reduced.b .nil pass0 (pa_cons (pe_lc (own := [("number", 2)]) (g := gName 2) rfl sc_as_poly.nd (pi_tup (pv 0)) (blkOk_by (N := N_as_poly) (own := [("number", 2)]) (sc := defScope s_as_poly) (by decide +kernel)) (fun _ _ _ _ _ => pg_name (i := 2) sc_as_poly.nd rfl (.inl rfl)) (fun _ _ _ _ _ => pts_nil) (fun _ _ _ _ _ => (pe_op (r := rI CMulW fun i j => .int (i * j)) op_mulW (pe_ix (r := rIxT K) ix_tup (pv 2) pe_int (fun _ _ => rfl)) (pe_op (r := rI CDivW fun i j => .int (i / j)) op_fdivW (pv 1) (pe_ix (r := rIxT K) ix_tup (pv 2) pe_int (fun _ _ => rfl)))))) (pa_cons (pv 1) pa_nil))))))), ?_⟩
    obtain ⟨au, us, rfl, hSu, pu⟩ := id hu
    have lu := pLen pu
    have hl4 := hL.len
    refine ⟨_, rfl, au, rfl, ⟨_, hSu⟩, ?_⟩
    refine for_tup (xs := us) (fun i σ H' => ∃ (B : Nat) (x2 : Option V), σ = [some (.ref au), some (.int (B : Int)), x2] ∧ H' = H ∧ 0 < B ∧ B ≤ 8 ^ i ∧ ∀ z ∈ L.take i, z.den ∣ B)
      ⟨1, none, rfl, rfl, by decide, by decide, fun z hz => by cases hz⟩ (fun i σ H' hi hP => ?_) (fun i x σ H' hx hP => ?_) (fun σ H' hP => ?_)
    · obtain ⟨B, x2, rfl, rfl, _⟩ := hP
      exact hSu
    · obtain ⟨B, x2, rfl, rfl, hB, hB8, hdv⟩ := hP
      have hil : i < us.length := (List.getElem?_eq_some_iff.mp hx).1
      obtain ⟨z, hz, a, rfl, ha⟩ := pAt pu hx
      have zs := hL.sm z (List.mem_of_getElem? hz)
      have zd := z.den_pos
      have p8 : (8 : Nat) ^ i ≤ 8 ^ 4 := Nat.pow_le_pow_right (by decide) (by omega)
      have hB2 : B ≤ 4096 := by omega
      have bb : ((B : Nat) : Int).natAbs < 2 ^ 13 := by rw [Int.natAbs_natCast]; omega
      have bd : ((z.den : Nat) : Int).natAbs < 2 ^ 4 := by rw [Int.natAbs_natCast]; omega
      have g1 : 0 < Nat.gcd B z.den := Nat.gcd_pos_of_pos_left _ hB
      have g2 : Nat.gcd B z.den ≤ z.den := Nat.gcd_le_right _ zd
      refine ⟨_, rfl, _, rfl, a, _, _, _, rfl, rfl, ha, atI_nat (j := 1) rfl, _, _, rfl, rfl, wide_mul bb bd (by decide) (by decide) (by decide), _, rfl, _, rfl, a, _, _, _, rfl, rfl, ha, atI_nat (j := 1) rfl, _, _, rfl, _, _, rfl, rfl, ?_, ?_⟩
      · show CDivW _ ((Nat.gcd ((B : Nat) : Int).natAbs ((z.den : Nat) : Int).natAbs : Nat) : Int)
        rw [Int.natAbs_natCast, Int.natAbs_natCast]
        exact wide_div (b := 5) (by omega) (by rw [Int.natAbs_natCast]; omega) (by decide) (by decide)
      · refine ⟨Nat.lcm B z.den, some (.ref a), ?_, rfl, Nat.lcm_pos hB zd, ?_, fun y hy => ?_⟩
        · show [some (V.ref au), some (V.int (((B : Int) * (z.den : Int)) / ((Nat.gcd ((B : Nat) : Int).natAbs ((z.den : Nat) : Int).natAbs : Nat) : Int))), some (V.ref a)] = _
          rw [Int.natAbs_natCast, Int.natAbs_natCast, ← Int.natCast_mul, ← Int.natCast_ediv]
          rfl
        · rw [Nat.pow_succ]
          have : Nat.lcm B z.den ≤ B * z.den := Nat.div_le_self _ _
          have : B * z.den ≤ 8 ^ i * 8 := Nat.mul_le_mul hB8 zs.2
          omega
        · rw [List.take_add_one, hz] at hy
          rcases List.mem_append.mp hy with hy | hy
          · exact Nat.dvd_trans (hdv y hy) (Nat.dvd_lcm_left _ _)
          · have : y = z := by simpa using hy
            rw [this]; exact Nat.dvd_lcm_right _ _
    · obtain ⟨B, x2, rfl, rfl, hB, hB8, hdv⟩ := hP
      rw [List.take_of_length_le (by omega)] at hdv
      have p8 : (8 : Nat) ^ us.length ≤ 8 ^ 4 := Nat.pow_le_pow_right (by decide) (by omega)
      have hB2 : B ≤ 4096 := by omega
      refine ⟨_, rfl, au, rfl, ⟨_, hSu⟩, fun D nD => ?_⟩
      refine lc_tup (xs := us) (fun i H2 => Same H' H2 ∧ H2 D = some (.lst (((L.take i).map (onOne B)).map V.int))) ⟨same_new nD, upd_same⟩ (fun i H2 hi hP => (Tle.same hP.1).sq hSu) (fun i x H2 hx hP => ?_) (fun H2 hP => ?_)
      · obtain ⟨sm, eD⟩ := hP
        have hil : i < us.length := (List.getElem?_eq_some_iff.mp hx).1
        obtain ⟨z, hz, a, rfl, ha⟩ := pAt pu hx
        have hzm := List.mem_of_getElem? hz
        have zs := hL.sm z hzm
        have zd := z.den_pos
        have ha2 := (Tle.same sm).sq ha
        have bd : ((z.den : Nat) : Int).natAbs < 2 ^ 4 := by rw [Int.natAbs_natCast]; omega
        have ediv : (B : Int) / (z.den : Int) = ((B / z.den : Nat) : Int) := (Int.natCast_ediv _ _).symm
        have hle : B / z.den ≤ B := Nat.div_le_self _ _
        refine ⟨rfl, _, rfl, a, _, _, _, rfl, rfl, ha2, atI_nat (j := 0) rfl, _, rfl, _, rfl, a, _, _, _, rfl, rfl, ha2, atI_nat (j := 1) rfl, _, _, rfl, rfl, wide_div (b := 4) (by omega) bd (by decide) (by decide), _, _, rfl, rfl, ?_, _, eD, ?_, sameUpd sm nD, ?_⟩
        · show CMulW z.num ((B : Int) / (z.den : Int))
          rw [ediv]
          exact wide_mul (a := 7) (b := 13) (by omega) (by rw [Int.natAbs_natCast]; omega) (by decide) (by decide) (by decide)
        · rw [List.length_map, List.length_map, List.length_take]
          exact line_of (by omega)
        · rw [upd_same, List.take_add_one, hz, List.map_append, List.map_append]
          show some (HO.lst (_ ++ [V.int (z.num * ((B : Int) / (z.den : Int)))])) = _
          rw [ediv]; rfl
      · obtain ⟨sm, eD⟩ := hP
        rw [List.take_of_length_le (by omega)] at eD
        have easq := onOne_asQ hB L hdv
        have hs1 := onOne_S1 hB2 L fun z hz => (hL.sm z hz).1
        have hsL : L.length * 262144 ≤ 4 * 262144 := Nat.mul_le_mul_right _ hl4
        refine ⟨_, rfl, D, L.map (onOne B), (B : Int), 20, rfl, sqL eD, by omega, by rw [Int.natAbs_natCast]; omega, by omega, by decide, by rw [List.length_map]; omega, fun H3 v L3 s3 hv tp hev hlen => ?_⟩
        have e3 : L3 = L := eq_of_ev tp hL.good.2 fun x => by rw [hev x, easq]
        rw [e3] at hv
        exact q H3 v (sm.trans s3) (hv.imp fun l z => Same.free sm z)
/-! ### as_step -/
def spAsStep (K : PySem.W.Frag) : Sp := fun vs H Q _ => ∃ u m L, vs = [u] ∧ PolyV K H u m L ∧ m ≤ 8500 ∧ L.length ≤ 900 ∧ ∀ H' v, Same H H' → StV K H' v L → Q v H'
theorem ok_as_step (T : Tx K mg) : FnOk P w K mg base CX0 2 T.as_step.f T.as_step.fd ["poly"] (spAsStep K) := by
  refine T.as_step.F.ok sc_as_step (fun vs H Q E h => ?_) (fun cdv A outer s H vs Q E hr h => ?_)
  · obtain ⟨u, m, L, rfl, _⟩ := h
    rfl
  · obtain ⟨u, m, L, rfl, ⟨a, l, ks, b, rfl, ha, hl, hb, hb2, hk2, hL⟩, hm, hlen, q⟩ := h
    refine ⟨_, (pss_one (ps_ret (pe_callTy call_tuple_of (by rfl) T.m_tuple (by decide +kernel) (pa_cons (pe_lc (own := [("number", 1)]) (g := gName 1) rfl sc_as_step.nd (pi_list (pe_ix ix_tup (pv 0) pe_int (fun _ _ => rfl))) (blkOk_by (N := N_as_step) (own := [("number", 1)]) (sc := defScope s_as_step) (by decide +kernel)) (fun _ _ _ _ _ => pg_name (i := 1) sc_as_step.nd rfl (.inl rfl)) (fun _ _ _ _ _ => pts_nil) (fun _ _ _ _ _ => (pe_call (ok_number_of T) hr (by rfl) T.number_of.g T.number_of.F.kp T.number_of.b .nil pass0 (pa_cons (pv 1) (pa_cons (pe_ix (r := rIxT K) ix_tup (pv 0) pe_int (fun _ _ => rfl)) pa_nil))))) pa_nil)))), ?_⟩
    have hlk : ks.length = L.length := by rw [← hL]; unfold asQ; rw [List.length_map]
    refine ⟨_, rfl, a, _, _, _, rfl, rfl, ha, atI_nat (j := 0) rfl, l, rfl, ⟨_, hl⟩, fun D nD => ?_⟩
    refine lc_list (xs := ks.map V.int) (fun i H' => Same H H' ∧ ∃ zs, H' D = some (.lst zs) ∧ Paired (FrV K H') zs (asQ (ks.take i) b)) ⟨same_new nD, [], upd_same, .nil⟩ (fun i H' hi hP => hP.1.seq hl) (fun i x H' hx hP => ?_) (fun H' hP => ?_)
    · obtain ⟨sm, zs, eD, pz⟩ := hP
      have lz := pLen pz
      unfold asQ at lz
      rw [List.length_map, List.length_take] at lz
      have hil : i < ks.length := by
        have := (List.getElem?_eq_some_iff.mp hx).1
        rw [List.length_map] at this
        exact this
      have ex : x = .int ks[i] := by
        rw [List.getElem?_map, List.getElem?_eq_getElem hil] at hx
        exact (Option.some.inj hx).symm
      subst ex
      refine ⟨rfl, _, rfl, _, rfl, a, _, _, _, rfl, rfl, (Tle.same sm).sq ha, atI_nat (j := 1) rfl, ks[i], b, rfl, hb, lt_pow hb2 (by omega), fun H2 v s2 hv => ?_⟩
      have eD2 := s2 _ _ eD
      refine ⟨zs, eD2, line_of (by omega), sameUpd (sm.trans s2) nD, _, upd_same, ?_⟩
      unfold asQ
      rw [List.take_add_one, List.getElem?_eq_getElem hil, List.map_append]
      exact pSnoc (pMap pz fun _ _ y => y.mono ((Tle.same s2).trans (.lst eD2))) (hv.mono (.lst eD2))
    · obtain ⟨sm, zs, eD, pz⟩ := hP
      rw [List.length_map, List.take_length, hL] at pz
      refine ⟨D, zs, rfl, .inl ⟨sqL eD, fun t nt => ?_⟩⟩
      exact q _ _ (sm.trans (same_new nt)) ⟨t, zs, rfl, sqT upd_same, pMap pz fun _ _ y => y.mono (.new nt)⟩
end
theorem mem_at {ks : List Int} {i : Nat} (h : i < ks.length) : (ks.map V.int)[i]? = some (.int (ks.getD i 0)) := by
  rw [List.getElem?_map, List.getD, List.getElem?_eq_getElem h]; rfl
theorem at_mem {ks : List Int} {i : Nat} {x : V} (h : (ks.map V.int)[i]? = some x) : i < ks.length ∧ x = .int (ks.getD i 0) := by
  have hl : i < ks.length := by
    have := (List.getElem?_eq_some_iff.mp h).1
    rw [List.length_map] at this
    exact this
  rw [mem_at hl] at h
  exact ⟨hl, (Option.some.inj h).symm⟩
theorem getD_S1 {ks : List Int} {m : Nat} (h : S1 ks ≤ 2 ^ m) (i : Nat) : (ks.getD i 0).natAbs < 2 ^ (m + 1) := by
  have h2 : (ks.getD i 0).natAbs ≤ S1 ks := by
    by_cases hl : i < ks.length
    · rw [List.getD, List.getElem?_eq_getElem hl]
      exact S1_mem (List.getElem_mem hl)
    · rw [List.getD, List.getElem?_eq_none (by omega)]
      exact Nat.zero_le _
  exact lt_pow (Nat.le_trans h2 h) (by omega)
theorem eqv_ne {k : Int} {r : List Int} : PyData.eqv (.list ((k :: r).map PyData.int)) (.list []) = false := by simp [PyData.eqv, PyData.eqvAll]
section
variable {P : Program} {w : World} {K : PySem.W.Frag} {mg : Str → Option Value} {base : Heap}
def spTimes (K : PySem.W.Frag) : Sp := fun vs H Q _ => ∃ (l1 l2 : Addr) (p q : List Int) (m1 m2 : Nat), vs = [.ref l1, .ref l2] ∧ SqL K H l1 (p.map V.int) ∧ SqL K H l2 (q.map V.int) ∧ p ≠ [] ∧ q ≠ [] ∧ S1 p ≤ 2 ^ m1 ∧ S1 q ≤ 2 ^ m2 ∧ m1 ≤ 9000 ∧ m2 ≤ 9000 ∧ p.length + q.length ≤ 900 ∧
  ∀ H' r, Same H H' → H r = none → H' r = some (.lst ((convZ p q).map V.int)) → Q (.ref r) H'
theorem ok_times_so (T : Tx K mg) : FnOk P w K mg base CX0 1 T.times_so.f T.times_so.fd ["one", "other"] (spTimes K) := by
  refine T.times_so.F.ok sc_times_so (fun vs H Q E h => ?_) (fun cdv A outer s H vs Q E hr h => ?_)
  · obtain ⟨l1, l2, p, q, m1, m2, rfl, _⟩ := h
    rfl
  · obtain ⟨l1, l2, p, q, m1, m2, rfl, h1, h2, np, nq, b1, b2, hm1, hm2, hlen, k⟩ := h
    refine ⟨_, (pss_cons (ps_if (PW.pt (pw_or (pt_cmpR (op_eqD hr.units) (pv 0) (pe_lst pa_nil) (nomark _)) (pw_or1 (pt_cmpR (op_eqD hr.units) (pv 1) (pe_lst pa_nil) (nomark _)))))
        (pss_one (ps_ret (pe_lst pa_nil)))
        pss_nil)
      (pss_cons (ps_set (i := 2) sc_times_so.nd rfl (.inl rfl) (pe_op op_rep (pe_lst (pa_cons pe_int pa_nil)) (pe_op op_sub (pe_op op_add (pe_callB call_len_seq (by rfl) T.m_len (by decide +kernel) (pa_cons (pv 0) pa_nil)) (pe_callB call_len_seq (by rfl) T.m_len (by decide +kernel) (pa_cons (pv 1) pa_nil))) pe_int)))
      (pss_cons (ps_for PassesOwn.never rfl (pi_enum (by rfl) T.m_enumerate (pa_cons (pv 0) pa_nil)) (pg_tup (by rfl) (pgs_cons (pg_name (i := 3) sc_times_so.nd rfl (.inl rfl)) (pgs_cons (pg_name (i := 4) sc_times_so.nd rfl (.inl rfl)) pgs_nil)))
        (pss_one (ps_if (pt_cmpR op_ne (pv 4) pe_int (nomark _))
          (pss_one (ps_for PassesOwn.never rfl (pi_enum (by rfl) T.m_enumerate (pa_cons (pv 1) pa_nil)) (pg_tup (by rfl) (pgs_cons (pg_name (i := 5) sc_times_so.nd rfl (.inl rfl)) (pgs_cons (pg_name (i := 6) sc_times_so.nd rfl (.inl rfl)) pgs_nil)))
            (pss_one (ps_asg (pe_op op_add (pe_ix ix_list (pv 2) (pe_op op_add (pv 3) (pv 5)) (fun _ _ => rfl)) (pe_op op_mulW (pv 4) (pv 6))) (pg_sub (pv 2) (pe_op op_add (pv 3) (pv 5)) set_list)))))
          pss_nil)))
      (pss_one (ps_ret (pv 2)))))), ?_⟩
    have lp : 0 < p.length := List.length_pos_iff.mpr np
    have lq : 0 < q.length := List.length_pos_iff.mpr nq
    have l1m : (p.map V.int).length = p.length := List.length_map ..
    have l2m : (q.map V.int).length = q.length := List.length_map ..
    obtain ⟨p0, pr, ep⟩ : ∃ a b, p = a :: b := ⟨p.head np, p.tail, (List.cons_head_tail np).symm⟩
    obtain ⟨q0, qr, eq'⟩ : ∃ a b, q = a :: b := ⟨q.head nq, q.tail, (List.cons_head_tail nq).symm⟩
    refine ⟨_, rfl, Nat.zero_le _, fun e1 ne1 => ⟨_, _, .lst ((same_new ne1).seq h1) (dpAll_ints p), .lst (sqL upd_same) .nil, shaped_ints p, shaped_ints [], _, rfl, ?_⟩⟩
    rw [ep, eqv_ne]
    have s1 : Same H (L2.upd H e1 (.lst [])) := same_new ne1
    refine iteF ⟨_, rfl, Nat.zero_le _, fun e2 ne2 => ⟨_, _, .lst ((same_new ne2).seq (s1.seq h2)) (dpAll_ints q), .lst (sqL upd_same) .nil, shaped_ints q, shaped_ints [], _, rfl, ?_⟩⟩
    rw [eq', eqv_ne]
    have s2 := s1.trans (same_new (o := .lst []) ne2)
    refine iteF ⟨one_line, fun z nz => ?_⟩
    have s3 := s2.trans (same_new (o := .lst [.int 0]) nz)
    refine ⟨_, rfl, l1, _, rfl, .inl (s3.seq h1), _, rfl, l2, _, rfl, .inl (s3.seq h2), _, _, rfl, rfl, _, _, rfl, rfl, z, _, _, rfl, rfl, upd_same, by rw [l1m, l2m]; omega, by rw [l1m, l2m]; omega, ?_, fun o no => ?_⟩
    · rw [l1m, l2m]
      have : (1 : Nat) * (((p.length : Int) + (q.length : Int) - 1).toNat) ≤ 1000 := by omega
      exact Nat.le_of_lt (line_of this)
    have no0 : H o = none := Same.free s3 no
    have s4 := s3.trans (same_new (o := .lst (List.replicate (((p.map V.int).length : Int) + ((q.map V.int).length : Int) - 1).toNat [V.int 0]).flatten) no)
    have en : (((p.map V.int).length : Int) + ((q.map V.int).length : Int) - 1).toNat = p.length + q.length - 1 := by rw [l1m, l2m]; omega
    refine ⟨_, rfl, l1, _, rfl, s4.seq h1, ?_⟩
    refine for_enumL (xs := p.map V.int) (fun i σ H' => ∃ y3 y4 y5 y6, σ = [some (.ref l1), some (.ref l2), some (.ref o), y3, y4, y5, y6] ∧ Same H H' ∧ H' o = some (.lst ((pst p q i 0).map V.int)))
      ⟨none, none, none, none, rfl, s4, ?_⟩ (fun i σ H' hi hP => ?_) (fun i x T0 σ H' hx hP nT => ?_) (fun σ H' hP => ?_)
    · rw [upd_same, flat_rep, en, pst_startZ, List.map_replicate]
    · obtain ⟨y3, y4, y5, y6, rfl, sm, eo⟩ := hP
      exact sm.seq h1
    · obtain ⟨y3, y4, y5, y6, rfl, sm, eo⟩ := hP
      obtain ⟨hil, rfl⟩ := at_mem hx
      have nTo : o ≠ T0 := ne_of_none eo nT
      refine ⟨T0, _, rfl, sqT upd_same, rfl, _, _, rfl, _, _, rfl, rfl, ?_⟩
      have s5 : Same H (L2.upd H' T0 (.tup [.int (i : Nat), .int (p.getD i 0)])) := sm.trans (same_new nT)
      refine ⟨_, rfl, rfl, _, rfl, ite2 (fun h => ?_) (fun h => ?_)⟩
      · refine ⟨_, rfl, l2, _, rfl, s5.seq h2, ?_⟩
        refine for_enumL (xs := q.map V.int) (fun j σ H2 => ∃ y5 y6, σ = [some (.ref l1), some (.ref l2), some (.ref o), some (.int (i : Nat)), some (.int (p.getD i 0)), y5, y6] ∧ Same H H2 ∧ H2 o = some (.lst ((pst p q i j).map V.int)))
          ⟨y5, y6, rfl, s5, by rw [upd_ne nTo]; exact eo⟩ (fun j σ H2 hj hP => ?_) (fun j y T1 σ H2 hy hP nT1 => ?_) (fun σ H2 hP => ?_)
        · obtain ⟨y5, y6, rfl, sm2, _⟩ := hP
          exact sm2.seq h2
        · obtain ⟨y5, y6, rfl, sm2, eo2⟩ := hP
          obtain ⟨hjl, rfl⟩ := at_mem hy
          have nT1o : o ≠ T1 := ne_of_none eo2 nT1
          refine ⟨T1, _, rfl, sqT upd_same, rfl, _, _, rfl, _, _, rfl, rfl, ?_⟩
          have s6 : Same H (L2.upd H2 T1 (.tup [.int (j : Nat), .int (q.getD j 0)])) := sm2.trans (same_new nT1)
          have eo3 : (L2.upd H2 T1 (.tup [.int (j : Nat), .int (q.getD j 0)])) o = some (.lst ((pst p q i j).map V.int)) := by rw [upd_ne nT1o]; exact eo2
          have hb2 : i + j < (pst p q i j).length := by rw [pst_len]; omega
          refine ⟨_, rfl, _, rfl, _, rfl, _, _, rfl, rfl, o, _, _, _, rfl, rfl, sqL eo3, atI_nat (j := i + j) (mem_at hb2), _, rfl, _, rfl, _, _, rfl, rfl, wide_mul (getD_S1 b1 i) (getD_S1 b2 j) (by omega) (by omega) (by omega), _, _, rfl, rfl, ?_⟩
          refine ⟨_, rfl, _, rfl, _, rfl, _, _, rfl, rfl, o, _, _, i + j, rfl, rfl, eo3, ixN_nat (by rw [List.length_map]; exact hb2), ?_⟩
          refine ⟨_, _, rfl, sameUpd s6 no0, ?_⟩
          rw [upd_same, pst_step hjl, List.map_set]
        · obtain ⟨y5, y6, rfl, sm2, eo2⟩ := hP
          rw [l2m, pst_row hil] at eo2
          exact ⟨_, _, _, _, rfl, sm2, eo2⟩
      · have h0 : p.getD i 0 = 0 := by
          by_cases e : V.int (p.getD i 0) = V.int 0
          · exact V.int.inj e
          · exact absurd (by rw [decide_eq_false e]; rfl) h
        refine ⟨_, _, _, _, rfl, s5, ?_⟩
        rw [upd_ne nTo, ← pst_skip hil h0]
        exact eo
    · obtain ⟨y3, y4, y5, y6, rfl, sm, eo⟩ := hP
      rw [l1m, pst_endZ] at eo
      exact ⟨_, rfl, k H' o sm no0 eo⟩
end
theorem eqv_nil (F : List Int) : PyData.eqv (.list (F.map PyData.int)) (.list []) = decide (F = []) := by
  cases F with
  | nil => simp [PyData.eqv, PyData.eqvAll]
  | cons a F => simp [PyData.eqv, PyData.eqvAll]
theorem pow_bits {b : Int} {m : Nat} (h : b.natAbs ≤ 2 ^ m) (i : Nat) : (b ^ i).natAbs ≤ 2 ^ (m * i) := by
  rw [Int.natAbs_pow, Nat.pow_mul]
  exact Nat.pow_le_pow_left h i
section
variable {P : Program} {w : World} {K : PySem.W.Frag} {mg : Str → Option Value} {base : Heap}
def spPutIn (K : PySem.W.Frag) : Sp := fun vs H Q _ => ∃ u v mo mi Lo Li, vs = [u, v] ∧ PolyV K H u mo Lo ∧ PolyV K H v mi Li ∧ Good Lo ∧ Good Li ∧ mo + Lo.length * (mi + 1) ≤ 8400 ∧ Lo.length + Li.length ≤ 400 ∧ (Lo.length - 1) * (Li.length - 1) + 1 ≤ 400 ∧
  ∀ H' x, Same H H' → PolyV K H' x (mo + (Lo.length - 1) * (mi + 1)) (lawWithin Li Lo) → Q x H'
theorem ok_put_in (T : Tx K mg) : FnOk P w K mg base CX0 2 T.put_in.f T.put_in.fd ["outer", "inner"] (spPutIn K) := by
  refine T.put_in.F.ok sc_put_in (fun vs H Q E h => ?_) (fun cdv A outer s H vs Q E hr h => ?_)
  · obtain ⟨u, v, mo, mi, Lo, Li, rfl, _⟩ := h
    rfl
  · obtain ⟨u, v, mo, mi, Lo, Li, rfl, ⟨au, lu, os, ob, rfl, hau, hlu, hob, hob2, hos2, eLo⟩, ⟨av, lv, is, ib, rfl, hav, hlv, hib, hib2, his2, eLi⟩, gLo, gLi, hbits, hlen, hlen2, k⟩ := h
    refine ⟨_, (pss_cons (ps_par3 (i := 2) (j := 3) (l := 4) rfl sc_put_in.nd rfl rfl rfl (by decide) (by decide) (by decide) rfl rfl rfl (pa_cons (pe_lst pa_nil) (pa_cons pe_int (pa_cons (pe_ix ix_tup (pv 0) pe_int (fun _ _ => rfl)) pa_nil))) (by rfl))
      (pss_cons (ps_for PassesOwn.never rfl (pi_reversed (by rfl) T.m_reversed (pa_cons (pe_ix ix_tup (pv 0) pe_int (fun _ _ => rfl)) pa_nil)) (pg_name (i := 5) sc_put_in.nd rfl (.inl rfl))
        (pss_cons (ps_set (i := 2) sc_put_in.nd rfl (.inl rfl) (pe_ifExp (pt_cmpR (op_neD hr.units) (pv 2) (pe_lst pa_nil) (nomark _)) (pe_call (ok_times_so T) hr (by rfl) T.times_so.g T.times_so.F.kp T.times_so.b .nil pass0 (pa_cons (pv 2) (pa_cons (pe_ix ix_tup (pv 1) pe_int (fun _ _ => rfl)) pa_nil))) (pe_lst (pa_cons pe_int pa_nil))))
        (pss_cons (ps_asg (pe_op op_add (pe_ix ix_list (pv 2) pe_int (fun _ _ => rfl)) (pe_op op_mulW (pv 5) (pv 3))) (pg_sub (pv 2) pe_int set_list))
        (pss_one (ps_par (i := 3) (j := 4) rfl sc_put_in.nd rfl rfl (by decide) rfl rfl (pa_cons (pe_op op_mulW (pv 3) (pe_ix ix_tup (pv 1) pe_int (fun _ _ => rfl))) (pa_cons (pe_op op_mulW (pe_ix ix_tup (pv 0) pe_int (fun _ _ => rfl)) (pv 3)) pa_nil)) (by rfl))))))
      (pss_one (ps_ret (pe_call (ok_reduced T) hr (by rfl) T.reduced.g T.reduced.F.kp T.reduced.b .nil pass0 (pa_cons (pv 2) (pa_cons (pv 4) pa_nil))))))), ?_⟩
    have lo : os.length = Lo.length := by rw [← eLo]; unfold asQ; rw [List.length_map]
    have li : is.length = Li.length := by rw [← eLi]; unfold asQ; rw [List.length_map]
    have lo2 := gLo.1
    have li2 := gLi.1
    have hos : os ≠ [] := fun z => by rw [z, List.length_nil] at lo; omega
    have his : is ≠ [] := fun z => by rw [z, List.length_nil] at li; omega
    have lom : (os.map V.int).length = os.length := List.length_map ..
    refine ⟨Nat.zero_le _, fun f0 nf0 => ⟨_, rfl, au, _, _, _, rfl, rfl, (Tle.new nf0).sq hau, atI_nat (j := 1) rfl, _, _, _, rfl, ?_⟩⟩
    have s0 : Same H (L2.upd H f0 (.lst [])) := same_new nf0
    refine ⟨_, rfl, au, _, _, _, rfl, rfl, (Tle.new nf0).sq hau, atI_nat (j := 0) rfl, lu, _, rfl, s0.seq hlu, ?_⟩
    refine for_revL (xs := os.map V.int) (fun i σ H' => ∃ f bel y5, σ = [some (.ref au), some (.ref av), some (.ref f), some (.int (ib ^ i)), some (.int bel), y5] ∧ Same H H' ∧ H f = none ∧ H' f = some (.lst ((hzs is ib (os.reverse.take i) [] 1).map V.int)) ∧ (1 ≤ i → bel = ob * ib ^ (i - 1)) ∧ i ≤ os.length)
      ⟨f0, ob, none, by rw [Int.pow_zero]; rfl, s0, nf0, upd_same, fun z => by omega, Nat.zero_le _⟩ (fun i σ H' hP => ?_) (fun i x σ H' hx hP => ?_) (fun σ H' hP => ?_)
    · obtain ⟨f, bel, y5, rfl, sm, _⟩ := hP
      exact sm.seq hlu
    · obtain ⟨f, bel, y5, rfl, sm, nf, ef, hbel, hle⟩ := hP
      rw [← List.map_reverse] at hx
      obtain ⟨hil, rfl⟩ := at_mem hx
      have hil' : i < os.length := by rw [List.length_reverse] at hil; exact hil
      have lt : (os.reverse.take i).length = i := by rw [List.length_take]; omega
      obtain ⟨f1, f2, f3⟩ := hzs_facts his hib (mo := mo) his2 hib2 i (os.reverse.take i) lt fun o ho => Nat.le_trans (S1_mem (List.mem_reverse.mp (List.mem_of_mem_take ho))) hos2
      have mm : (i + 1) * (mi + 1) ≤ Lo.length * (mi + 1) := Nat.mul_le_mul_right _ (by omega)
      have ml : i * (is.length - 1) ≤ (Lo.length - 1) * (Li.length - 1) := Nat.mul_le_mul (by omega) (by omega)
      have hFlen : (hzs is ib (os.reverse.take i) [] 1).length ≤ 400 := by
        by_cases h0 : i = 0
        · subst h0; simp [hzs]
        · have hne : os.reverse.take i ≠ [] := fun z => by rw [z, List.length_nil] at lt; omega
          rw [f1 hne]
          have : (i - 1) * (is.length - 1) ≤ i * (is.length - 1) := Nat.mul_le_mul_right _ (by omega)
          omega
      rw [Nat.succ_mul] at mm
      -- the product so far
      refine part (te := tIf _ _ _) (fun x H2 => ∃ g, x = .ref g ∧ Same H' H2 ∧ H g = none ∧ H2 g = some (.lst ((if hzs is ib (os.reverse.take i) [] 1 = [] then [0] else convZ (hzs is ib (os.reverse.take i) [] 1) is).map V.int))) (fun R key => ?_) (fun x H2 hx2 => ?_)
      · refine ⟨_, rfl, Nat.zero_le _, fun e ne => ⟨_, _, .lst (sqL ((same_new ne) _ _ ef)) (dpAll_ints _), .lst (sqL upd_same) .nil, shaped_ints _, shaped_ints [], _, rfl, ?_⟩⟩
        have ne0 : H e = none := Same.free sm ne
        rw [eqv_nil]
        by_cases h0 : hzs is ib (os.reverse.take i) [] 1 = []
        · rw [decide_eq_true h0, if_pos h0] at *
          refine iteF ⟨one_line, fun g ng => key _ _ ⟨g, rfl, (same_new ne).trans (same_new ng), Same.free (sm.trans (same_new (o := .lst []) ne)) ng, ?_⟩⟩
          rw [upd_same]; rfl
        · rw [decide_eq_false h0, if_neg h0] at *
          have i0 : i ≠ 0 := fun z => h0 (by subst z; rfl)
          refine iteT ⟨_, rfl, _, rfl, av, _, _, _, rfl, rfl, (Tle.new ne).sq ((Tle.same sm).sq hav), atI_nat (j := 0) rfl, f, lv, _, is, mo + (i - 1) * (mi + 1), mi, rfl, sqL ((same_new ne) _ _ ef), (same_new ne).seq (sm.seq hlv), h0, his, f2, his2, ?_, ?_, ?_, fun H3 g s3 ng eg => key _ _ ⟨g, rfl, (same_new ne).trans s3, Same.free (sm.trans (same_new (o := .lst []) ne)) ng, eg⟩⟩
          · have : (i - 1) * (mi + 1) ≤ i * (mi + 1) := Nat.mul_le_mul_right _ (by omega)
            omega
          · omega
          · omega
      · obtain ⟨g, rfl, s2, ng, eg⟩ := hx2
        dsimp only [gName]
        have hG : (if hzs is ib (os.reverse.take i) [] 1 = [] then [0] else convZ (hzs is ib (os.reverse.take i) [] 1) is) ≠ [] := by
          by_cases h0 : hzs is ib (os.reverse.take i) [] 1 = []
          · rw [if_pos h0]; simp
          · rw [if_neg h0]
            intro z
            have := convZ_len (hzs is ib (os.reverse.take i) [] 1) is
            rw [z, List.length_nil] at this
            have h1 : 0 < (hzs is ib (os.reverse.take i) [] 1).length := List.length_pos_iff.mpr h0
            omega
        have hGl := List.length_pos_iff.mpr hG
        have ehz : hz is (hzs is ib (os.reverse.take i) [] 1) (os.reverse.getD i 0) (ib ^ i) = (if hzs is ib (os.reverse.take i) [] 1 = [] then [0] else convZ (hzs is ib (os.reverse.take i) [] 1) is).set 0 ((if hzs is ib (os.reverse.take i) [] 1 = [] then [0] else convZ (hzs is ib (os.reverse.take i) [] 1) is).getD 0 0 + os.reverse.getD i 0 * ib ^ i) := rfl
        have esn : hzs is ib (os.reverse.take (i + 1)) [] 1 = hz is (hzs is ib (os.reverse.take i) [] 1) (os.reverse.getD i 0) (ib ^ i) := by
          have e1 : os.reverse.take (i + 1) = os.reverse.take i ++ [os.reverse.getD i 0] := by
            rw [List.take_add_one, List.getD, List.getElem?_eq_getElem hil]; rfl
          rw [e1, hzs_snoc, lt, Int.one_mul]
        generalize (if hzs is ib (os.reverse.take i) [] 1 = [] then [0] else convZ (hzs is ib (os.reverse.take i) [] 1) is) = G at *
        have hno : (os.reverse.getD i 0).natAbs < 2 ^ (mo + 1) := by
          rw [List.getD, List.getElem?_eq_getElem hil]
          exact lt_pow (Nat.le_trans (S1_mem (List.mem_reverse.mp (List.getElem_mem hil))) hos2) (by omega)
        have hpw := pow_bits hib2 i
        have hmi : mi * i ≤ i * (mi + 1) := by rw [Nat.mul_comm, Nat.mul_succ]; omega
        have hsh : (ib ^ i).natAbs < 2 ^ (mi * i + 1) := lt_pow hpw (by omega)
        have cm : CMulW (os.reverse.getD i 0) (ib ^ i) := wide_mul hno hsh (by omega) (by omega) (by omega)
        refine ⟨_, rfl, g, _, _, _, rfl, rfl, sqL eg, atI_nat (j := 0) (mem_at hGl), _, rfl, _, rfl, _, _, rfl, rfl, cm, _, _, rfl, rfl, _, rfl, g, _, _, 0, rfl, rfl, eg, ixN_nat (j := 0) (by rw [List.length_map]; exact hGl), ?_⟩
        have ib9 : ib.natAbs < 2 ^ (mi + 1) := lt_pow hib2 (by omega)
        have ob9 : ob.natAbs < 2 ^ (mo + 1) := lt_pow hob2 (by omega)
        have t3 : Tle H (L2.upd H2 g (.lst ((G.map V.int).set 0 (.int (G.getD 0 0 + os.reverse.getD i 0 * ib ^ i))))) := ((Tle.same sm).trans (Tle.same s2)).trans (.lst eg)
        refine ⟨_, rfl, _, rfl, av, _, _, _, rfl, rfl, t3.sq hav, atI_nat (j := 1) rfl, _, _, rfl, rfl, wide_mul hsh ib9 (by omega) (by omega) (by omega), _, rfl, au, _, _, _, rfl, rfl, t3.sq hau, atI_nat (j := 1) rfl, _, rfl, _, _, rfl, rfl, wide_mul ob9 hsh (by omega) (by omega) (by omega), _, _, rfl, ?_⟩
        refine ⟨g, ob * ib ^ i, some (.int (os.reverse.getD i 0)), ?_, sameUpd (sm.trans s2) ng, ng, ?_, fun _ => by rw [Nat.add_sub_cancel], hil'⟩
        · rw [Int.pow_succ]; rfl
        · rw [upd_same, esn, ehz, List.map_set]
    · obtain ⟨f, bel, y5, rfl, sm, nf, ef, hbel, hle⟩ := hP
      rw [lom] at ef hbel
      rw [List.take_of_length_le (by rw [List.length_reverse]; exact Nat.le_refl _)] at ef
      have eb := hbel (by omega)
      subst eb
      obtain ⟨p1, p2, p3, p4, p5⟩ := put_ev hob hib his hos his2 hib2 hos2 hob2
      have mm : (os.length - 1) * (mi + 1) ≤ Lo.length * (mi + 1) := Nat.mul_le_mul_right _ (by omega)
      rw [li, lo] at p4
      refine ⟨_, rfl, _, rfl, f, _, _, mo + (os.length - 1) * (mi + 1), rfl, sqL ef, p1, p2, p3, by omega, by omega, fun H3 x L3 s3 hx tp hev hl3 => ?_⟩
      obtain ⟨gw, _, ew⟩ := lawWithin_good gLi gLo
      have e3 : L3 = lawWithin Li Lo := eq_of_ev tp gw.2 fun y => by rw [hev y, p5 y, eLo, eLi, ew y]
      rw [e3, lo] at hx
      exact k H3 x (sm.trans s3) hx.v
end
section
variable {P : Program} {w : World} {K : PySem.W.Frag} {mg : Str → Option Value} {base : Heap}
/-! ### whole_of -/
def spWholeOf (K : PySem.W.Frag) : Sp := fun vs H Q _ => ∃ a ys a0 r n, vs = [.ref a] ∧ SqL K H a ys ∧ Paired (fun v L => PolyV K H v 20 L) ys (a0 :: r) ∧ WdOk n (r.length + 1) ∧ (∀ L ∈ a0 :: r, Ltr L ∧ L.length ≤ n + 1) ∧ ∀ H' x, Same H H' → PolyV K H' x (nb n r.length) (r.foldl lawWithin a0) → Q x H'
theorem ok_whole_of (T : Tx K mg) : FnOk P w K mg base CX0 3 T.whole_of.f T.whole_of.fd ["polys"] (spWholeOf K) := by
  refine T.whole_of.F.ok sc_whole_of (fun vs H Q E h => ?_) (fun cdv A outer' s H vs Q E hr h => ?_)
  · obtain ⟨a, ys, a0, r, n, rfl, _⟩ := h
    rfl
  · obtain ⟨a, ys, a0, r, n, rfl, hS, pp, hw, hl, k⟩ := h
    refine ⟨_, (pss_cons (ps_set (i := 1) sc_whole_of.nd rfl (.inl rfl) (pe_ix ix_list (pv 0) pe_int (fun _ _ => rfl)))
      (pss_cons (ps_for PassesOwn.never rfl (pi_list (pe_slice sl_list (pv 0) (po_some pe_int) po_none)) (pg_name (i := 2) sc_whole_of.nd rfl (.inl rfl))
        (pss_one (ps_set (i := 1) sc_whole_of.nd rfl (.inl rfl) (pe_call (ok_put_in T) hr (by rfl) T.put_in.g T.put_in.F.kp T.put_in.b .nil pass0 (pa_cons (pv 2) (pa_cons (pv 1) pa_nil))))))
      (pss_one (ps_ret (pv 1))))), ?_⟩
    cases pp with
    | cons hy0 pr =>
      rename_i y0 ys
      have lys := pLen pr
      have l0 := hl a0 List.mem_cons_self
      have lr : ∀ L ∈ r, Ltr L ∧ L.length ≤ n + 1 := fun L h => hl L (List.mem_cons_of_mem _ h)
      refine ⟨_, rfl, a, _, _, y0, rfl, rfl, hS, atI_nat (j := 0) rfl, ?_⟩
      refine ⟨_, rfl, 1, rfl, a, _, rfl, hS, fun l nl => ⟨l, rfl, ⟨_, sqL upd_same⟩, ?_⟩⟩
      have ec : cutV (y0 :: ys) (some 1) none = ys := cutFrom (y0 :: ys) 1
      refine for_list (xs := ys) (fun i σ H' => ∃ x y2, σ = [some (.ref a), some x, y2] ∧ Same H H' ∧ H' l = some (.lst ys) ∧ PolyV K H' x (nb n i) ((r.take i).foldl lawWithin a0))
        ⟨y0, none, rfl, same_new nl, by rw [upd_same, ec], hy0.same (same_new nl)⟩ (fun i σ H' hi hP => ?_) (fun i x σ H' hx hP => ?_) (fun σ H' hP => ?_)
      · obtain ⟨x, y2, rfl, sm, el, _⟩ := hP
        exact sqL el
      · obtain ⟨f, y2, rfl, sm, el, hf⟩ := hP
        obtain ⟨L, hL, rL⟩ := pAt pr hx
        have hil : i < r.length := (List.getElem?_eq_some_iff.mp hL).1
        have lL := lr L (List.mem_of_getElem? hL)
        obtain ⟨g1, g2⟩ := wpart_ok l0 lr i (by omega)
        have hb := hw.bits (i := i) (by omega)
        have hp := hw.pow (i := i + 1) (by omega)
        have hp2 := hw.pow (i := i + 2) (by omega)
        have hn3 := hw.n3
        have e2 : n ^ (i + 2) = n ^ (i + 1) * n := Nat.pow_succ ..
        have m1 : L.length * (nb n i + 1) ≤ (n + 1) * (nb n i + 1) := Nat.mul_le_mul_right _ lL.2
        have m2 : (L.length - 1) * (((r.take i).foldl lawWithin a0).length - 1) ≤ n * n ^ (i + 1) := Nat.mul_le_mul (by omega) (by omega)
        have m3 : (L.length - 1) * (nb n i + 1) ≤ n * (nb n i + 1) := Nat.mul_le_mul_right _ (by omega)
        have e3 : n * n ^ (i + 1) = n ^ (i + 1) * n := Nat.mul_comm ..
        refine ⟨_, rfl, _, rfl, x, f, 20, nb n i, L, _, rfl, rL.same sm, hf, lL.1.good, g1, by omega, by omega, by omega, fun H3 z s3 hz => ?_⟩
        refine ⟨z, _, rfl, sm.trans s3, s3 _ _ el, ?_⟩
        rw [List.take_add_one, hL, List.foldl_append]
        exact hz.mono (by show 20 + (L.length - 1) * (nb n i + 1) ≤ 20 + n * (nb n i + 1); omega)
      · obtain ⟨f, y2, rfl, sm, el, hf⟩ := hP
        rw [lys, List.take_of_length_le (Nat.le_refl _)] at hf
        exact ⟨_, rfl, k H' f sm hf⟩
/-! ### degree_of_word, check_degree -/
structure WdIn (R : List (List Rat)) (n : Nat) (wd : Word) : Prop where
  ok : WdOk n wd.length
  inr : ∀ i ∈ wd, i < R.length
  ltr : ∀ L ∈ R, Ltr L ∧ L.length ≤ n + 1
theorem WdIn.at {R : List (List Rat)} {n : Nat} {wd : Word} (h : WdIn R n wd) {i : Nat} (hi : i ∈ wd) : Ltr (R.getD i []) ∧ (R.getD i []).length ≤ n + 1 := by
  have := h.inr i hi
  rw [List.getD, List.getElem?_eq_getElem this]
  exact h.ltr _ (List.getElem_mem this)
theorem wdv_at {wd : Word} {i : Nat} {x : V} (h : (wdv wd)[i]? = some x) : ∃ hi : i < wd.length, x = .int ((wd[i] : Nat) : Int) := by
  have hil : i < wd.length := by
    have := (List.getElem?_eq_some_iff.mp h).1
    unfold wdv at this
    rw [List.length_map] at this
    exact this
  refine ⟨hil, ?_⟩
  unfold wdv at h
  rw [List.getElem?_map, List.getElem?_eq_getElem hil] at h
  exact (Option.some.inj h).symm
theorem wdv_len (wd : Word) : (wdv wd).length = wd.length := by unfold wdv; rw [List.length_map]
def spDegree (K : PySem.W.Frag) : Sp := fun vs H Q _ => ∃ u v R n wd, vs = [u, v] ∧ RwV K H u R ∧ WdV K H v wd ∧ WdIn R n wd ∧ ∀ d : Nat, d ≤ 256 → Q (.int (d : Int)) H
theorem ok_degree_of_word (T : Tx K mg) : FnOk P w K mg base CX0 1 T.degree_of_word.f T.degree_of_word.fd ["steps", "word"] (spDegree K) := by
  refine T.degree_of_word.F.ok sc_degree_of_word (fun vs H Q E h => ?_) (fun cdv A outer' s H vs Q E hr h => ?_)
  · obtain ⟨u, v, R, n, wd, rfl, _⟩ := h
    rfl
  · obtain ⟨u, v, R, n, wd, rfl, hu, hv, hw, k⟩ := h
    refine ⟨_, (pss_cons (ps_set (i := 2) sc_degree_of_word.nd rfl (.inl rfl) pe_int)
      (pss_cons (ps_for PassesOwn.never rfl (pi_tup (pv 1)) (pg_name (i := 3) sc_degree_of_word.nd rfl (.inl rfl))
        (pss_one (ps_set (i := 2) sc_degree_of_word.nd rfl (.inl rfl) (pe_op op_mulW (pv 2) (pe_op op_sub (pe_callB call_len_seq (by rfl) T.m_len (by decide +kernel) (pa_cons (pe_ix ix_tup (pv 0) (pv 3) (fun _ _ => rfl)) pa_nil)) pe_int)))))
      (pss_one (ps_ret (pv 2))))), ?_⟩
    obtain ⟨au, us, rfl, hSu, pu⟩ := id hu
    obtain ⟨av, rfl, hSv⟩ := id hv
    have lu := pLen pu
    refine ⟨_, rfl, av, rfl, ⟨_, hSv⟩, ?_⟩
    refine for_tup (xs := wdv wd) (fun i σ H' => ∃ (d : Nat) (x3 : Option V), σ = [some (.ref au), some (.ref av), some (.int (d : Int)), x3] ∧ H' = H ∧ d ≤ n ^ i) ⟨1, none, rfl, rfl, by rw [Nat.pow_zero]; exact Nat.le_refl _⟩ (fun i σ H' hi hP => ?_) (fun i x σ H' hx hP => ?_) (fun σ H' hP => ?_)
    · obtain ⟨d, x3, rfl, rfl, _⟩ := hP
      exact hSv
    · obtain ⟨d, x3, rfl, rfl, hd⟩ := hP
      obtain ⟨hil, rfl⟩ := wdv_at hx
      have hlt := hw.inr _ (List.getElem_mem hil)
      have hlL := (hw.at (List.getElem_mem hil))
      obtain ⟨L, hL, aL, ls, eA, hSL, pL⟩ := pAt pu (List.getElem?_eq_getElem (show wd[i] < us.length by omega))
      have hAt : us[wd[i]]? = some (.ref aL) := by rw [List.getElem?_eq_getElem (show wd[i] < us.length by omega), eA]
      have eL : R.getD wd[i] [] = L := by rw [List.getD, hL]; rfl
      rw [eL] at hlL
      have lL := pLen pL
      have l1 := hlL.1.good.1
      have hp := hw.ok.pow (i := i) (by omega)
      have hn3 := hw.ok.n3
      have eN : ((ls.length : Nat) : Int) - 1 = ((L.length - 1 : Nat) : Int) := by omega
      refine ⟨_, rfl, _, rfl, _, rfl, au, _, _, _, rfl, rfl, hSu, atI_nat hAt, aL, ls, rfl, .inr hSL, _, _, rfl, rfl, _, _, rfl, rfl, ?_, ?_⟩
      · show CMulW ((d : Nat) : Int) (((ls.length : Nat) : Int) - 1)
        rw [eN]
        exact wide_mul (a := 9) (b := 3) (by rw [Int.natAbs_natCast]; omega) (by rw [Int.natAbs_natCast]; omega) (by decide) (by decide) (by decide)
      · refine ⟨d * (L.length - 1), some (.int ((wd[i] : Nat) : Int)), ?_, rfl, ?_⟩
        · show [_, _, some (V.int (((d : Nat) : Int) * (((ls.length : Nat) : Int) - 1))), _] = _
          rw [eN, ← Int.natCast_mul]
        · rw [Nat.pow_succ]
          exact Nat.mul_le_mul hd (by omega)
    · obtain ⟨d, x3, rfl, rfl, hd⟩ := hP
      rw [wdv_len] at hd
      exact ⟨_, rfl, k d (Nat.le_trans hd hw.ok.p)⟩
def spCheck : Sp := fun vs H Q _ => ∃ d : Nat, vs = [.int (d : Int)] ∧ d ≤ 256 ∧ Q .non H
theorem ok_check_degree (T : Tx K mg) : FnOk P w K mg base CX0 1 T.check_degree.f T.check_degree.fd ["degree"] spCheck := by
  refine T.check_degree.F.ok sc_check_degree (fun vs H Q E h => ?_) (fun cdv A outer' s H vs Q E hr h => ?_)
  · obtain ⟨d, rfl, _⟩ := h
    rfl
  · obtain ⟨d, rfl, hd, k⟩ := h
    refine ⟨_, (pss_one (ps_if (pt_cmpR op_gt (pv 0) (pe_glob (v := .int 256) (by rfl) T.c_MOST_WHOLE.choose_spec ⟨_, rfl⟩) (nomark _))
        (pss_one ps_never)
        pss_nil)), ?_⟩
    refine ⟨_, rfl, _, _, rfl, rfl, _, rfl, ite2 (fun h => ?_) (fun h => ?_)⟩
    · exact absurd (of_decide_eq_true h) (by omega)
    · exact k
/-! ### word_poly -/
def spWordPoly (K : PySem.W.Frag) : Sp := fun vs H Q _ => ∃ u v R n wd, vs = [u, v] ∧ RwV K H u R ∧ WdV K H v wd ∧ WdIn R n wd ∧ ∀ H' x, Same H H' → PolyV K H' x 8400 (wstep R wd) → Q x H'
theorem ok_word_poly (T : Tx K mg) : FnOk P w K mg base CX0 4 T.word_poly.f T.word_poly.fd ["steps", "word"] (spWordPoly K) := by
  refine T.word_poly.F.ok sc_word_poly (fun vs H Q E h => ?_) (fun cdv A outer' s H vs Q E hr h => ?_)
  · obtain ⟨u, v, R, n, wd, rfl, _⟩ := h
    rfl
  · obtain ⟨u, v, R, n, wd, rfl, hu, hv, hw, k⟩ := h
    refine ⟨_, (pss_cons (ps_expr (pe_call (ok_check_degree T) (hr.mono (by decide)) (by rfl) T.check_degree.g T.check_degree.F.kp T.check_degree.b .nil pass0 (pa_cons (pe_call (ok_degree_of_word T) (hr.mono (by decide)) (by rfl) T.degree_of_word.g T.degree_of_word.F.kp T.degree_of_word.b .nil pass0 (pa_cons (pv 0) (pa_cons (pv 1) pa_nil))) pa_nil)))
      (pss_one (ps_ret (pe_call (ok_whole_of T) hr (by rfl) T.whole_of.g T.whole_of.F.kp T.whole_of.b .nil pass0 (pa_cons (pe_lc (own := [("letter", 2)]) (g := gName 2) rfl sc_word_poly.nd (pi_tup (pv 1)) (blkOk_by (N := N_word_poly) (own := [("letter", 2)]) (sc := defScope s_word_poly) (by decide +kernel)) (fun _ _ _ _ _ => pg_name (i := 2) sc_word_poly.nd rfl (.inl rfl)) (fun _ _ _ _ _ => pts_nil) (fun _ _ _ _ _ => (pe_call (ok_as_poly T) (hr.mono (by decide)) (by rfl) T.as_poly.g T.as_poly.F.kp T.as_poly.b .nil pass0 (pa_cons (pe_ix (r := rIxT K) ix_tup (pv 0) (pv 2) (fun _ _ => rfl)) pa_nil)))) pa_nil))))), ?_⟩
    obtain ⟨au, us, rfl, hSu, pu⟩ := id hu
    obtain ⟨av, rfl, hSv⟩ := id hv
    have lu := pLen pu
    refine ⟨_, rfl, _, rfl, _, _, R, n, wd, rfl, hu, hv, hw, fun d hd => ⟨d, rfl, hd, ?_⟩⟩
    refine ⟨_, rfl, av, rfl, ⟨_, hSv⟩, fun D nD => ?_⟩
    refine lc_tup (xs := wdv wd) (fun i H' => Same H H' ∧ ∃ zs, H' D = some (.lst zs) ∧ Paired (fun v L => PolyN (· ≠ D) K H' v 20 L) zs ((wd.take i).map fun i => R.getD i [])) ⟨same_new nD, [], upd_same, .nil⟩ (fun i H' hi hP => (Tle.same hP.1).sq hSv) (fun i x H' hx hP => ?_) (fun H' hP => ?_)
    · obtain ⟨sm, zs, eD, pz⟩ := hP
      obtain ⟨hil, rfl⟩ := wdv_at hx
      have hlt := hw.inr _ (List.getElem_mem hil)
      have hus : wd[i] < us.length := by omega
      obtain ⟨L, hL, rL⟩ := pAt pu (List.getElem?_eq_getElem hus)
      have eL : R.getD wd[i] [] = L := by rw [List.getD, hL]; rfl
      have hlL := (hw.at (List.getElem_mem hil))
      rw [eL] at hlL
      have lz := pLen pz
      rw [List.length_map, List.length_take] at lz
      have h8 := hw.ok.k8
      refine ⟨rfl, _, rfl, _, rfl, au, us, _, _, rfl, rfl, (Tle.same sm).sq hSu, atI_nat (List.getElem?_eq_getElem hus), _, L, rfl, rL.mono (Tle.same sm), hlL.1, fun H2 v s2 hv2 => ?_⟩
      have eD2 := s2 _ _ eD
      have dn : H D = none := nD
      refine ⟨zs, eD2, line_of (by omega), sameUpd (sm.trans s2) nD, _, upd_same, ?_⟩
      rw [List.take_add_one, List.getElem?_eq_getElem hil, List.map_append]
      refine pSnoc (pMap pz fun _ _ y => (y.same s2).off eD2) ?_
      show PolyN _ K _ _ 20 (R.getD wd[i] [])
      rw [eL]
      exact (hv2.imp fun l z e => by rw [e, eD] at z; cases z).off eD2
    · obtain ⟨sm, zs, eD, pz⟩ := hP
      rw [wdv_len, List.take_length] at pz
      have hk1 := hw.ok.k1
      cases wd with
      | nil => simp at hk1
      | cons i0 wr =>
        have hlen : ((wr.map fun i => R.getD i []).length + 1) = (i0 :: wr).length := by rw [List.length_map]; rfl
        refine ⟨D, zs, _, _, n, rfl, sqL eD, pMap pz fun _ _ y => y.v, ?_, fun L hL => ?_, fun H4 x s4 hx => k H4 x (sm.trans s4) (hx.mono ?_)⟩
        · rw [hlen]; exact hw.ok
        · obtain ⟨i, hi, rfl⟩ := List.mem_map.mp (show L ∈ (i0 :: wr).map fun i => R.getD i [] from hL)
          exact hw.at hi
        · have := hw.ok.last
          rw [List.length_cons, Nat.add_sub_cancel] at this
          rw [List.length_map]; exact this
end
section
variable {K : PySem.W.Frag}
theorem kit_ii : PySem.W.kitOne K (.type "int") (.type "int") = some true := by first | rfl | kernel_rfl
theorem kit_bi : PySem.W.kitOne K (.type "bool") (.type "int") = some true := by first | rfl | kernel_rfl
theorem kit_bb : PySem.W.kitOne K (.type "bool") (.type "bool") = some true := by first | rfl | kernel_rfl
theorem kit_ib : PySem.W.kitOne K (.type "int") (.type "bool") = some false := by first | rfl | kernel_rfl
theorem kit_ni : PySem.W.kitOne K (.type "NoneType") (.type "int") = some false := by first | rfl | kernel_rfl
theorem kit_tt : PySem.W.kitOne K (.type "tuple") (.type "tuple") = some true := by first | rfl | kernel_rfl
theorem kit_nt : PySem.W.kitOne K (.type "NoneType") (.type "tuple") = some false := by first | rfl | kernel_rfl
theorem ty_sq {H : Hp} {a : Addr} {xs : List V} (h : SqT K H a xs) : TyX K H (.ref a) (.type "tuple") := by
  rcases h with (h | ⟨o, h⟩) | ⟨o, its, n, h1, h2, _⟩
  · exact .base (.tup h)
  · exact .fTuple h
  · exact .kTuple h1 h2
end
/-- what the program calls a step -/
structure StepOk (L : List Rat) : Prop where
  good : Good L
  len : L.length ≤ 65
  sm : ∀ q ∈ L, q.num.natAbs ≤ 64 ∧ q.den ≤ 8
theorem Ltr.step {L : List Rat} (h : Ltr L) : StepOk L := ⟨h.good, by have := h.len; omega, h.sm⟩
section
variable {P : Program} {w : World} {K : PySem.W.Frag} {mg : Str → Option Value} {base : Heap}
def spIsFrom : Sp := fun vs H Q _ => ∃ (v : V) (lo hi : Int), vs = [v, .int lo, .int hi] ∧ ((∃ i, v = .int i ∧ (lo ≤ i ∧ i ≤ hi → Q (.bl true) H) ∧ (¬ (lo ≤ i ∧ i ≤ hi) → Q (.bl false) H)) ∨ ((v = .bl true ∨ v = .non) ∧ Q (.bl false) H))
theorem ok_is_from (T : Tx K mg) : FnOk P w K mg base CX0 1 T.is_from.f T.is_from.fd ["value", "low", "high"] spIsFrom := by
  refine T.is_from.F.ok sc_is_from (fun vs H Q E h => ?_) (fun cdv A outer' s H vs Q E hr h => ?_)
  · obtain ⟨v, lo, hi, rfl, _⟩ := h
    rfl
  · obtain ⟨v, lo, hi, rfl, q⟩ := h
    refine ⟨_, (pss_one (ps_ret (pe_and (pe_callB call_isi (by rfl) T.m_isinstance (by decide +kernel) (pa_cons (pv 0) (pa_cons (pe_bltn (v := .ty "int") (by rfl) T.m_int (by decide +kernel) rfl) pa_nil))) (pe_and (pe_not (pe_callB call_isi (by rfl) T.m_isinstance (by decide +kernel) (pa_cons (pv 0) (pa_cons (pe_bltn (v := .ty "bool") (by rfl) T.m_bool (by decide +kernel) rfl) pa_nil)))) (pe_one (pe_chain op_le op_le (pv 1) (pv 0) (pv 2))))))), ?_⟩
    rcases q with ⟨i, rfl, q1, q2⟩ | ⟨rfl | rfl, q⟩
    · refine ⟨_, rfl, _, _, _, _, _, rfl, .ty _, .base (.int _), kit_ii, _, rfl, iteT ?_⟩
      refine ⟨_, rfl, _, _, _, _, _, rfl, .ty _, .base (.int _), kit_ib, _, rfl, _, rfl, iteT ?_⟩
      refine ⟨_, rfl, _, rfl, _, _, rfl, rfl, _, rfl, ite2 (fun h => ?_) (fun h => ?_)⟩
      · have h1 : lo ≤ i := of_decide_eq_true h
        refine ⟨_, rfl, _, _, rfl, rfl, ?_⟩
        show Q (.bl (decide (i ≤ hi))) H
        by_cases h2 : i ≤ hi
        · rw [decide_eq_true h2]; exact q1 ⟨h1, h2⟩
        · rw [decide_eq_false h2]; exact q2 fun z => h2 z.2
      · exact q2 fun z => h (decide_eq_true z.1)
    · refine ⟨_, rfl, _, _, _, _, _, rfl, .ty _, .base (.bl _), kit_bi, _, rfl, iteT ?_⟩
      exact ⟨_, rfl, _, _, _, _, _, rfl, .ty _, .base (.bl _), kit_bb, _, rfl, _, rfl, iteF q⟩
    · exact ⟨_, rfl, _, _, _, _, _, rfl, .ty _, .base .non, kit_ni, _, rfl, iteF q⟩
def spIsNumber (K : PySem.W.Frag) : Sp := fun vs H Q _ => ∃ v q, vs = [v] ∧ FrV K H v q ∧ q.num.natAbs ≤ 64 ∧ q.den ≤ 8 ∧ Q (.bl true) H
theorem ok_is_number (T : Tx K mg) : FnOk P w K mg base CX0 2 T.is_number.f T.is_number.fd ["value"] (spIsNumber K) := by
  refine T.is_number.F.ok sc_is_number (fun vs H Q E h => ?_) (fun cdv A outer' s H vs Q E hr h => ?_)
  · obtain ⟨v, q, rfl, _⟩ := h
    rfl
  · obtain ⟨v, q, rfl, ⟨a, rfl, ha⟩, h1, h2, k⟩ := h
    refine ⟨_, (pss_cons (ps_if (PW.pt (pw_or (pt_not (pt_val (pe_callB call_isi (by rfl) T.m_isinstance (by decide +kernel) (pa_cons (pv 0) (pa_cons (pe_bltn (v := .ty "tuple") (by rfl) T.m_tuple (by decide +kernel) rfl) pa_nil))))) (pw_or1 (pt_cmpR op_ne (pe_callB call_len_seq (by rfl) T.m_len (by decide +kernel) (pa_cons (pv 0) pa_nil)) pe_int (nomark _)))))
        (pss_one (ps_ret pe_bl))
        pss_nil)
      (pss_cons (ps_if (PW.pt (pw_or (pt_not (pt_val (pe_call (ok_is_from T) (hr.mono (by decide)) (by rfl) T.is_from.g T.is_from.F.kp T.is_from.b .nil pass0 (pa_cons (pe_ix ix_tup (pv 0) pe_int (fun _ _ => rfl)) (pa_cons (pe_un un_neg (pe_glob (v := .int (1000000000000000000000000000000000000000000000000000000000000)) (by rfl) T.c_MOST_PART.choose_spec ⟨_, rfl⟩)) (pa_cons (pe_glob (v := .int (1000000000000000000000000000000000000000000000000000000000000)) (by rfl) T.c_MOST_PART.choose_spec ⟨_, rfl⟩) pa_nil)))))) (pw_or1 (pt_not (pt_val (pe_call (ok_is_from T) (hr.mono (by decide)) (by rfl) T.is_from.g T.is_from.F.kp T.is_from.b .nil pass0 (pa_cons (pe_ix ix_tup (pv 0) pe_int (fun _ _ => rfl)) (pa_cons pe_int (pa_cons (pe_glob (v := .int (1000000000000000000000000000000000000000000000000000000000000)) (by rfl) T.c_MOST_PART.choose_spec ⟨_, rfl⟩) pa_nil)))))))))
        (pss_one (ps_ret pe_bl))
        pss_nil)
      (pss_one (ps_ret (pe_cmpR op_eq (pe_callBfun cr_gcd (by rfl) T.m_gcd (pa_cons (pe_ix ix_tup (pv 0) pe_int (fun _ _ => rfl)) (pa_cons (pe_ix ix_tup (pv 0) pe_int (fun _ _ => rfl)) pa_nil))) pe_int (nomark _)))))), ?_⟩
    have qp := q.den_pos
    refine ⟨_, rfl, _, _, _, _, _, rfl, .ty _, ty_sq ha, kit_tt, _, rfl, iteF ?_⟩
    refine ⟨_, rfl, a, _, rfl, .inr ha, rfl, _, rfl, iteF ?_⟩
    refine ⟨_, rfl, a, _, _, _, rfl, rfl, ha, atI_nat (j := 0) rfl, _, rfl, _, _, _, rfl, .inl ⟨_, rfl, fun _ => ⟨_, rfl, iteF ?_⟩, fun z => absurd ⟨by omega, by omega⟩ z⟩⟩
    refine ⟨_, rfl, a, _, _, _, rfl, rfl, ha, atI_nat (j := 1) rfl, _, _, _, rfl, .inl ⟨_, rfl, fun _ => ⟨_, rfl, iteF ?_⟩, fun z => absurd ⟨by omega, by omega⟩ z⟩⟩
    refine ⟨_, rfl, a, _, _, _, rfl, rfl, ha, atI_nat (j := 0) rfl, _, rfl, a, _, _, _, rfl, rfl, ha, atI_nat (j := 1) rfl, _, _, rfl, rfl, ?_⟩
    have e : (Nat.gcd q.num.natAbs ((q.den : Nat) : Int).natAbs : Nat) = 1 := by rw [Int.natAbs_natCast]; exact q.reduced
    rw [e]
    exact k
def spIsStep (K : PySem.W.Frag) : Sp := fun vs H Q _ => ∃ v, vs = [v] ∧ ((∃ L, StV K H v L ∧ StepOk L ∧ Q (.bl true) H) ∨ (v = .non ∧ Q (.bl false) H))
theorem ok_is_step (T : Tx K mg) : FnOk P w K mg base CX0 3 T.is_step.f T.is_step.fd ["value"] (spIsStep K) := by
  refine T.is_step.F.ok sc_is_step (fun vs H Q E h => ?_) (fun cdv A outer' s H vs Q E hr h => ?_)
  · obtain ⟨v, rfl, _⟩ := h
    rfl
  · obtain ⟨v, rfl, h⟩ := h
    refine ⟨_, (pss_cons (ps_if (PW.pt (pw_or (pt_not (pt_val (pe_callB call_isi (by rfl) T.m_isinstance (by decide +kernel) (pa_cons (pv 0) (pa_cons (pe_bltn (v := .ty "tuple") (by rfl) T.m_tuple (by decide +kernel) rfl) pa_nil))))) (pw_or1 (pt_not (pt_chain op_le op_le pe_int (pe_callB call_len_seq (by rfl) T.m_len (by decide +kernel) (pa_cons (pv 0) pa_nil)) (pe_op op_add (pe_glob (v := .int 64) (by rfl) T.c_MOST_DEGREE.choose_spec ⟨_, rfl⟩) pe_int))))))
        (pss_one (ps_ret pe_bl))
        pss_nil)
      (pss_cons (ps_for PassesOwn.never rfl (pi_tup (pv 0)) (pg_name (i := 1) sc_is_step.nd rfl (.inl rfl))
        (pss_one (ps_if (pt_not (pt_val (pe_call (ok_is_number T) (hr.mono (by decide)) (by rfl) T.is_number.g T.is_number.F.kp T.is_number.b .nil pass0 (pa_cons (pv 1) pa_nil))))
          (pss_one (ps_ret pe_bl))
          pss_nil)))
      (pss_one (ps_ret (pe_cmpR op_ne (pe_ix ix_tup (pe_ix ix_tup (pv 0) (pe_un un_neg pe_int) (fun _ _ => rfl)) pe_int (fun _ _ => rfl)) pe_int (nomark _)))))), ?_⟩
    rcases h with ⟨L, ⟨a, vs, rfl, ha, pv⟩, hL, k⟩ | ⟨rfl, k⟩
    · have lv := pLen pv
      have l1 := hL.good.1
      have l2 := hL.len
      refine ⟨_, rfl, _, _, _, _, _, rfl, .ty _, ty_sq ha, kit_tt, _, rfl, iteF ?_⟩
      refine ⟨_, rfl, a, _, rfl, .inr ha, _, _, rfl, rfl, _, rfl, ite2 (fun h => ?_) (fun h => absurd (decide_eq_true (by omega)) h)⟩
      refine ⟨_, _, rfl, rfl, _, _, rfl, rfl, _, rfl, ?_⟩
      rw [show decide (((vs.length : Nat) : Int) ≤ 64 + 1) = true from decide_eq_true (by omega)]
      refine iteF ⟨_, rfl, a, rfl, ⟨_, ha⟩, ?_⟩
      refine for_tup (xs := vs) (fun i σ H' => ∃ x, σ = [some (.ref a), x] ∧ H' = H) ⟨none, rfl, rfl⟩ (fun i σ H' hi hP => ?_) (fun i x σ H' hx hP => ?_) (fun σ H' hP => ?_)
      · obtain ⟨x, rfl, rfl⟩ := hP
        exact ha
      · obtain ⟨x', rfl, rfl⟩ := hP
        obtain ⟨q, hq, rq⟩ := pAt pv hx
        obtain ⟨s1, s2⟩ := hL.sm q (List.mem_of_getElem? hq)
        refine ⟨_, rfl, _, q, rfl, rq, s1, s2, _, rfl, iteF ⟨_, rfl, rfl⟩⟩
      · obtain ⟨x', rfl, rfl⟩ := hP
        have hlast : vs.length - 1 < vs.length := by omega
        obtain ⟨q, hq, b, rb, hb⟩ := pAt pv (List.getElem?_eq_getElem hlast)
        have hne : q ≠ 0 := hL.good.2 q (by rw [List.getLast?_eq_getElem?, ← lv]; exact hq)
        have hat : vs[vs.length - 1]? = some (.ref b) := by rw [List.getElem?_eq_getElem hlast, rb]
        refine ⟨_, rfl, _, rfl, a, _, _, _, rfl, rfl, ha, ?_, b, _, _, _, rfl, rfl, hb, atI_nat (j := 0) rfl, rfl, ?_⟩
        · obtain ⟨us, rfl⟩ : ∃ us, vs = us ++ [V.ref b] := by
            rw [← List.getLast?_eq_getElem?] at hat
            exact List.getLast?_eq_some_iff.mp hat
          exact atI_last _ _
        · have hn0 : q.num ≠ 0 := fun z => hne (Rat.num_eq_zero.mp z)
          rw [show decide (V.int q.num = V.int 0) = false from decide_eq_false fun z => hn0 (V.int.inj z)]
          exact k
    · exact ⟨_, rfl, _, _, _, _, _, rfl, .ty _, .base .non, kit_nt, _, rfl, iteT k⟩
end
end K65
namespace K65
open PySem PySem.W PySem.Calls PyProof.Rows PySem.HandSPX
/-! ### an error of the program's: def __init__(self, f): super().__init__(txt, f); self.f = f -/
def eA (f : Str) (p1 p2 : Pos) : Arguments := { posonlyargs := [], args := [{ arg := "self", annotation := none, pos := p1 }, { arg := f, annotation := none, pos := p2 }], vararg := none, kwonlyargs := [], kw_defaults := [], kwarg := none, defaults := [] }
def eB (f txt : Str) (p : Fin 11 → Pos) : List Stmt :=
  [.Expr (.Call (.Attribute (.Call (.Name "super" (p 0)) [] [] (p 1)) "__init__" (p 2)) [.Constant (.str txt) 0 (p 3), .Name f (p 4)] [] (p 5)) (p 6), .Assign [.Attribute (.Name "self" (p 7)) f (p 8)] (.Name f (p 9)) (p 10)]
def eS (f : Str) : Scope := { kind := .function, names := [("self", .local), (f, .local), ("__class__", .free), ("super", .globalImplicit)], isGenerator := false, isCoroutine := false, more := [] }
/-- what the written part says of such a class, at C, and of its __init__, at fI -/
structure ErrT (P : Program) (K : Frag) (mg : Str → Option Value) (n f txt : Str) (C fI : Addr) : Prop where
  gC : mg n = some (.ref C)
  cls : ∃ nm q N bs bm sn sub ab col dd k0 k1 k2 k3 k5, K.lookup C = some (excClassObj nm q C N bs bm true sn sub ab col dd k0 k1 k2 k3 k5 "ValueError.__new__") ∧ refsVE bm = true
  sa : findIn K (.ref C) "__setattr__" = some (some (.builtin "object.__setattr__"))
  noN : findIn K (.ref C) f = some none
  iC : findIn K (.ref C) "__init__" = some (some (.ref fI))
  tC : typeIn K (.ref fI) = some (.type "function")
  kC : keepIn K (.ref C) = true
  exC : subIn K (.ref C) (.type "BaseException") = some true
  veC : subIn K (.ref C) (.type "ValueError") = some true
  tyC : typeIn K (.ref C) = some (.type "type")
  own : mroIn K C (.ref C) = some true
  sup : ks_superIn K C C "__init__" = some (some (.builtin "ValueError.__init__"))
  opq : nsIn K cStatics "thirdparty.any" = some none
  noS : mg "super" = none
  top : (P.main.scope.names.lookup ("super" : Str)).isSome = false
  fn : ∃ (oc : Value) (od : Option Addr) (doc pm : Value) (an : Option Addr) (cda : Addr) (ct : Value) (cc : Addr) (osl : Array (Option Value)) (q : Str) (p1 p2 : Pos) (p : Fin 11 → Pos),
    K.lookup fI = some ⟨oc, od, .func (ksFn "__init__" q (eA f p1 p2) (eB f txt p) (eS f) .none .none doc pm an (.ref cda) ct cc), osl⟩ ∧ codeIn K (.ref cda) q = true ∧
    ((p 2).endLine == (p 5).line) = true ∧
    (∃ ccl cdd vs ccs file tf, K.lookup cda = some ⟨ccl, cdd, .fields vs, ccs⟩ ∧ vs[2]? = some (.str file tf) ∧ ((P.main.file : Str) == file) = true) ∧ ∃ cl cld csl, K.lookup cc = some ⟨cl, cld, .cell (some (.ref C)), csl⟩
/-- what __init__ leaves of the fresh exception at x -/
structure EndI (h h' : Heap) (x C dx t1 : Addr) (f : Str) (v : Value) : Prop where
  keep : ∀ b o, b ≠ x → h.get? b = some o → h'.get? b = some o
  obj : h'.get? x = some { cls := .ref C, dict := some dx, data := .fields #[.ref t1, .none, .none, .none, .bool false, .none] }
  dbig : h.objs.size ≤ dx
  dne : dx ≠ x
  ns : h'.Ns1 dx (fun y => if y = f then some v else none)
theorem in_but {K : Frag} {h h' : Heap} {x : Addr} (hx : K.lookup x = none) (X : K.In h) (k : ∀ b o, b ≠ x → h.get? b = some o → h'.get? b = some o) : K.In h' := fun a o e => by
  refine k a o (fun z => ?_) (X a o e)
  rw [z, hx] at e
  cases e
section
variable {P : Program} {w : World} {A : Around} {E : Value → Shared → Prop} {R : Result → Shared → Prop} {s : Shared} {K : Frag} {mg : Str → Option Value} {n f txt : Str} {C fI : Addr}
/-- a method is called on one line, of a def whose place is known -/
theorem at_method {c : Code} {env : Env} {o : Expr} {name : Str} {apos pos : Pos} {args : List Expr} {Q : Value → Shared → Prop} (hl : (apos.endLine == pos.line) = true) (hform : methodCallForm (args.length + 0) (backTo pos (starEach args env)) [] = true)
    (h : _root_.PySem.wpAt (model P w) A c (attributeBase o name env (eval o env)) (fun ov s₁ => wpAny (model P w) A (getMethod ov name (do return (← importBound o env).getD true)) (fun fx s₂ => wpAny (model P w) A (callWith pos fx.1 fx.2 (backTo pos (starEach args env)) []) Q E s₂) E s₁) E s) :
    _root_.PySem.wpAt (model P w) A c (eval (.Call (.Attribute o name apos) args [] pos) env) Q E s := by
  have hpos : methodCallPos true o env apos pos = pure pos := by unfold methodCallPos; simp [hl]
  rw [arm_eval_Call]
  refine PySem.wpAt_bind (PySem.wpAt_mono h (fun ov s₁ h₁ => PySem.wpAt_of_wpAny (wpAny_bind (wpAny_standAt ?_))) fun _ _ z => z)
  show wpAny _ _ (methodCall o name apos pos env ov (args.length + 0) _ []) _ _ _
  unfold methodCall
  rw [hform]
  exact wpAny_bind (wpAny_holding (wpAny_mono h₁ (fun fx s₂ h₂ => wpAny_bind (wpAny_of_eq hpos h₂)) fun _ _ z => z))
/-- the bound ValueError.__init__ is called: the object's args are laid anew -/
theorem bound_ve {u e t0 : Addr} {rest : List Value} {h : Heap} {g : Array GenState} {d : Drawn} {t : Nat} {os : OsState} {nm q : Str} {N : Addr} {bs bm : List Value} {sn : List Str} {sub : List Value} {ab : Bool} {col : Option Bool} {dd : Option Addr} {k0 k1 k2 k3 k5 : Option Value} {Q : Value → Shared → Prop}
    (hC : h.get? C = some (excClassObj nm q C N bs bm true sn sub ab col dd k0 k1 k2 k3 k5 "ValueError.__new__")) (he : h.get? e = some (excO C t0)) (hu : h.get? u = some (kxs_mw "ValueError.__init__" e)) (hz : rest.length ≤ sizeLine)
    (hq : ∀ h' t1, (∀ b o, b ≠ e → h.get? b = some o → h'.get? b = some o) → h'.get? e = some (excO C t1) → Q .none ⟨h', g, d, t, os⟩) :
    wpAny (model P w) A (call (.ref u) rest) Q E ⟨h, g, d, t, os⟩ := by
  have tm : (Value.type "method-wrapper" == Value.type "method" || Value.type "method-wrapper" == Value.type "builtin_function_or_method" || Value.type "method-wrapper" == Value.type "method-wrapper") = true := by decide
  refine wpAny_call (codeAny_of_tree ?_)
  show wpAny _ A.in1 (callAny (.ref u) { pos := rest }) _ _ _
  simp only [callAny]
  refine wpAny_bind (wpAny_load hu ?_)
  simp only [kxs_mw, tm, if_true]
  refine KFB.if_so (by decide) (wpAny_bind (check_bound_init F.excBase_ValueError.toExcCallFacts hC he rfl (wpAny_bind (wpAny_pure (wpAny_pure ?_)))))
  refine ⟨plainId_quiet F.excBase_ValueError.init.plain _, codeAny_builtin F.excBase_ValueError.initEntry ?_⟩
  exact exc_init_tree (cls := .ref C) (t0 := t0) (dv := none) (c2 := .none) (c3 := .none) (b4 := .bool false) he hz fun h' k e1 _ => hq h' h.objs.size k e1
theorem err_init (hf : f = "place" ∨ f = "value" ∨ f = "most") (T : ErrT P K mg n f txt C fI) {x t0 : Addr} {v : Value} (X : K.In s.heap) (G : s.heap.Ns mainGlobals mg) (B : ∃ mb, s.heap.Ns builtinsNs mb ∧ ∀ y : Str, y ≠ "__name__" → mb y = bootBuiltins y)
    (hlim : s.heap.NoLimit) (hx : s.heap.get? x = some (excO C t0)) (hnx : K.lookup x = none) (hroom : A.depth < recursionLimit)
    (hq : ∀ h' tk dx t1, EndI s.heap h' x C dx t1 f v → R (.ok (.ret .none)) { s with heap := h', toks := tk }) :
    codeAny (model P w) A (.call (.ref fI) ⟨[.ref x, v], []⟩) R s := by
  obtain ⟨oc, od, doc, pm, an, cda, ct, cc, osl, q, p1, p2, p, ho, hcd, hln, ⟨ccl, cdd, vs, ccs, file, tf, hcode, hvs, hfile⟩, cl, cld, csl, hcell⟩ := T.fn
  obtain ⟨nm, qn, N, bs, bm, sn, sub, ab, col, dd, k0, k1, k2, k3, k5, hC, hbm⟩ := T.cls
  have hcl : clsIn K C = some { name := nm, bases := bs, mro := .ref C :: bm, ns := N, qualname := qn, hasDict := true, slotNames := sn, subclasses := sub, abstract := ab, collection := col, hasDel := false } := by unfold clsIn; rw [hC] <;> rfl
  obtain ⟨mb, hB, hBv⟩ := B
  have hmb : mb "super" = some (.type "super") := (hBv _ (by decide)).trans (by decide +kernel)
  rcases hf with rfl | rfl | rfl
  all_goals
    refine ks_codeAny_call_defAt (fd := ksFn _ _ _ _ _ _ _ _ _ _ _ _ _) (body := eB _ txt p) (binds := [("self", .ref x), (_, v)]) hroom (X _ _ ho) rfl hlim (codeRec_of X hcd) rfl (BindsTo.of_eq (by first | rfl | with_unfolding_all rfl)) (show ∀ y ∈ (eS _).names, y.2 ≠ NameKind.cell by decide) (fun y hy => by rcases List.mem_cons.mp hy with rfl | hy <;> first | rfl | (rw [List.mem_singleton.mp hy]; rfl)) (fun h₁ hns hk₁ => ?_) rfl rfl rfl
    show _root_.PySem.wpAt (model P w) (A.deeper (ksEnv q (eS _) s.heap.objs.size fI (.ref cda) cc)) (.func (eB _ txt p) (ksEnv q (eS _) s.heap.objs.size fI (.ref cda) cc)) (execs (eB _ txt p) (ksEnv q (eS _) s.heap.objs.size fI (.ref cda) cc)) _ _ _
    have X₁ : K.In h₁ := X.keeps hk₁
    have hx₁ := hk₁ _ _ hx
    have hxL : s.heap.objs.size ≠ x := Nat.ne_of_gt (Heap.lt_size hx)
    obtain ⟨hp, g, d, tk, os⟩ := s
    refine ks_wpAt_execs_cons (ks_wpAt_Expr_any (at_method hln rfl ?_))
    refine ks_wpAt_super_base rfl rfl rfl rfl (X₁ _ _ ho) rfl rfl rfl (X₁ _ _ hcode) rfl hvs hfile T.top ?_
    refine ks_loadName_global rfl rfl (loadGlobal_builtin (G.keeps hk₁) T.noS (hB.keeps hk₁) hmb ⟨rfl, ?_⟩)
    refine wpAny_loadName_free rfl rfl rfl ⟨_, X₁ _ _ hcell, rfl⟩ ?_
    refine wpAny_loadName_local rfl rfl hns rfl ?_
    refine ks_wpAny_isType_cls (X₁ _ _ hC) rfl ⟨rfl, ?_⟩
    refine ks_wpAny_call_super (X₁ _ _ hC) rfl hx₁ rfl (fun c e => by cases e) (looks_mroIn X₁ T.own) (fun h₂ e₂ k₂ => ?_)
    have X₂ : K.In h₂ := X₁.keeps k₂
    have hx₂ := k₂ _ _ hx₁
    have I₂ : InstAt h₂ x (excO C t0) C none := ⟨hx₂, rfl, rfl, trivial⟩
    have hsup := T.sup
    unfold ks_superIn at hsup
    rw [hcl] at hsup
    refine kxs_getMethod kxs_ValueError e₂ (looks_opaque X₂ T.opq) (l₀ := .ref C :: bm) (fun A Q E s k q => wpAny_bind ((looks_clsIn X₂ hcl) A _ E s k (wpAny_pure q))) rfl X₂ hsup (I₂.type.andThen (looks_subIn X₂ T.veC)) (ks_ne X₂ I₂ hcl) rfl ?_
    have k₃ : ∀ b o, h₂.get? b = some o → (h₂.push (kxs_mw "ValueError.__init__" x)).get? b = some o := fun b o e => Heap.get?_push_of_some _ e
    have hu : (h₂.push (kxs_mw "ValueError.__init__" x)).get? h₂.objs.size = some (kxs_mw "ValueError.__init__" x) := Heap.get?_push_at rfl rfl
    refine kxs_callWith (i := "ValueError.__init__") (x := x) rfl (evalArgs_plain ?_)
    have hns₃ := (hns.keeps k₂).keeps k₃
    refine spliced_cons (wpAny_Constant_str (pos := p 3) (k := 0) ?_)
    refine spliced_cons (ESX.ldL (v := v) (pos := p 4) hns₃ rfl (spliced_nil ⟨hu, ?_⟩) rfl rfl)
    refine bound_ve (k₃ _ _ (X₂ _ _ hC)) (k₃ _ _ hx₂) hu (show 2 ≤ sizeLine by rw [sizeLine_eq]; decide) (fun h₄ t1 k₄ hx₄ => ?_)
    have kk : ∀ b o, b ≠ x → h₁.get? b = some o → h₄.get? b = some o := fun b o hb e => k₄ b o hb (k₃ _ _ (k₂ _ _ e))
    have X₄ : K.In h₄ := in_but hnx X₁ kk
    have hns₄ := (hns₃).at (fun o q => k₄ _ o hxL q)
    refine PySem.wpAt_of_wpAny (wpAny_execs_cons (plainObj_wpAny_Assign_Attribute ?_))
    refine ESX.ldL (v := v) hns₄ rfl (ESX.ldL (v := .ref x) hns₄ rfl ?_ rfl rfl) rfl rfl
    refine set_plain X₄ (ox := excO C t1) (od := none) ⟨hx₄, rfl, rfl, trivial⟩ T.sa ?_
    refine exc_osa X₄ hx₄ hcl (show refsVE (.ref C :: bm) = true from hbm) rfl T.noN (fun h₅ tk₅ dx k₅ dn dne hx₅ hn₅ => ?_)
    show wpAny _ _ (execs _ _) _ _ _
    refine wpAny_execs_nil (hq h₅ tk₅ dx t1 ⟨fun b o hb e => k₅ b o hb (kk b o hb (hk₁ b o e)), hx₅, ?_, dne, hn₅⟩)
    exact Nat.le_of_lt (Nat.lt_of_lt_of_le hns₄.lt dn)
/-- such an exception, made -/
structure MadeE (h h' : Heap) (e C d : Addr) (f : Str) (v : Value) : Prop where
  keep : ∀ b o, h.get? b = some o → h'.get? b = some o
  new : h.objs.size ≤ e
  obj : ∃ oe vs, h'.get? e = some oe ∧ oe.cls = .ref C ∧ oe.dict = some d ∧ oe.data = .fields vs ∧ vs[1]? = some .none
  dbig : h.objs.size ≤ d
  dne : d ≠ e
  ns : h'.Ns1 d (fun y => if y = f then some v else none)
theorem err_made (hf : f = "place" ∨ f = "value" ∨ f = "most") (T : ErrT P K mg n f txt C fI) {v : Value} (X : K.In s.heap) (G : s.heap.Ns mainGlobals mg) (B : ∃ mb, s.heap.Ns builtinsNs mb ∧ ∀ y : Str, y ≠ "__name__" → mb y = bootBuiltins y)
    (hlim : s.heap.NoLimit) (hroom : A.depth + 1 < recursionLimit) (hq : ∀ h' tk e d, MadeE s.heap h' e C d f v → R (.ok (.ret (.ref e))) { s with heap := h', toks := tk }) :
    codeAny (model P w) A (.call (.ref C) ⟨[v], []⟩) R s := by
  obtain ⟨nm, q, N, bs, bm, sn, sub, ab, col, dd, k0, k1, k2, k3, k5, hC, hbm⟩ := T.cls
  obtain ⟨hp, g, dr, tk, os⟩ := s
  have k : ∀ b o, hp.get? b = some o → ((hp.push (kdv_tup [v])).push (excO C hp.objs.size)).get? b = some o := fun b o e => Heap.get?_push_of_some _ (Heap.get?_push_of_some _ e)
  have at1 : ((hp.push (kdv_tup [v])).push (excO C hp.objs.size)).get? (hp.objs.size + 1) = some (excO C hp.objs.size) := by heap_get
  have unk : K.lookup (hp.objs.size + 1) = none := by
    cases e : K.lookup (hp.objs.size + 1) with
    | none => rfl
    | some o => 
      have lt : hp.objs.size + 1 < hp.objs.size := Heap.lt_size (show hp.get? (hp.objs.size + 1) = some o from X _ _ e)
      exact absurd lt (Nat.not_lt_of_le (Nat.le_succ _))
  obtain ⟨mb, hB, hBv⟩ := B
  refine call_own F.excBase_ValueError (fun X => refsVE_contains X bm hbm) (X _ _ hC) (looks_findIn X T.iC) (fun self => bind_fn X self T.tC) (show 1 ≤ sizeLine by rw [sizeLine_eq]; decide) ?_
  refine err_init hf (s := ⟨(hp.push (kdv_tup [v])).push (excO C hp.objs.size), g, dr, tk, os⟩) T (X.keeps k) (G.keeps k) ⟨mb, hB.keeps k, hBv⟩ (hlim.keeps k) at1 unk (show A.depth + 1 < recursionLimit from hroom) fun h' tk' dx t1 ⟨k', hx, dn, dne, hns⟩ => ?_
  have old : ∀ b o, hp.get? b = some o → h'.get? b = some o := fun b o e => k' b o (Nat.ne_of_lt (Nat.lt_succ_of_lt (Heap.lt_size e))) (k b o e)
  have z : hp.objs.size + 1 + 1 ≤ dx := by
    first
      | (simpa only [Heap.size_push] using dn)
      | exact dn
  exact ⟨rfl, hq h' tk' (hp.objs.size + 1) dx ⟨old, Nat.le_succ _, ⟨_, _, hx, rfl, rfl, rfl, rfl⟩, Nat.le_trans (Nat.le_trans (Nat.le_succ _) (Nat.le_succ _)) z, dne, hns⟩⟩
end
end K65
namespace K65
open PySem PySem.Spec PyProof.Rows L2
theorem relO_one {v : V} {u : Value} (r : RelV v u) (f g : Str) : RelO (List.lookup g [(f, v)]) (if g = f then some u else none) := by
  by_cases e : g = f
  · subst e
    rw [if_pos rfl, show List.lookup g [(g, v)] = some v by simp [List.lookup]]
    exact r
  · rw [if_neg e, show List.lookup g [(f, v)] = none by simp [List.lookup, show (g == f) = false by simpa using e]]
    trivial
section
variable {X : Cx} {n f txt : Str} {C fI : Addr}
/-- X(e) -/
def tMkE (C : Addr) (f : Str) (ta : TA) : L2.St → Hp → XK → Prop := fun σ H Q => ta σ H fun vs H1 => ∃ v, vs = [v] ∧ ∀ d, H1 d = none → Q (.ref C) (some d) (upd H1 d (.xd [(f, v)]))
theorem pmk_err {a : Expr} {ta : TA} {p pos : Pos} {k : Nat} (hf : f = "place" ∨ f = "value" ∨ f = "most") (T : ErrT X.prog X.K X.mg n f txt C fI) (hr : Room k X.A) (ha : PA X [a] ta) (hg : Gl X n)
    (hd : (n == ("__debug__" : Str)) = false := by decide) (he : starEach (a :: []) X.env = (false, eval a X.env) :: starEach [] X.env := by rfl) (hpl : (backTo pos (starEach [] X.env)).any (·.1) = false := by rfl) :
    PMk X (.Call (.Name n p) [a] [] pos) (tMkE C f ta) := by
  intro pins s σ H Q I h
  refine wpAny_Call_Name_kw (ld_glob I hg T.gC ?_ hd)
  refine PySem.W.callWith_K (h₀ := X.base) I.ok.mod.kin T.kC (thn (ha.run pos pins s σ H _ I h) fun us s1 hh => ?_) he hpl
  obtain ⟨vs, H1, I1, r1, v, ev, q1⟩ := hh
  subst ev
  refine ⟨I1.kIn, ?_⟩
  cases r1 with
  | cons rv rn =>
    rename_i v' us'
    cases rn
    show wpAny _ _ (call (.ref C) [v']) _ _ _
    have hlim := I1.nolimit
    have G1 := I1.mod.glob.keeps I1.bk
    obtain ⟨mb, b1, b2⟩ := I1.mod.blt
    have B1 : ∃ mb, s1.heap.Ns builtinsNs mb ∧ ∀ y : Str, y ≠ "__name__" → mb y = bootBuiltins y := ⟨mb, b1.keeps I1.bk, b2⟩
    obtain ⟨hp, g, dr, tk, os⟩ := s1
    refine wpAny_call (err_made hf T I1.kIn G1 B1 hlim (by have := hr.dp; omega) fun h' tk' e d M => ?_)
    show MkP X pins σ Q (.ref e) ⟨h', g, dr, tk', os⟩
    obtain ⟨oe, fv, hoe, hc, hd, hdat, h1⟩ := M.obj
    obtain ⟨G', g1, g2⟩ := restrict h' fun b => decide (b ≠ e)
    have gk : ∀ b, b ≠ e → G'.get? b = h'.get? b := fun b hb => g1 b (decide_eq_true hb)
    have ge : G'.get? e = none := g2 e (by simp)
    have old : ∀ b o, hp.get? b = some o → G'.get? b = some o := fun b o q => (gk b (Nat.ne_of_lt (Nat.lt_of_lt_of_le (Heap.lt_size q) M.new))).trans (M.keep b o q)
    have ob : ObjOk X.prog X.w (upd H1 d (.xd [(f, v)])) G' d (.xd [(f, v)]) := ⟨_, M.ns.at (fun o q => (gk d M.dne).trans q), fun y => relO_one rv f y⟩
    have J : Inv X pins σ (upd H1 d (.xd [(f, v)])) ⟨G', g, dr, tk', os⟩ := I1.laid (t' := tk') old M.dbig ob
    have nd : d ≠ e := M.dne
    refine ⟨e, oe, fv, ⟨G', g, dr, tk', os⟩, _, .ref C, some d, rfl, J, fun b o q => ?_, ge, hoe, ⟨hc, hd⟩, hdat, h1, ?_, rfl, I1.bare, raises_own T.exC T.tyC, q1 d (I1.hok.fresh M.dbig)⟩
    · by_cases hb : b = e
      · rw [hb] at q
        exact absurd (ge.symm.trans q) (by simp)
      · exact (gk b hb).symm.trans q
    · rw [upd_ne (Ne.symm nd)]
      exact I1.hok.fresh M.new
def tRaiseE (C : Addr) (f : Str) (W : WX) (ta : TA) : TS := fun _ σ H => tMkE C f ta σ H fun cls d H' => W cls d σ H'
theorem ps_raiseE {a : Expr} {ta : TA} {W : WX} {p pos pos2 : Pos} {k : Nat} (hf : f = "place" ∨ f = "value" ∨ f = "most") (hc : X.calm = true) (T : ErrT X.prog X.K X.mg n f txt C fI) (hr : Room k X.A) (tk : Takes X W) (ha : PA X [a] ta) (hg : Gl X n)
    (hd : (n == ("__debug__" : Str)) = false := by decide) (he : starEach (a :: []) X.env = (false, eval a X.env) :: starEach [] X.env := by rfl) (hpl : (backTo pos (starEach [] X.env)).any (·.1) = false := by rfl) :
    PS X (.Raise (some (.Call (.Name n p) [a] [] pos)) none pos2) (tRaiseE C f W ta) := ps_raise hc tk (pmk_err hf T hr ha hg hd he hpl)
end
/-- the errors that are raised -/
structure TxE (P : Program) (K : PySem.W.Frag) (mg : Str → Option Value) where
  cRow : Addr
  cPar : Addr
  cBig : Addr
  iRow : Addr
  iPar : Addr
  iBig : Addr
  row : ErrT P K mg "BadRow" "place" "no row" cRow iRow
  par : ErrT P K mg "BadParameter" "value" "not as told" cPar iPar
  big : ErrT P K mg "TooGreat" "most" "too great" cBig iBig
/-- an error comes out: of the class C, its field f as ok tells -/
def Rz (H : Hp) (C : Addr) (f : Str) (ok : Hp → V → Prop) (E : XK) : Prop := ∀ H' d v, Same H H' → H' d = some (.xd [(f, v)]) → ok H' v → E (.ref C) (some d) H'
section
variable {P : Program} {w : World} {K : PySem.W.Frag} {mg : Str → Option Value} {base : Heap}
def spNeedRow (K : PySem.W.Frag) (C : Addr) : Sp := fun vs H Q E => ∃ v, vs = [v] ∧ ((∃ R, RwV K H v R ∧ 1 ≤ R.length ∧ R.length ≤ 8 ∧ (∀ L ∈ R, StepOk L) ∧ ∀ H', Same H H' → Q v H') ∨
  (∃ a x L, v = .ref a ∧ SqT K H a [x, .non] ∧ StV K H x L ∧ StepOk L ∧ Rz H C "place" (fun H' y => ∃ t, y = .ref t ∧ SqT K H' t [.int 1]) E))
theorem ok_need_row (T : Tx K mg) (X : TxE P K mg) : FnOk P w K mg base (L2.CX P w) 4 T.need_row.f T.need_row.fd ["value"] (spNeedRow K X.cRow) := by
  refine T.need_row.F.okX sc_need_row (fun vs H Q E h => ?_) (fun cdv A outer' s H vs Q E hr h => ?_)
  · obtain ⟨v, rfl, _⟩ := h
    rfl
  · obtain ⟨v, rfl, h⟩ := h
    refine ⟨_, (pss_cons (ps_if (PW.pt (pw_or (pt_not (pt_val (pe_callB call_isi (by rfl) T.m_isinstance (by decide +kernel) (pa_cons (pv 0) (pa_cons (pe_bltn (v := .ty "tuple") (by rfl) T.m_tuple (by decide +kernel) rfl) pa_nil))))) (pw_or1 (pt_not (pt_chain op_le op_le pe_int (pe_callB call_len_seq (by rfl) T.m_len (by decide +kernel) (pa_cons (pv 0) pa_nil)) (pe_glob (v := .int 8) (by rfl) T.c_MOST_ROW.choose_spec ⟨_, rfl⟩))))))
        (pss_one ps_never)
        pss_nil)
      (pss_cons (ps_for (passes_of rfl) rfl (pi_enumT (by rfl) T.m_enumerate (pa_cons (pv 0) pa_nil)) (pg_tup (by rfl) (pgs_cons (pg_name (i := 1) sc_need_row.nd rfl (.inl rfl)) (pgs_cons (pg_name (i := 2) sc_need_row.nd rfl (.inl rfl)) pgs_nil)))
        (pss_one (ps_if (pt_not (pt_val (pe_call (ok_is_step T) hr (by rfl) T.is_step.g T.is_step.F.kp T.is_step.b .nil pass0 (pa_cons (pv 2) pa_nil))))
          (pss_one (ps_raiseE (.inl rfl) rfl X.row hr (takes_of rfl rfl rfl rfl) (pa_cons (pe_tup (pa_cons (pv 1) pa_nil)) pa_nil) (by rfl)))
          pss_nil)))
      (pss_one (ps_ret (pv 0))))), ?_⟩
    rcases h with ⟨R, ⟨a, us, rfl, ha, pu⟩, h1, h8, hR, k⟩ | ⟨a, x, L, rfl, ha, hx, hL, k⟩
    · have lu := pLen pu
      refine ⟨_, rfl, _, _, _, _, _, rfl, .ty _, ty_sq ha, kit_tt, _, rfl, iteF ?_⟩
      refine ⟨_, rfl, a, _, rfl, .inr ha, _, _, rfl, rfl, _, rfl, ite2 (fun h => ?_) (fun h => absurd (decide_eq_true (by omega)) h)⟩
      refine ⟨_, _, rfl, rfl, _, rfl, ?_⟩
      rw [show decide (((us.length : Nat) : Int) ≤ 8) = true from decide_eq_true (by omega)]
      refine iteF ⟨_, rfl, a, us, rfl, ha, ?_⟩
      refine for_enumT (xs := us) (fun i σ H' => ∃ x y, σ = [some (.ref a), x, y] ∧ Same H H') ⟨none, none, rfl, Same.refl _⟩ (fun i σ H' hi hP => ?_) (fun i x T0 σ H' hx hP nT => ?_) (fun σ H' hP => ?_)
      · obtain ⟨x, y, rfl, sm⟩ := hP
        exact (Tle.same sm).sq ha
      · obtain ⟨x', y', rfl, sm⟩ := hP
        obtain ⟨L, hL, rL⟩ := pAt pu hx
        refine ⟨T0, _, rfl, sqT upd_same, rfl, _, _, rfl, _, _, rfl, rfl, ?_⟩
        have s2 := sm.trans (same_new (o := .tup [.int (i : Nat), x]) nT)
        refine ⟨_, rfl, _, rfl, .inl ⟨L, rL.mono (Tle.same s2), hR L (List.mem_of_getElem? hL), _, rfl, iteF ⟨_, _, rfl, s2⟩⟩⟩
      · obtain ⟨x', y', rfl, sm⟩ := hP
        exact ⟨_, rfl, k H' sm⟩
    · refine ⟨_, rfl, _, _, _, _, _, rfl, .ty _, ty_sq ha, kit_tt, _, rfl, iteF ?_⟩
      refine ⟨_, rfl, a, _, rfl, .inr ha, _, _, rfl, rfl, _, rfl, iteT ?_⟩
      refine ⟨_, _, rfl, rfl, _, rfl, iteF ⟨_, rfl, a, _, rfl, ha, ?_⟩⟩
      refine for_enumT (xs := [x, .non]) (fun i σ H' => ∃ y z, σ = [some (.ref a), y, z] ∧ Same H H' ∧ i ≤ 1) ⟨none, none, rfl, Same.refl _, by decide⟩ (fun i σ H' hi hP => ?_) (fun i u T0 σ H' hu hP nT => ?_) (fun σ H' hP => ?_)
      · obtain ⟨y, z, rfl, sm, _⟩ := hP
        exact (Tle.same sm).sq ha
      · obtain ⟨y, z, rfl, sm, hi⟩ := hP
        refine ⟨T0, _, rfl, sqT upd_same, rfl, _, _, rfl, _, _, rfl, rfl, ?_⟩
        have s2 := sm.trans (same_new (o := .tup [.int (i : Nat), u]) nT)
        have : i = 0 ∨ i = 1 := by omega
        rcases this with rfl | rfl
        · have eu : u = x := (Option.some.inj hu).symm
          subst eu
          exact ⟨_, rfl, _, rfl, .inl ⟨L, hx.mono (Tle.same s2), hL, _, rfl, iteF ⟨_, _, rfl, s2, Nat.le_refl _⟩⟩⟩
        · have eu : u = .non := (Option.some.inj hu).symm
          subst eu
          refine ⟨_, rfl, _, rfl, .inr ⟨rfl, _, rfl, iteT ?_⟩⟩
          refine ⟨_, rfl, one_line, fun t nt => ⟨_, rfl, fun d nd => ?_⟩⟩
          have s3 := s2.trans (same_new (o := .tup [.int ((1 : Nat) : Int)]) nt)
          refine k _ d _ (s3.trans (same_new nd)) upd_same ⟨t, rfl, sqT ?_⟩
          exact (same_new nd) _ _ upd_same
      · obtain ⟨y, z, rfl, sm, hi⟩ := hP
        exact absurd (show 2 ≤ 1 from hi) (by decide)
/-! ### need_most -/
def spNeedMost (C : Addr) : Sp := fun vs H Q E => ∃ v, vs = [v] ∧ ((∃ i : Int, v = .int i ∧ 1 ≤ i ∧ i ≤ 8 ∧ Q v H) ∨ ((v = .int 0 ∨ v = .int 9 ∨ v = .bl true ∨ v = .non) ∧ Rz H C "value" (fun _ y => y = v) E))
theorem ok_need_most (T : Tx K mg) (X : TxE P K mg) : FnOk P w K mg base (L2.CX P w) 3 T.need_most.f T.need_most.fd ["value"] (spNeedMost X.cPar) := by
  refine T.need_most.F.okX sc_need_most (fun vs H Q E h => ?_) (fun cdv A outer' s H vs Q E hr h => ?_)
  · obtain ⟨v, rfl, _⟩ := h
    rfl
  · obtain ⟨v, rfl, h⟩ := h
    refine ⟨_, (pss_cons (ps_if (pt_not (pt_val (pe_call (ok_is_from T) (hr.mono (by decide)) (by rfl) T.is_from.g T.is_from.F.kp T.is_from.b .nil pass0 (pa_cons (pv 0) (pa_cons pe_int (pa_cons (pe_glob (v := .int 8) (by rfl) T.c_MOST_LETTERS.choose_spec ⟨_, rfl⟩) pa_nil))))))
        (pss_one (ps_raiseE (.inr (.inl rfl)) rfl X.par hr (takes_of rfl rfl rfl rfl) (pa_cons (pv 0) pa_nil) (by rfl)))
        pss_nil)
      (pss_one (ps_ret (pv 0)))), ?_⟩
    have far : Rz H X.cPar "value" (fun _ y => y = v) E → ∀ d, H d = none → E (.ref X.cPar) (some d) (L2.upd H d (.xd [("value", v)])) := fun k d nd => k _ d _ (same_new nd) upd_same rfl
    rcases h with ⟨i, rfl, h1, h8, k⟩ | ⟨h, k⟩
    · exact ⟨_, rfl, _, _, _, rfl, .inl ⟨i, rfl, fun _ => ⟨_, rfl, iteF ⟨_, rfl, k⟩⟩, fun z => absurd ⟨h1, h8⟩ z⟩⟩
    · rcases h with rfl | rfl | h
      · exact ⟨_, rfl, _, _, _, rfl, .inl ⟨_, rfl, fun z => absurd z.1 (by decide), fun _ => ⟨_, rfl, iteT ⟨_, rfl, _, rfl, far k⟩⟩⟩⟩
      · exact ⟨_, rfl, _, _, _, rfl, .inl ⟨_, rfl, fun z => absurd z.2 (by decide), fun _ => ⟨_, rfl, iteT ⟨_, rfl, _, rfl, far k⟩⟩⟩⟩
      · exact ⟨_, rfl, _, _, _, rfl, .inr ⟨h, _, rfl, iteT ⟨_, rfl, _, rfl, far k⟩⟩⟩
end
theorem lev_len (n : Nat) : ∀ i : Nat, (lev n i).length = n ^ i
  | 0 => rfl
  | i + 1 => by
    show (exts n (lev n i)).length = _
    rw [exts_len, lev_len n i, Nat.pow_succ]
theorem allw_len (n i : Nat) : (allw n (i + 1)).length = (allw n i).length + n ^ (i + 1) := by
  show (allw n i ++ lev n (i + 1)).length = _
  rw [List.length_append, lev_len]
theorem pow88 {n i : Nat} (hn : n ≤ 8) (hi : i ≤ 8) : n ^ i ≤ 16777216 := by
  have h1 : n ^ i ≤ 8 ^ i := Nat.pow_le_pow_left hn i
  have h2 : 8 ^ i ≤ 8 ^ 8 := Nat.pow_le_pow_right (by decide) hi
  omega
theorem allw_small {n : Nat} (hn : n ≤ 8) : ∀ i : Nat, i ≤ 8 → (allw n i).length ≤ i * 16777216
  | 0, _ => by simp [allw]
  | i + 1, h => by
    have := allw_small hn i (by omega)
    have := pow88 hn h
    rw [allw_len, Nat.succ_mul]; omega
theorem pow648 {d i : Nat} (hd : d ≤ 64) (hi : i ≤ 8) : d ^ i < 2 ^ 49 := by
  have h1 : d ^ i ≤ 64 ^ i := Nat.pow_le_pow_left hd i
  have h2 : 64 ^ i ≤ 64 ^ 8 := Nat.pow_le_pow_right (by decide) hi
  omega
section
variable {P : Program} {w : World} {K : PySem.W.Frag} {mg : Str → Option Value} {base : Heap}
/-- len of a sequence -/
abbrev rLen (K : PySem.W.Frag) : List V → Hp → VK → Prop := fun xs H Q => ∃ p ys, xs = [.ref p] ∧ (SqL K H p ys ∨ SqT K H p ys) ∧ Q (.int ys.length) H
/-- the rows and the most that the words are made of -/
structure WIn (R : List (List Rat)) (m : Nat) : Prop where
  n1 : 1 ≤ R.length
  n8 : R.length ≤ 8
  m1 : 1 ≤ m
  m8 : m ≤ 8
  ok : ∀ L ∈ R, StepOk L
def spWordsTo (K : PySem.W.Frag) (C : Addr) : Sp := fun vs H Q E => ∃ u R m, vs = [u, .int ((m : Nat) : Int)] ∧ RwV K H u R ∧ WIn R m ∧
  ((400 < (allw R.length m).length ∧ Rz H C "most" (fun _ y => y = .int 400) E) ∨
   ((allw R.length m).length ≤ 400 ∧ (∃ L ∈ R, 256 < (L.length - 1) ^ m) ∧ Rz H C "most" (fun _ y => y = .int 256) E) ∨
   ((allw R.length m).length ≤ 400 ∧ (∀ L ∈ R, (L.length - 1) ^ m ≤ 256) ∧ ∀ H' l zs, Same H H' → H' l = some (.lst zs) → H l = none → Paired (WdV K H') zs (allw R.length m) → Q (.ref l) H'))
theorem ok_words_to (T : Tx K mg) (X : TxE P K mg) : FnOk P w K mg base (L2.CX P w) 3 T.words_to.f T.words_to.fd ["steps", "most"] (spWordsTo K X.cBig) := by
  refine T.words_to.F.okX sc_words_to (fun vs H Q E h => ?_) (fun cdv A outer' s H vs Q E hr h => ?_)
  · obtain ⟨u, R, m, rfl, _⟩ := h
    rfl
  · obtain ⟨u, R, m, rfl, hu, hW, h⟩ := h
    refine ⟨_, (pss_cons (ps_asg (pe_tup (pa_cons pe_int (pa_cons pe_int pa_nil))) (pg_tup (by rfl) (pgs_cons (pg_name (i := 2) sc_words_to.nd rfl (.inl rfl)) (pgs_cons (pg_name (i := 3) sc_words_to.nd rfl (.inl rfl)) pgs_nil))))
      (pss_cons (ps_for (passes_of rfl) rfl (pi_range1 (by rfl) T.m_range (pa_cons (pv 1) pa_nil)) (pg_name (i := 4) sc_words_to.nd rfl (.inl rfl))
        (pss_cons (ps_set (i := 3) sc_words_to.nd rfl (.inl rfl) (pe_op op_mulW (pv 3) (pe_callB call_len_seq (by rfl) T.m_len (by decide +kernel) (pa_cons (pv 0) pa_nil))))
        (pss_one (ps_set (i := 2) sc_words_to.nd rfl (.inl rfl) (pe_op op_add (pv 2) (pv 3))))))
      (pss_cons (ps_if (pt_cmpR op_gt (pv 2) (pe_glob (v := .int 400) (by rfl) T.c_MOST_WORDS.choose_spec ⟨_, rfl⟩) (nomark _))
        (pss_one (ps_raiseE (.inr (.inr rfl)) rfl X.big hr (takes_of rfl rfl rfl rfl) (pa_cons (pe_glob (v := .int 400) (by rfl) T.c_MOST_WORDS.choose_spec ⟨_, rfl⟩) pa_nil) (by rfl)))
        pss_nil)
      (pss_cons (ps_set (i := 6) sc_words_to.nd rfl (.inl rfl) (pe_callB (cr_max rfl) (by rfl) T.m_max (by decide +kernel) (pa_cons (pe_lc (own := [("step", 5)]) (g := gName 5) rfl sc_words_to.nd (pi_tup (pv 0)) (blkOk_by (N := N_words_to) (own := [("step", 5)]) (sc := defScope s_words_to) (by decide +kernel)) (fun _ _ _ _ _ => pg_name (i := 5) sc_words_to.nd rfl (.inl rfl)) (fun _ _ _ _ _ => pts_nil) (fun _ _ _ _ _ => (pe_op (r := rI0 fun i j => .int (i - j)) op_sub (pe_callB (id := "len") (r := rLen K) call_len_seq (by rfl) T.m_len (by decide +kernel) (pa_cons (pv 5) pa_nil)) pe_int))) pa_nil)))
      (pss_cons (ps_set (i := 7) sc_words_to.nd rfl (.inl rfl) pe_int)
      (pss_cons (ps_for (passes_of rfl) rfl (pi_range1 (by rfl) T.m_range (pa_cons (pv 1) pa_nil)) (pg_name (i := 4) sc_words_to.nd rfl (.inl rfl))
        (pss_one (ps_set (i := 7) sc_words_to.nd rfl (.inl rfl) (pe_op op_mulW (pv 7) (pv 6)))))
      (pss_cons (ps_if (pt_cmpR op_gt (pv 7) (pe_glob (v := .int 256) (by rfl) T.c_MOST_DEGREE_OF_WORD.choose_spec ⟨_, rfl⟩) (nomark _))
        (pss_one (ps_raiseE (.inr (.inr rfl)) rfl X.big hr (takes_of rfl rfl rfl rfl) (pa_cons (pe_glob (v := .int 256) (by rfl) T.c_MOST_DEGREE_OF_WORD.choose_spec ⟨_, rfl⟩) pa_nil) (by rfl)))
        pss_nil)
      (pss_cons (ps_par (i := 8) (j := 9) rfl sc_words_to.nd rfl rfl (by decide) rfl rfl (pa_cons (pe_lst pa_nil) (pa_cons (pe_lst (pa_cons (pe_tup pa_nil) pa_nil)) pa_nil)) (by rfl))
      (pss_cons (ps_for (passes_of rfl) rfl (pi_range1 (by rfl) T.m_range (pa_cons (pv 1) pa_nil)) (pg_name (i := 4) sc_words_to.nd rfl (.inl rfl))
        (pss_cons (ps_set (i := 10) sc_words_to.nd rfl (.inl rfl) (pe_lst pa_nil))
        (pss_cons (ps_for (passes_of rfl) rfl (pi_list (pv 9)) (pg_name (i := 11) sc_words_to.nd rfl (.inr rfl))
          (pss_one (ps_expr (pe_bm PySem.F.plainAttrs_list PySem.F.slot_list_extend PySem.F.type_list_extend mt_extend (pv 10) (pa_cons (pe_lc (own := [("letter", 12)]) (g := gName 12) rfl sc_words_to.nd (pi_range1 rfl T.m_range (pa_cons (pe_callB call_len_seq (by rfl) T.m_len (by decide +kernel) (pa_cons (pv 0) pa_nil)) pa_nil)) (blkOk_by (N := N_words_to) (own := [("letter", 12)]) (sc := defScope s_words_to) (by decide +kernel)) (fun _ _ _ _ _ => pg_name (i := 12) sc_words_to.nd rfl (.inl rfl)) (fun _ _ _ _ _ => pts_nil) (fun _ _ _ _ _ => (pe_op (r := rCatA K) op_catA (pv 11) (pe_tup (pa_cons (pv 12) pa_nil))))) pa_nil)))))
        (pss_cons (ps_set (i := 9) sc_words_to.nd rfl (.inl rfl) (pe_callTy call_list_of (by rfl) T.m_list (by decide +kernel) (pa_cons (pv 10) pa_nil)))
        (pss_one (ps_expr (pe_bm PySem.F.plainAttrs_list PySem.F.slot_list_extend PySem.F.type_list_extend mt_extend (pv 8) (pa_cons (pv 9) pa_nil))))))))
      (pss_one (ps_ret (pv 8)))))))))))), ?_⟩
    refine ⟨two_line, fun c0 nc0 => ⟨c0, _, rfl, sqT upd_same, rfl, _, _, rfl, _, _, rfl, rfl, ?_⟩⟩
    have sc0 : Same H (L2.upd H c0 (.tup [.int 0, .int 1])) := same_new nc0
    generalize L2.upd H c0 (.tup [.int 0, .int 1]) = H0 at sc0 ⊢
    obtain ⟨au, us, rfl, hSuH, puH⟩ := id hu
    have hSu := (Tle.same sc0).sq hSuH
    have pu := pMap puH fun _ _ y => StV.mono (Tle.same sc0) y
    have lu := pLen pu
    have n1 := hW.n1
    have n8 := hW.n8
    have m1 := hW.m1
    have m8 := hW.m8
    refine ⟨_, rfl, _, rfl, by omega, by omega, ?_⟩
    rw [Int.toNat_natCast]
    refine for_range (lo := 0) (n := m) (fun i σ H' => ∃ x4, σ = [some (.ref au), some (.int (m : Int)), some (.int ((allw R.length i).length : Int)), some (.int ((R.length ^ i : Nat) : Int)), x4, none, none, none, none, none, none, none, none] ∧ H' = H0)
      ⟨none, rfl, rfl⟩ (fun i σ H' hi hP => ?_) (fun σ H' hP => ?_)
    · obtain ⟨x4, rfl, rfl⟩ := hP
      have b1 := pow88 n8 (i := i) (by omega)
      have e1 : ((R.length ^ i : Nat) : Int) * (us.length : Int) = ((R.length ^ (i + 1) : Nat) : Int) := by rw [lu, ← Int.natCast_mul, Nat.pow_succ]
      refine ⟨_, rfl, _, rfl, au, us, rfl, .inr hSu, _, _, rfl, rfl, ?_, ?_⟩
      · exact wide_mul (a := 25) (b := 4) (by rw [Int.natAbs_natCast]; omega) (by rw [Int.natAbs_natCast]; omega) (by decide) (by decide) (by decide)
      · refine ⟨_, rfl, _, rfl, _, _, rfl, rfl, some (.int (0 + (i : Int))), ?_, rfl⟩
        show [_, _, some (V.int (((allw R.length i).length : Int) + ((R.length ^ i : Nat) : Int) * (us.length : Int))), some (V.int (((R.length ^ i : Nat) : Int) * (us.length : Int))), _, _, _, _, _, _, _, _, _] = _
        rw [e1, allw_len, Int.natCast_add]
    · obtain ⟨x4, rfl, rfl⟩ := hP
      refine ⟨_, rfl, _, _, rfl, rfl, _, rfl, ite2 (fun hgt => ?_) (fun hgt => ?_)⟩
      · have hgt' : (400 : Int) < ((allw R.length m).length : Int) := of_decide_eq_true hgt
        rcases h with ⟨_, k⟩ | ⟨h, _⟩ | ⟨h, _⟩
        · exact ⟨_, rfl, fun d nd => k _ d _ (sc0.trans (same_new nd)) upd_same rfl⟩
        · omega
        · omega
      have hle : (allw R.length m).length ≤ 400 := by
        have : ¬ (400 : Int) < ((allw R.length m).length : Int) := fun z => hgt (decide_eq_true z)
        omega
      refine ⟨_, rfl, au, rfl, ⟨_, hSu⟩, fun D nD => ?_⟩
      refine lc_tup (xs := us) (fun i H2 => Same H' H2 ∧ H2 D = some (.lst (((R.take i).map fun L => (L.length : Int) - 1).map V.int))) ⟨same_new nD, upd_same⟩ (fun i H2 hi hP => (Tle.same hP.1).sq hSu) (fun i x H2 hx hP => ?_) (fun H2 hP => ?_)
      · obtain ⟨sm, eD⟩ := hP
        obtain ⟨L, hL, aL, ls, rfl, hSL, pL⟩ := pAt pu hx
        have hil : i < us.length := (List.getElem?_eq_some_iff.mp hx).1
        have lL := pLen pL
        refine ⟨rfl, _, rfl, aL, ls, rfl, .inr ((Tle.same sm).sq hSL), _, _, rfl, rfl, _, eD, ?_, sameUpd sm nD, ?_⟩
        · rw [List.length_map, List.length_map, List.length_take]
          exact line_of (by omega)
        · rw [upd_same, List.take_add_one, hL, List.map_append, List.map_append, lL]
          rfl
      · obtain ⟨sm, eD⟩ := hP
        rw [List.take_of_length_le (by omega)] at eD
        refine ⟨D, _, rfl, sqL eD, by rw [List.length_map]; omega, fun wd hwm hwx => ?_⟩
        obtain ⟨LM, hLM, rfl⟩ := List.mem_map.mp hwm
        have sM := hW.ok LM hLM
        have g1 := sM.good.1
        have g2 := sM.len
        have eW : (LM.length : Int) - 1 = ((LM.length - 1 : Nat) : Int) := by omega
        rw [eW]
        refine ⟨_, rfl, _, rfl, by omega, by omega, ?_⟩
        rw [Int.toNat_natCast]
        refine for_range (lo := 0) (n := m) (fun i σ H3 => ∃ x4, σ = [some (.ref au), some (.int (m : Int)), some (.int ((allw R.length m).length : Int)), some (.int ((R.length ^ m : Nat) : Int)), x4, none, some (.int ((LM.length - 1 : Nat) : Int)), some (.int (((LM.length - 1) ^ i : Nat) : Int)), none, none, none, none, none] ∧ H3 = H2)
          ⟨x4, rfl, rfl⟩ (fun i σ H3 hi hP => ?_) (fun σ H3 hP => ?_)
        · obtain ⟨x4, rfl, rfl⟩ := hP
          have b1 := pow648 (d := LM.length - 1) (i := i) (by omega) (by omega)
          refine ⟨_, rfl, _, rfl, _, _, rfl, rfl, ?_, some (.int (0 + (i : Int))), ?_, rfl⟩
          · exact wide_mul (a := 49) (b := 7) (by rw [Int.natAbs_natCast]; omega) (by rw [Int.natAbs_natCast]; omega) (by decide) (by decide) (by decide)
          · show [_, _, _, _, _, _, _, some (V.int ((((LM.length - 1) ^ i : Nat) : Int) * ((LM.length - 1 : Nat) : Int))), _, _, _, _, _] = _
            rw [← Int.natCast_mul, Nat.pow_succ]
        · obtain ⟨x4, rfl, rfl⟩ := hP
          have mono : ∀ L ∈ R, (L.length - 1) ^ m ≤ (LM.length - 1) ^ m := fun L hL => by
            have := hwx _ (List.mem_map.mpr ⟨L, hL, rfl⟩)
            exact Nat.pow_le_pow_left (by omega) m
          refine ⟨_, rfl, _, _, rfl, rfl, _, rfl, ite2 (fun hgt2 => ?_) (fun hgt2 => ?_)⟩
          · have hgt' : (256 : Int) < (((LM.length - 1) ^ m : Nat) : Int) := of_decide_eq_true hgt2
            rcases h with ⟨h, _⟩ | ⟨_, _, k⟩ | ⟨_, h, _⟩
            · omega
            · exact ⟨_, rfl, fun d nd => k _ d _ ((sc0.trans sm).trans (same_new nd)) upd_same rfl⟩
            · have := h LM hLM
              omega
          have k : ∀ H' l zs, Same H H' → H' l = some (.lst zs) → H l = none → Paired (WdV K H') zs (allw R.length m) → Q (.ref l) H' := by
            rcases h with ⟨h, _⟩ | ⟨_, ⟨L, hL, h⟩, _⟩ | ⟨_, _, k⟩
            · omega
            · have := mono L hL
              have : ¬ (256 : Int) < (((LM.length - 1) ^ m : Nat) : Int) := fun z => hgt2 (decide_eq_true z)
              omega
            · exact k
          refine ⟨Nat.zero_le _, fun f0 nf0 => ⟨Nat.zero_le _, fun t0 nt0 => ⟨one_line, fun r0 nr0 => ⟨_, _, rfl, ?_⟩⟩⟩⟩
          have s2 : Same H H3 := sc0.trans sm
          have s3 : Same H (L2.upd (L2.upd (L2.upd H3 f0 (.lst [])) t0 (.tup [])) r0 (.lst [.ref t0])) := s2.trans (((same_new nf0).trans (same_new nt0)).trans (same_new nr0))
          have ef0 : (L2.upd (L2.upd (L2.upd H3 f0 (.lst [])) t0 (.tup [])) r0 (.lst [.ref t0])) f0 = some (.lst []) := (same_new nr0) _ _ ((same_new nt0) _ _ upd_same)
          have et0 : (L2.upd (L2.upd (L2.upd H3 f0 (.lst [])) t0 (.tup [])) r0 (.lst [.ref t0])) t0 = some (.tup []) := (same_new nr0) _ _ upd_same
          have nfr : f0 ≠ r0 := ne_of_none ((same_new nt0) _ _ upd_same) nr0
          have nf : H f0 = none := Same.free s2 nf0
          refine ⟨_, rfl, _, rfl, by omega, by omega, ?_⟩
          rw [Int.toNat_natCast]
          refine for_range (lo := 0) (n := m) (fun i σ H' => ∃ r x4 x10 x11, σ = [some (.ref au), some (.int (m : Int)), some (.int ((allw R.length m).length : Int)), some (.int ((R.length ^ m : Nat) : Int)), x4, none, some (.int ((LM.length - 1 : Nat) : Int)), some (.int (((LM.length - 1) ^ m : Nat) : Int)), some (.ref f0), some (.ref r), x10, x11, none] ∧ Same H H' ∧ f0 ≠ r ∧ ∃ fs rs, H' f0 = some (.lst fs) ∧ H' r = some (.lst rs) ∧ Paired (WdV K H') fs (allw R.length i) ∧ Paired (WdV K H') rs (lev R.length i))
            ⟨r0, x4, none, none, rfl, s3, nfr, [], [.ref t0], ef0, upd_same, .nil, .cons ⟨t0, rfl, sqT et0⟩ .nil⟩ (fun i σ H' hi hP => ?_) (fun σ H' hP => ?_)
          · obtain ⟨r, x4, x10, x11, rfl, sm, nfr, fs, rs, ef, er, pf, pr⟩ := hP
            have lv : (lev R.length (i + 1)).length ≤ 400 := Nat.le_trans (lev_le _ hi) hle
            have lf := pLen pf
            have lr := pLen pr
            have la : (allw R.length (i + 1)).length ≤ 400 := Nat.le_trans (allw_mono _ hi) hle
            have la' : (allw R.length (i + 1)).length = (allw R.length i).length + (lev R.length (i + 1)).length := List.length_append
            refine ⟨Nat.zero_le _, fun g0 ng0 => ?_⟩
            have nfg : f0 ≠ g0 := ne_of_none ef ng0
            have nrg : r ≠ g0 := ne_of_none er ng0
            have ngH : H g0 = none := Same.free sm ng0
            refine ⟨_, rfl, r, rfl, ⟨_, sqL ((same_new ng0) _ _ er)⟩, ?_⟩
            refine for_list (xs := rs) (fun j σ H2 => ∃ x11, σ = [some (.ref au), some (.int (m : Int)), some (.int ((allw R.length m).length : Int)), some (.int ((R.length ^ m : Nat) : Int)), some (.int (0 + (i : Int))), none, some (.int ((LM.length - 1 : Nat) : Int)), some (.int (((LM.length - 1) ^ m : Nat) : Int)), some (.ref f0), some (.ref r), some (.ref g0), x11, none] ∧ Same H H2 ∧ Tle H' H2 ∧ H2 f0 = some (.lst fs) ∧ H2 r = some (.lst rs) ∧ ∃ gs, H2 g0 = some (.lst gs) ∧ Paired (WdV K H2) gs (exts R.length ((lev R.length i).take j)))
              ⟨x11, rfl, sm.trans (same_new ng0), .new ng0, (same_new ng0) _ _ ef, (same_new ng0) _ _ er, [], upd_same, .nil⟩ (fun j σ H2 hj hP => ?_) (fun j x σ H2 hx hP => ?_) (fun σ H2 hP => ?_)
            · obtain ⟨x11, rfl, _, _, _, er2, _⟩ := hP
              exact sqL er2
            · obtain ⟨x11, rfl, sm2, tl, ef2, er2, gs, eg, pg⟩ := hP
              obtain ⟨wd, hwd, ru⟩ := pAt pr hx
              have hul := (lev_wlen R.length i (List.mem_of_getElem? hwd)).1
              have lg := pLen pg
              have hjl : j < (lev R.length i).length := (List.getElem?_eq_some_iff.mp hwd).1
              have lext : (exts R.length ((lev R.length i).take (j + 1))).length ≤ 400 := by
                have e1 := exts_len R.length ((lev R.length i).take (j + 1))
                have e2 := exts_len R.length (lev R.length i)
                have e3 : ((lev R.length i).take (j + 1)).length * R.length ≤ (lev R.length i).length * R.length := Nat.mul_le_mul_right _ (by rw [List.length_take]; omega)
                have e4 : (lev R.length (i + 1)).length = (exts R.length (lev R.length i)).length := rfl
                omega
              have et : (lev R.length i).take (j + 1) = (lev R.length i).take j ++ [wd] := by rw [List.take_add_one, hwd]; rfl
              rw [et, exts_snoc, List.length_append, ext1_len] at lext
              have hSu2 : SqT K H2 au us := (Tle.same sm2).sq hSuH
              refine ⟨_, rfl, .inl ⟨rfl, _, sqL eg⟩, _, rfl, au, us, rfl, .inr hSu2, (us.length : Int), rfl, by omega, by omega, fun D nD => ?_⟩
              rw [Int.toNat_natCast, lu]
              refine lc_ext (a := 11) (b := 12) (wv := x) (u := wd) (by decide) (by simp) rfl (ru.mono tl) (by omega) (by omega) nD fun H4 zs s4 eD pz => ?_
              have lz := pLen pz
              rw [ext1_len] at lz
              have eg4 := s4 _ _ eg
              refine ⟨g0, D, gs, zs, rfl, rfl, eg4, eD, Nat.le_of_lt (line_of (by omega)), ?_⟩
              have t4 : Tle H2 (L2.upd H4 g0 (.lst (gs ++ zs))) := (Tle.same s4).trans (.lst eg4)
              refine ⟨_, rfl, sameUpd (sm2.trans s4) ngH, tl.trans t4, by rw [upd_ne nfg]; exact s4 _ _ ef2, by rw [upd_ne nrg]; exact s4 _ _ er2, _, upd_same, ?_⟩
              rw [et, exts_snoc]
              exact pApp (pMap pg fun _ _ y => y.mono t4) (pMap pz fun _ _ y => y.mono (.lst eg4))
            · obtain ⟨x11, rfl, sm2, tl, ef2, er2, gs, eg, pg⟩ := hP
              rw [lr, List.take_length] at pg
              have lg := pLen pg
              have lg' : gs.length = (lev R.length (i + 1)).length := lg
              refine ⟨_, rfl, g0, gs, rfl, .inl (sqL eg), fun q nq => ?_⟩
              have nfq : f0 ≠ q := ne_of_none ef2 nq
              have ef4 : (L2.upd H2 q (.lst gs)) f0 = some (.lst fs) := (same_new nq) _ _ ef2
              have t4 : Tle H2 (L2.upd (L2.upd H2 q (.lst gs)) f0 (.lst (fs ++ gs))) := (Tle.new nq).trans (.lst ef4)
              refine ⟨_, rfl, .inl ⟨rfl, _, sqL ef4⟩, _, rfl, f0, q, fs, gs, rfl, rfl, ef4, upd_same, Nat.le_of_lt (line_of (by omega)), ?_⟩
              refine ⟨q, _, _, _, rfl, sameUpd (sm2.trans (same_new nq)) nf, nfq, _, gs, upd_same, by rw [upd_ne (Ne.symm nfq)]; exact upd_same, ?_, pMap pg fun _ _ y => y.mono t4⟩
              exact pApp (pMap pf fun _ _ y => y.mono (tl.trans t4)) (pMap pg fun _ _ y => y.mono t4)
          · obtain ⟨r, x4, x10, x11, rfl, sm, nfr, fs, rs, ef, er, pf, pr⟩ := hP
            exact ⟨_, rfl, k H' f0 fs sm ef nf pf⟩
end
/-! ### a dict from steps to lists: keys are tuples of tuples -/
def nkFr (q : Rat) : NestedKey := .tup [.num q.num, .num (q.den : Int)]
def nkSt (L : List Rat) : NestedKey := .tup (L.map nkFr)
theorem nkFr_inj {p q : Rat} (h : nkFr p = nkFr q) : p = q := by
  have h2 : [NestedKey.num p.num, .num (p.den : Int)] = [.num q.num, .num (q.den : Int)] := NestedKey.tup.inj h
  injection h2 with h3 h4
  injection h4 with h5 _
  exact (rat_eq_iff p q).mp ⟨NestedKey.num.inj h3, NestedKey.num.inj h5⟩
theorem nkFrs_inj : ∀ {L M : List Rat}, L.map nkFr = M.map nkFr → L = M
  | [], [], _ => rfl
  | [], _ :: _, h => by cases h
  | _ :: _, [], h => by cases h
  | a :: L, b :: M, h => by
    rw [List.map_cons, List.map_cons] at h
    injection h with h1 h2
    rw [nkFr_inj h1, nkFrs_inj h2]
theorem nkSt_inj {L M : List Rat} (h : nkSt L = nkSt M) : L = M := nkFrs_inj (NestedKey.tup.inj h)
theorem nkFrs_depth : ∀ L : List Rat, NestedKey.depthAll (L.map nkFr) ≤ 1
  | [] => by simp [NestedKey.depthAll]
  | q :: L => by
    have := nkFrs_depth L
    have e : NestedKey.depth (nkFr q) = 1 := by simp [nkFr, NestedKey.depth, NestedKey.depthAll]
    rw [List.map_cons, NestedKey.depthAll, e]; omega
theorem nkSt_depth (L : List Rat) : (nkSt L).depth ≤ 8 := by
  have := nkFrs_depth L
  unfold nkSt
  rw [NestedKey.depth]; omega
abbrev DRow := List Rat × Addr × Addr
def ents (rows : List DRow) : List (NestedKey × Addr × Value) := rows.map fun r => (nkSt r.1, r.2.1, .ref r.2.2)
theorem ents_nodup : ∀ {rows : List DRow}, (rows.map (·.1)).Nodup → ((ents rows).map (·.1)).Nodup := fun {rows} h => by
  have e : (ents rows).map (·.1) = (rows.map (·.1)).map nkSt := by unfold ents; rw [List.map_map, List.map_map]; rfl
  rw [e]
  exact List.Pairwise.map nkSt (fun a b hab z => hab (nkSt_inj z)) h
theorem nodup_back {rows : List DRow} (h : ((ents rows).map (·.1)).Nodup) : (rows.map (·.1)).Nodup := by
  have e : (ents rows).map (·.1) = (rows.map (·.1)).map nkSt := by unfold ents; rw [List.map_map, List.map_map]; rfl
  rw [e] at h
  exact (List.pairwise_map.mp h).imp fun hab z => hab (by rw [z])
def DK0 (P : Program) (w : World) (h : Heap) (d : Addr) (rows : List DRow) : Prop :=
  (d == sysModules) = false ∧ ∃ o es ep, h.get? d = some o ∧ o.ExactDict ∧ o.data = .dict es ep ∧ es.toList = (ents rows).map (entryOfKey (nestedKind P w)) ∧ (rows.map (·.1)).Nodup
def DKO (P : Program) (w : World) (d : Addr) (rows : List DRow) : HO := .ext fun h => DK0 P w h d rows
theorem dko_ok {P : Program} {w : World} {H : Hp} {h : Heap} {d : Addr} {rows : List DRow} (x : DK0 P w h d rows) : ObjOk P w H h d (DKO P w d rows) := by
  have ⟨hs, o, es, ep, ho, r⟩ := x
  refine ⟨x, ⟨o, ho⟩, fun h1 h2 p k => ?_⟩
  have ⟨hs, o', es', ep', ho', r'⟩ := (show DK0 P w h1 d rows from p)
  exact ⟨hs, o', es', ep', k o' ho', r'⟩
section
variable {X : Cx} {pins : List (Addr × Obj)} {σ : L2.St} {H : Hp} {s : Shared}
theorem nis_fr (I : Inv X pins σ H s) {v : V} {u : Value} {q : Rat} (h : FrV X.K H v q) (r : RelV v u) : NestedIs s.heap (nkFr q) u := by
  obtain ⟨a, rfl, hS⟩ := h
  obtain rfl : u = .ref a := r
  obtain ⟨its, rv, ⟨o, h1, h2, n, h3⟩, hz⟩ := I.tuple hS
  cases rv with
  | cons r1 rv =>
    cases rv with
    | cons r2 rv =>
      cases rv
      obtain ⟨t1, rfl⟩ := r1
      obtain ⟨t2, rfl⟩ := r2
      exact .tup h1 h2 h3 (.cons (.int _ _) (.cons (.int _ _) .nil))
theorem nis_frs (I : Inv X pins σ H s) : ∀ {vs : List V} {us : List Value} {L : List Rat}, Paired (FrV X.K H) vs L → Vals vs us → NestedAll s.heap (L.map nkFr) us
  | _, _, _, .nil, .nil => .nil
  | _, _, _, .cons f p, .cons r t => .cons (nis_fr I f r) (nis_frs I p t)
theorem nis_st (I : Inv X pins σ H s) {b : Addr} {L : List Rat} (h : StV X.K H (.ref b) L) : (nestedKind X.prog X.w).is s.heap (nkSt L) b := by
  obtain ⟨a, vs, e, hS, pv⟩ := h
  cases e
  obtain ⟨its, rv, ⟨o, h1, h2, n, h3⟩, hz⟩ := I.tuple hS
  exact ⟨.tup h1 h2 h3 (by simpa using nis_frs I pv rv), nkSt_depth L⟩
theorem dk_full (I : Inv X pins σ H s) {d : Addr} {rows : List DRow} (e : H d = some (DKO X.prog X.w d rows)) (hk : ∀ r ∈ rows, StV X.K H (.ref r.2.1) r.1) : (d == sysModules) = false ∧ s.heap.DictOfH (nestedKind X.prog X.w) d (ents rows) := by
  obtain ⟨hs, o, es, ep, ho, hc, hd, he, hn⟩ := (show ObjOk X.prog X.w H s.heap d (DKO X.prog X.w d rows) from I.hok d _ e).1
  refine ⟨hs, o, es, ep, ho, hc, hd, he, fun x hx => ?_, ents_nodup hn⟩
  obtain ⟨r, hr, rfl⟩ := List.mem_map.mp hx
  exact nis_st I (hk r hr)
end
def tDNewN (P : Program) (w : World) : TE := fun _ H Q => ∀ d, H d = none → Q (.ref d) (upd H d (DKO P w d []))
section
variable {X : Cx} {pos cpos apos p : Pos} {o e1 e2 : Expr} {to : TE} {t : TA}
theorem pe_dnewN : PE X (.Dict [] [] pos) (tDNewN X.prog X.w) := ⟨fun pins s σ H Q I h => by
  have lt := I.big
  refine wpAny_Dict_empty ⟨.ref s.heap.objs.size, _, I.laid (a := s.heap.objs.size) (o := DKO X.prog X.w s.heap.objs.size []) (t' := s.toks) (fun _ _ q => Heap.get?_push_of_some _ q) (Nat.le_refl _) ?_, rfl, h _ (I.hok.fresh (Nat.le_refl _))⟩
  exact dko_ok ⟨beq_eq_false_iff_ne.mpr (Ne.symm (Nat.ne_of_lt lt)), _, #[], 0, Heap.get?_push_size _ rfl, ⟨rfl, rfl, rfl⟩, rfl, rfl, .nil⟩⟩
/-- table.setdefault(step, list) -/
def tSetD (P : Program) (w : World) (K : PySem.W.Frag) (to : TE) (t : TA) : TE := fun σ H Q => to σ H fun x H1 => ∃ d rows, x = .ref d ∧ H1 d = some (DKO P w d rows) ∧ t σ H1 fun vs H2 => ∃ b l L, vs = [.ref b, .ref l] ∧ H2 d = some (DKO P w d rows) ∧
  StV K H2 (.ref b) L ∧ (∀ r ∈ rows, StV K H2 (.ref r.2.1) r.1) ∧ rows.length ≤ 1000 ∧ (∀ r ∈ rows, r.1 = L → Q (.ref r.2.2) H2) ∧ ((∀ r ∈ rows, r.1 ≠ L) → Q (.ref l) (upd H2 d (DKO P w d (rows ++ [(L, b, l)]))))
theorem pe_setD (hu : X.A.units + 64 < cLine) (ho : PE X o to) (ha : PA X [e1, e2] t) (hbase : attributeBase o "setdefault" X.env (eval o X.env) = eval o X.env := by rfl)
    (hfew : ((backTo cpos (starEach [e1, e2] X.env)).all (fun x => !x.1) && (backToKw cpos (keywordEach [] X.env)).all (fun x => x.1.isSome) && decide (([e1, e2] : List Expr).length + ([] : List Keyword).length + (if ([] : List Keyword).isEmpty then 0 else 1) < 30)) = true := by rfl)
    (hline : (apos.endLine == cpos.line) = true := by rfl) (hs : starEach [e1, e2] X.env = (false, eval e1 X.env) :: starEach [e2] X.env := by rfl) (hplain : (backTo cpos (starEach [e2] X.env)).any (·.1) = false := by rfl) :
    PE X (.Call (.Attribute o "setdefault" apos) [e1, e2] [] cpos) (tSetD X.prog X.w X.K to t) := by
  refine ⟨fun pins s σ H Q I h => ?_⟩
  refine wpAny_Call_method_late hbase hfew hline rfl (thn (ho.run pins s σ H _ I h) fun v s1 ⟨x, H1, I1, r1, d, rows, ex, ed, q1⟩ => ?_)
  subst ex
  obtain rfl : v = .ref d := r1
  obtain ⟨_, oD, _, _, hD, hX, _⟩ := (show ObjOk X.prog X.w H1 s1.heap d (DKO X.prog X.w d rows) from I1.hok d _ ed).1
  refine ⟨"dict", _, PySem.F.plainAttrs_dict, PySem.F.slot_dict_setdefault, PySem.F.type_dict_setdefault, ⟨oD, hD, hX.1⟩, fun a ea => ?_, ?_⟩
  · cases ea
    exact ⟨oD, hD, hX.2.1⟩
  have hA := ha.run cpos pins s1 σ H1 _ I1 q1
  rw [hs] at hA ⊢
  refine Calls.callWith_builtin (by show (false || (backTo cpos (starEach [e2] X.env)).any (·.1)) = false; rw [hplain]; rfl) (Calls.evalArgs_plain (thn hA fun us s2 ⟨vs, H2, I2, r2, b, l, L, ev, e2, hb, hk, hl, k1, k2⟩ => ?_))
  subst ev
  cases r2 with
  | cons ra r2 =>
    cases r2 with
    | cons rb r2 =>
      cases r2
      cases ra
      cases rb
      obtain ⟨hsm, hm⟩ := dk_full I2 e2 hk
      have hfresh : ∀ p, atKey (ents rows) (nkSt L) = some p → ∃ r ∈ rows, r.1 = L ∧ p.2 = .ref r.2.2 := fun p hp => by
        unfold atKey at hp
        obtain ⟨y, hy, rfl⟩ := Option.map_eq_some_iff.mp hp
        have h1 := List.find?_some hy
        obtain ⟨r, hr, rfl⟩ := List.mem_map.mp (List.mem_of_find?_eq_some hy)
        exact ⟨r, hr, nkSt_inj (of_decide_eq_true h1), rfl⟩
      refine call_setdefault_heap (knd := nestedKind X.prog X.w) (k := nkSt L) (a := b) (by show X.A.in1.units + 8 < cLine; rw [Around.in1_units]; omega) (nis_st I2 hb) hsm hm (fun p hp => ?_) (fun hn h' hm' hs' => ?_) (by unfold ents; rw [List.length_map]; exact Nat.le_of_lt (line_of hl))
      · obtain ⟨r, hr, e, ep⟩ := hfresh p hp
        rw [ep]
        exact ⟨.ref r.2.2, H2, I2.tok _, rfl, k1 r hr e⟩
      · have hne : ∀ r ∈ rows, r.1 ≠ L := fun r hr e => by
          unfold atKey at hn
          have := List.find?_eq_none.mp (Option.map_eq_none_iff.mp hn) _ (List.mem_map.mpr ⟨r, hr, rfl⟩)
          exact this (decide_eq_true (by rw [e]))
        rw [storedH_new hn] at hm'
        obtain ⟨o', es', ep', ho', hc', hd', he', _, hn'⟩ := hm'
        have ee : ents rows ++ [(nkSt L, b, Value.ref l)] = ents (rows ++ [(L, b, l)]) := by unfold ents; rw [List.map_append]; rfl
        rw [ee] at he' hn'
        have J := I2.write (t' := s2.toks + (nestedKind X.prog X.w).draws (nkSt L)) (x := d) (e := d) (o := DKO X.prog X.w d (rows ++ [(L, b, l)])) (by rw [e2]; trivial) (.inl rfl) (fun y o hy e => hs'.extBut y o hy e) ⟨o', ho'⟩ (dko_ok ⟨hsm, o', es', ep', ho', hc', hd', he', nodup_back hn'⟩)
        exact ⟨.ref l, _, J, rfl, k2 hne⟩
/-- list(table.values()) -/
def tVals (P : Program) (w : World) (to : TE) : TE := fun σ H Q => to σ H fun x H1 => ∃ d rows, x = .ref d ∧ H1 d = some (DKO P w d rows) ∧ ∀ p, H1 p = none → Q (.ref p) (upd H1 p (viewO "dict_values" p d))
theorem pe_vals (ho : PE X o to) (hbase : attributeBase o "values" X.env (eval o X.env) = eval o X.env := by rfl) (hline : (apos.endLine == cpos.line) = true := by rfl) : PE X (.Call (.Attribute o "values" apos) [] [] cpos) (tVals X.prog X.w to) := by
  refine ⟨fun pins s σ H Q I h => ?_⟩
  refine wpAny_Call_method0_late hbase hline (thn (ho.run pins s σ H _ I h) fun v s1 ⟨x, H1, I1, r1, d, rows, ex, ed, q1⟩ => ?_)
  subst ex
  obtain rfl : v = .ref d := r1
  obtain ⟨hsm, oD, es, ep, hD, hX, hdat, _⟩ := (show ObjOk X.prog X.w H1 s1.heap d (DKO X.prog X.w d rows) from I1.hok d _ ed).1
  have raw : s1.heap.DictRaw d es ep := ⟨oD, hD, hX, hdat⟩
  refine ⟨"dict", _, PySem.F.plainAttrs_dict, PySem.F.slot_dict_values, PySem.F.type_dict_values, raw.typeIs, fun a ea => ?_, ?_⟩
  · cases ea
    exact ⟨oD, hD, hX.2.1⟩
  refine Calls.callWith_builtin rfl (PySem.evalArgs_none (call_meetsIn PySem.F.slot_dict_values raw.typeIs PySem.F.entry_dict_values (PySem.F.args_dict_values_1 _) (meets_dict_values_raw d hsm) ⟨⟨es, ep, raw⟩, ?_⟩))
  exact ⟨.ref s1.heap.objs.size, _, I1.laid (t' := s1.toks) (fun b u q => Heap.get?_push_of_some _ q) (Nat.le_refl _) (viewO_ok (Heap.get?_push_size _ rfl)), rfl, q1 _ (I1.hok.fresh (Nat.le_refl _))⟩
def rListV (P : Program) (w : World) : List V → Hp → VK → Prop := fun xs H Q => ∃ p d rows, xs = [.ref p] ∧ H p = some (viewO "dict_values" p d) ∧ H d = some (DKO P w d rows) ∧ rows.length ≤ 1000 ∧ ∀ l, H l = none → Q (.ref l) (upd H l (.lst (rows.map fun r => .ref r.2.2)))
theorem vals_rows : ∀ {rows : List DRow} {us : List Value}, us = rows.map (fun r => Value.ref r.2.2) → Vals (rows.map fun r => V.ref r.2.2) us
  | [], _, rfl => .nil
  | r :: rows, _, rfl => .cons rfl (vals_rows rfl)
theorem call_listV (hc : X.calm = true) : CallR X (.type "list") (rListV X.prog X.w) := by
  intro pins s σ H xs us Q I r h
  obtain ⟨p, d, rows, rfl, hp, hd, hl, q⟩ := h
  rw [Vals.ref1 r]
  have hv : s.heap.get? p = some (DSub.viewOb "dict_values" d) := (show ObjOk X.prog X.w H s.heap p (viewO "dict_values" p d) from I.hok p _ hp).1
  obtain ⟨hsm, oD, es, ep, hD, hX, hdat, he, _⟩ := (show ObjOk X.prog X.w H s.heap d (DKO X.prog X.w d rows) from I.hok d _ hd).1
  have raw : s.heap.DictRaw d es ep := ⟨oD, hD, hX, hdat⟩
  have hsz : es.size = rows.length := by rw [size_of_entries he]; unfold ents; rw [List.length_map]
  refine PySem.W.kdl_call (PySem.KdlSrc.rawValues (r := p) (d := d) (es := es) (ep := ep)) (I.ok.hd hc) ⟨⟨_, hv, rfl, rfl⟩, raw⟩ (by rw [hsz]; exact Nat.le_of_lt (line_of hl)) fun h' tk acc c k hS hacc => ?_
  have hn : H s.heap.objs.size = none := I.hok.fresh (Nat.le_refl _)
  have ea : acc.toList = rows.map fun r => Value.ref r.2.2 := by
    refine List.ext_getElem (by rw [Array.length_toList, List.length_map, hacc.1, hsz]) fun i h1 h2 => ?_
    have hi : i < acc.size := by simpa using h1
    obtain ⟨hi', e⟩ := hacc.2 i acc[i] (Array.getElem?_eq_getElem hi)
    rw [Array.getElem_toList, e, List.getElem_map]
    have e2 := entry_at he i
    rw [Array.getElem?_eq_getElem hi'] at e2
    unfold ents at e2
    rw [List.getElem?_map, List.getElem?_eq_getElem (by rw [List.length_map] at h2; exact h2)] at e2
    rw [Option.some.inj e2]
    rfl
  refine ⟨.ref s.heap.objs.size, _, I.laid (t' := tk) k (Nat.le_refl _) ?_, rfl, q _ hn⟩
  exact ⟨by rw [List.length_map]; exact Nat.le_of_lt (line_of hl), acc.toList, c, vals_rows ea, by simpa using hS⟩
end
end K65
namespace K65
/-! ### groups of words by their step -/
abbrev Grps := List (List Rat × List Word)
structure Grp (f : Word → List Rat) (ws : List Word) (G : Grps) : Prop where
  nd : (G.map (·.1)).Nodup
  fil : ∀ g ∈ G, g.2 = ws.filter (fun w => decide (f w = g.1)) ∧ g.2 ≠ []
  cov : ∀ w ∈ ws, ∃ g ∈ G, g.1 = f w
theorem Grp.nil (f : Word → List Rat) : Grp f [] [] := ⟨.nil, (fun g hg => nomatch hg), (fun w hw => nomatch hw)⟩
/-- the word joins its group -/
theorem Grp.old {f : Word → List Rat} {ws : List Word} {G : Grps} (h : Grp f ws G) {j : Nat} {g : List Rat × List Word} {w : Word} (hj : G[j]? = some g) (e : g.1 = f w) : Grp f (ws ++ [w]) (G.set j (g.1, g.2 ++ [w])) := by
  have hl : j < G.length := (List.getElem?_eq_some_iff.mp hj).1
  have hgj : G[j] = g := (List.getElem?_eq_some_iff.mp hj).2
  have em : (G.set j (g.1, g.2 ++ [w])).map (·.1) = G.map (·.1) := by
    rw [List.map_set]
    have : (G.map (·.1))[j]? = some g.1 := by rw [List.getElem?_map, hj]; rfl
    obtain ⟨h1, h2⟩ := List.getElem?_eq_some_iff.mp this
    rw [← h2, List.set_getElem_self]
  refine ⟨by rw [em]; exact h.nd, fun g' hg' => ?_, fun u hu => ?_⟩
  · obtain ⟨i, hi, ei⟩ := List.mem_iff_getElem.mp hg'
    rw [List.length_set] at hi
    rw [List.getElem_set] at ei
    by_cases hij : j = i
    · rw [if_pos hij] at ei
      subst ei
      have hf := (h.fil g (List.mem_of_getElem? hj)).1
      refine ⟨?_, by simp⟩
      show g.2 ++ [w] = (ws ++ [w]).filter fun u => decide (f u = g.1)
      rw [List.filter_append, ← hf]
      simp [e]
    · rw [if_neg hij] at ei
      subst ei
      have hgi : G[i] ∈ G := List.getElem_mem hi
      obtain ⟨h1, h2⟩ := h.fil _ hgi
      have hne : f w ≠ G[i].1 := fun z => by
        have nd := h.nd
        have := (List.getElem_inj (i := i) (j := j) (h₀ := by rw [List.length_map]; exact hi) (h₁ := by rw [List.length_map]; exact hl) nd).mp (by rw [List.getElem_map, List.getElem_map, hgj, ← z, e])
        exact hij this.symm
      refine ⟨?_, h2⟩
      rw [List.filter_append, ← h1]
      simp [hne]
  · rcases List.mem_append.mp hu with hu | hu
    · obtain ⟨g', hg', e'⟩ := h.cov u hu
      have : g'.1 ∈ (G.set j (g.1, g.2 ++ [w])).map (·.1) := by rw [em]; exact List.mem_map.mpr ⟨g', hg', rfl⟩
      obtain ⟨g2, h2, e2⟩ := List.mem_map.mp this
      exact ⟨g2, h2, e2.trans e'⟩
    · rw [List.mem_singleton.mp hu]
      exact ⟨(g.1, g.2 ++ [w]), List.mem_iff_getElem.mpr ⟨j, by rw [List.length_set]; exact hl, by rw [List.getElem_set_self]⟩, e⟩
theorem Grp.new {f : Word → List Rat} {ws : List Word} {G : Grps} (h : Grp f ws G) {w : Word} (e : ∀ g ∈ G, g.1 ≠ f w) : Grp f (ws ++ [w]) (G ++ [(f w, [w])]) := by
  refine ⟨?_, fun g hg => ?_, fun u hu => ?_⟩
  · rw [List.map_append]
    refine List.nodup_append.mpr ⟨h.nd, by simp, fun a ha b hb z => ?_⟩
    obtain ⟨g, hg, rfl⟩ := List.mem_map.mp ha
    simp only [List.map_cons, List.map_nil, List.mem_singleton] at hb
    exact e g hg (z.trans hb)
  · rcases List.mem_append.mp hg with hg | hg
    · obtain ⟨h1, h2⟩ := h.fil g hg
      refine ⟨?_, h2⟩
      rw [List.filter_append, ← h1]
      have hne : ¬ f w = g.1 := fun z => e g hg z.symm
      simp [hne]
    · rw [List.mem_singleton.mp hg]
      refine ⟨?_, by simp⟩
      have : ws.filter (fun u => decide (f u = f w)) = [] := by
        refine List.filter_eq_nil_iff.mpr fun u hu z => ?_
        obtain ⟨g', hg', e'⟩ := h.cov u hu
        exact e g' hg' (e'.trans (of_decide_eq_true z))
      show [w] = (ws ++ [w]).filter fun u => decide (f u = f w)
      rw [List.filter_append, this]
      simp
  · rcases List.mem_append.mp hu with hu | hu
    · obtain ⟨g, hg, e'⟩ := h.cov u hu
      exact ⟨g, List.mem_append_left _ hg, e'⟩
    · rw [List.mem_singleton.mp hu]
      exact ⟨_, List.mem_append_right _ (List.mem_singleton.mpr rfl), rfl⟩
end K65
namespace K65
open PySem PySem.Spec PyProof.Rows L2
theorem pairOf {α β : Type} {R : α → β → Prop} : ∀ {l₁ : List α} {l₂ : List β}, l₁.length = l₂.length → (∀ (i : Nat) (x : α) (y : β), l₁[i]? = some x → l₂[i]? = some y → R x y) → Paired R l₁ l₂
  | [], [], _, _ => .nil
  | [], _ :: _, h, _ => by simp at h
  | _ :: _, [], h, _ => by simp at h
  | a :: l, b :: m, h, k => .cons (k 0 a b rfl rfl) (pairOf (by simpa using h) fun i x y hx hy => k (i + 1) x y (by simpa using hx) (by simpa using hy))
theorem Tle.ext {H : Hp} {p : Addr} {o : HO} {φ : Heap → Prop} (h : H p = some (.ext φ)) : Tle H (upd H p o) := fun a xs r => by
  have ne : a ≠ p := fun e => by
    rcases r with r | ⟨_, r⟩ <;> rw [e, h] at r <;> cases r
  rcases r with r | ⟨u, r⟩
  · exact .inl (by rw [upd_ne ne]; exact r)
  · exact .inr ⟨u, by rw [upd_ne ne]; exact r⟩
/-- a list of words -/
def GrV (K : PySem.W.Frag) (H : Hp) (a : Addr) (g : List Word) : Prop := ∃ zs, H a = some (.lst zs) ∧ Paired (WdV K H) zs g
theorem GrV.keep {K : PySem.W.Frag} {H H' : Hp} {a : Addr} {g : List Word} (h : GrV K H a g) (t : Tle H H') (e : H' a = H a) : GrV K H' a g := by
  obtain ⟨zs, h1, h2⟩ := h
  exact ⟨zs, e.trans h1, pMap h2 fun _ _ y => y.mono t⟩
structure WSmall (R : List (List Rat)) (m n : Nat) : Prop where
  n1 : 1 ≤ n
  n3 : n ≤ 3
  p : n ^ m ≤ 256
  l : ∀ L ∈ R, Ltr L ∧ L.length ≤ n + 1
theorem WSmall.deg {R : List (List Rat)} {m n : Nat} (h : WSmall R m n) : ∀ L ∈ R, (L.length - 1) ^ m ≤ 256 := fun L hL =>
  Nat.le_trans (Nat.pow_le_pow_left (by have := (h.l L hL).2; omega) m) h.p
theorem WSmall.wd {R : List (List Rat)} {m n : Nat} (h : WSmall R m n) (hm : m ≤ 8) {w : Word} (hw : w ∈ allw R.length m) : WdIn R n w := by
  obtain ⟨h1, h2, h3⟩ := (mem_allw R.length m).mp hw
  have hl : 0 < w.length := List.length_pos_iff.mpr h1
  exact ⟨⟨h.n1, h.n3, hl, by omega, Nat.le_trans (Nat.pow_le_pow_right h.n1 h2) h.p⟩, h3, h.l⟩
section
variable {P : Program} {w : World} {K : PySem.W.Frag} {mg : Str → Option Value} {base : Heap}
def spClasses (K : PySem.W.Frag) (C : Addr) : Sp := fun vs H Q E => ∃ u R m, vs = [u, .int ((m : Nat) : Int)] ∧ RwV K H u R ∧ WIn R m ∧
  ((400 < (allw R.length m).length ∧ Rz H C "most" (fun _ y => y = .int 400) E) ∨
   ((allw R.length m).length ≤ 400 ∧ (∃ L ∈ R, 256 < (L.length - 1) ^ m) ∧ Rz H C "most" (fun _ y => y = .int 256) E) ∨
   ((allw R.length m).length ≤ 400 ∧ (∃ n, WSmall R m n) ∧ ∀ H' l ls G, Same H H' → H' l = some (.lst (ls.map V.ref)) → H l = none → (∀ a ∈ ls, H a = none) → Paired (fun a g => GrV K H' a g.2) ls G → Grp (wstep R) (allw R.length m) G → Q (.ref l) H'))
theorem ok_classes_so (T : Tx K mg) (X : TxE P K mg) : FnOk P w K mg base (L2.CX P w) 5 T.classes_so.f T.classes_so.fd ["steps", "most"] (spClasses K X.cBig) := by
  refine T.classes_so.F.okX sc_classes_so (fun vs H Q E h => ?_) (fun cdv A outer' s H vs Q E hr h => ?_)
  · obtain ⟨u, R, m, rfl, _⟩ := h
    rfl
  · obtain ⟨u, R, m, rfl, hu, hW, h⟩ := h
    refine ⟨_, (pss_cons (ps_set (i := 2) sc_classes_so.nd rfl (.inl rfl) pe_dnewN)
      (pss_cons (ps_for (passes_of rfl) rfl (pi_list (pe_callS (ok_words_to T X) (hr.mono (by decide)) (by rfl) T.words_to.g T.words_to.F.kp T.words_to.b (fun σ => passAt (takes_of rfl rfl rfl rfl) σ) (pa_cons (pv 0) (pa_cons (pv 1) pa_nil)))) (pg_name (i := 3) sc_classes_so.nd rfl (.inl rfl))
        (pss_cons (ps_set (i := 4) sc_classes_so.nd rfl (.inl rfl) (pe_call (ok_as_step T) (hr.mono (by decide)) (by rfl) T.as_step.g T.as_step.F.kp T.as_step.b .nil pass0 (pa_cons (pe_call (ok_word_poly T) hr (by rfl) T.word_poly.g T.word_poly.F.kp T.word_poly.b .nil pass0 (pa_cons (pv 0) (pa_cons (pv 3) pa_nil))) pa_nil)))
        (pss_one (ps_expr (pe_bm PySem.F.plainAttrs_list PySem.F.slot_list_append PySem.F.type_list_append mt_append (pe_setD (by have := hr.un; show (A.deeper (envOfC "classes_so" (defScope s_classes_so) s.heap.objs.size T.classes_so.f cdv)).units + 64 < cLine; omega) (pv 2) (pa_cons (pv 4) (pa_cons (pe_lst pa_nil) pa_nil))) (pa_cons (pv 3) pa_nil))))))
      (pss_one (ps_ret (pe_callTy (call_listV rfl) (by rfl) T.m_list (by decide +kernel) (pa_cons (pe_vals (pv 2)) pa_nil)))))), ?_⟩
    refine fun d nd => ?_
    have s0 : Same H (L2.upd H d (DKO P w d [])) := same_new nd
    have far : ∀ {c : V}, Rz H X.cBig "most" (fun _ y => y = c) E → Rz (L2.upd H d (DKO P w d [])) X.cBig "most" (fun _ y => y = c) E := fun {c} k H' d' v sm e ok => k H' d' v (s0.trans sm) e ok
    refine ⟨_, rfl, _, rfl, u, R, m, rfl, hu.mono (Tle.same s0), hW, ?_⟩
    rcases h with ⟨h1, k⟩ | ⟨h1, h2, k⟩ | ⟨h1, ⟨n, hS⟩, k⟩
    · exact .inl ⟨h1, far k⟩
    · exact .inr (.inl ⟨h1, h2, far k⟩)
    refine .inr (.inr ⟨h1, hS.deg, fun H1 l0 zs s1 el nl0 pz => ⟨l0, rfl, ⟨_, sqL el⟩, ?_⟩⟩)
    have lz := pLen pz
    have nlH : H l0 = none := Same.free s0 nl0
    have ndl : d ≠ l0 := fun e => by rw [← e, upd_same] at nl0; cases nl0
    have m8 := hW.m8
    refine for_list (xs := zs) (fun i σ H' => ∃ rows G x3 x4, σ = [some u, some (.int (m : Int)), some (.ref d), x3, x4] ∧ Same H H' ∧ Tle H1 H' ∧ H' l0 = some (.lst zs) ∧ H' d = some (DKO P w d rows) ∧ (∀ r ∈ rows, StV K H' (.ref r.2.1) r.1) ∧ Paired (fun (r : DRow) g => r.1 = g.1 ∧ GrV K H' r.2.2 g.2) rows G ∧
        (rows.map (·.2.2)).Nodup ∧ (∀ r ∈ rows, H r.2.2 = none ∧ r.2.2 ≠ l0) ∧ Grp (wstep R) ((allw R.length m).take i) G ∧ rows.length ≤ i)
      ⟨[], [], none, none, rfl, s0.trans s1, Tle.refl _, el, s1 _ _ upd_same, (fun r hr => nomatch hr), .nil, .nil, (fun r hr => nomatch hr), .nil _, Nat.le_refl _⟩ (fun i σ H' hi hP => ?_) (fun i x σ H' hx hP => ?_) (fun σ H' hP => ?_)
    · obtain ⟨rows, G, x3, x4, rfl, _, _, el', _⟩ := hP
      exact sqL el'
    · obtain ⟨rows, G, x3, x4, rfl, sm, tl, el', ed, hk, pg, nd2, fr, gr, hlen⟩ := hP
      obtain ⟨wd, hwd, rw⟩ := pAt pz hx
      have hil : i < (allw R.length m).length := (List.getElem?_eq_some_iff.mp hwd).1
      have hin := hS.wd m8 (List.mem_of_getElem? hwd)
      refine ⟨_, rfl, _, rfl, _, _, R, n, wd, rfl, hu.mono (Tle.same sm), rw.mono tl, hin, fun H2 v s2 hv => ?_⟩
      have hl9 : (wstep R wd).length ≤ 900 := by
        have hw1 : 1 ≤ wd.length := hin.ok.k1
        cases wd with
        | nil => simp at hw1
        | cons i0 wr =>
          have := wpart_ok (a := R.getD i0 []) (r := wr.map fun i => R.getD i []) (n := n) (hin.at List.mem_cons_self) (fun L hL => by
            obtain ⟨j, hj, rfl⟩ := List.mem_map.mp hL
            exact hin.at (List.mem_cons_of_mem _ hj)) wr.length (by rw [List.length_map]; exact Nat.le_refl _)
          rw [List.take_of_length_le (by rw [List.length_map]; exact Nat.le_refl _)] at this
          have hp := hin.ok.p
          have h2 : (wstep R (i0 :: wr)).length ≤ n ^ (wr.length + 1) + 1 := this.2
          have h3 : n ^ (wr.length + 1) ≤ 256 := hp
          omega
      refine ⟨v, 8400, wstep R wd, rfl, hv, by decide, hl9, fun H3 sv s3 hsv => ?_⟩
      obtain ⟨b, svs, rfl, hSb, psv⟩ := id hsv
      have s23 : Same H' H3 := s2.trans s3
      have ed3 := s23 _ _ ed
      refine ⟨_, rfl, d, rows, rfl, ed3, _, rfl, Nat.zero_le _, fun l nl => ?_⟩
      have s34 : Same H3 (L2.upd H3 l (.lst [])) := same_new nl
      have sA : Same H' (L2.upd H3 l (.lst [])) := s23.trans s34
      have ed4 := s34 _ _ ed3
      have nlH4 : H l = none := Same.free (sm.trans s23) nl
      have hk4 : ∀ r ∈ rows, StV K (L2.upd H3 l (.lst [])) (.ref r.2.1) r.1 := fun r hr => (hk r hr).mono (Tle.same sA)
      have ndH : H d = none := nd
      refine ⟨b, l, wstep R wd, rfl, ed4, hsv.mono (Tle.same s34), hk4, by omega, fun r hr e => ?_, fun hne => ?_⟩
      · obtain ⟨j, hj, ej⟩ := List.mem_iff_getElem.mp hr
        have hj' : rows[j]? = some r := by rw [List.getElem?_eq_getElem hj, ej]
        obtain ⟨g, hg, eg, gs, egs, pgs⟩ := pAt pg hj'
        have egs4 := sA _ _ egs
        have lgs := pLen pgs
        have hfil := (gr.fil g (List.mem_of_getElem? hg)).1
        have hgl : g.2.length ≤ 400 := by
          rw [hfil]
          have := List.length_filter_le (fun u => decide (wstep R u = g.1)) ((allw R.length m).take i)
          rw [List.length_take] at this
          omega
        obtain ⟨f1, f2⟩ := fr r hr
        refine ⟨.inl ⟨rfl, _, sqL egs4⟩, _, rfl, r.2.2, gs, _, rfl, rfl, egs4, ?_, ?_⟩
        · exact line_of (by omega)
        · have tF : Tle (L2.upd H3 l (.lst [])) (L2.upd (L2.upd H3 l (.lst [])) r.2.2 (.lst (gs ++ [x]))) := .lst egs4
          have tA : Tle H' (L2.upd (L2.upd H3 l (.lst [])) r.2.2 (.lst (gs ++ [x]))) := (Tle.same sA).trans tF
          have ndr : d ≠ r.2.2 := fun z => by rw [← z, ed4] at egs4; cases egs4
          refine ⟨rows, G.set j (g.1, g.2 ++ [wd]), _, _, rfl, sameUpd (sm.trans sA) f1, tl.trans tA, ?_, ?_, fun r' hr' => (hk r' hr').mono tA, ?_, nd2, fr, ?_, by omega⟩
          · rw [upd_ne (Ne.symm f2)]; exact sA _ _ el'
          · rw [upd_ne ndr]; exact ed4
          · refine pairOf (by rw [List.length_set]; exact pLen pg) fun q r' g' hq hg' => ?_
            obtain ⟨g0, hg0, e0, k0⟩ := pAt pg hq
            rw [List.getElem?_set] at hg'
            by_cases hjq : j = q
            · subst hjq
              rw [if_pos rfl, if_pos (by rw [← pLen pg]; exact hj)] at hg'
              have := Option.some.inj hg'
              subst this
              rw [hj'] at hq
              have := Option.some.inj hq
              subst this
              exact ⟨eg, gs ++ [x], upd_same, pSnoc (pMap pgs fun _ _ y => y.mono tA) ((rw.mono tl).mono tA)⟩
            · rw [if_neg hjq, hg0] at hg'
              have := Option.some.inj hg'
              subst this
              have hql : q < rows.length := (List.getElem?_eq_some_iff.mp hq).1
              have hneq : r'.2.2 ≠ r.2.2 := fun z => by
                have := (List.getElem_inj (i := q) (j := j) (h₀ := by rw [List.length_map]; exact hql) (h₁ := by rw [List.length_map]; exact hj) nd2).mp (by
                  rw [List.getElem_map, List.getElem_map, ej, (List.getElem?_eq_some_iff.mp hq).2, z])
                exact hjq this.symm
              refine ⟨e0, k0.keep tA ?_⟩
              obtain ⟨zs0, ez0, _⟩ := k0
              rw [upd_ne hneq, ez0]
              exact sA _ _ ez0
          · have et : (allw R.length m).take (i + 1) = (allw R.length m).take i ++ [wd] := by rw [List.take_add_one, hwd]; rfl
            rw [et]
            exact gr.old hg (eg.symm.trans e)
      · have eL5 : (L2.upd (L2.upd H3 l (.lst [])) d (DKO P w d (rows ++ [(wstep R wd, b, l)]))) l = some (.lst []) := by
          have : l ≠ d := fun z => by rw [z, ed3] at nl; cases nl
          rw [upd_ne this]; exact upd_same
        refine ⟨.inl ⟨rfl, _, sqL eL5⟩, _, rfl, l, [], _, rfl, rfl, eL5, by decide, ?_⟩
        have t5 : Tle (L2.upd H3 l (.lst [])) (L2.upd (L2.upd H3 l (.lst [])) d (DKO P w d (rows ++ [(wstep R wd, b, l)]))) := .ext ed4
        have t6 : Tle (L2.upd H3 l (.lst [])) (L2.upd (L2.upd (L2.upd H3 l (.lst [])) d (DKO P w d (rows ++ [(wstep R wd, b, l)]))) l (.lst ([] ++ [x]))) := t5.trans (.lst eL5)
        have tA := (Tle.same sA).trans t6
        have hld : l ≠ d := fun z => by rw [z, ed3] at nl; cases nl
        have hll : l ≠ l0 := fun z => by rw [z, s23 _ _ el'] at nl; cases nl
        refine ⟨rows ++ [(wstep R wd, b, l)], G ++ [(wstep R wd, [wd])], _, _, rfl, sameUpd (sameUpd (sm.trans sA) ndH) nlH4, tl.trans tA, ?_, ?_, fun r' hr' => ?_, ?_, ?_, fun r' hr' => ?_, ?_, by rw [List.length_append, List.length_singleton]; omega⟩
        · rw [upd_ne (Ne.symm hll), upd_ne (Ne.symm ndl)]; exact sA _ _ el'
        · rw [upd_ne (Ne.symm hld)]; exact upd_same
        · rcases List.mem_append.mp hr' with hr' | hr'
          · exact (hk r' hr').mono tA
          · rw [List.mem_singleton.mp hr']
            exact (hsv.mono (Tle.same s34)).mono t6
        · refine pApp (pairOf (pLen pg) fun q r' g' hq hg' => ?_) (.cons ⟨rfl, [] ++ [x], upd_same, .cons ((rw.mono tl).mono tA) .nil⟩ .nil)
          obtain ⟨g0, hg0, e0, k0⟩ := pAt pg hq
          rw [hg0] at hg'
          have := Option.some.inj hg'
          subst this
          refine ⟨e0, k0.keep tA ?_⟩
          obtain ⟨zs0, ez0, _⟩ := k0
          have h3z := s23 _ _ ez0
          have n1 : r'.2.2 ≠ l := fun z => by rw [z, nl] at h3z; cases h3z
          have n2 : r'.2.2 ≠ d := fun z => by rw [z, ed] at ez0; cases ez0
          rw [upd_ne n1, upd_ne n2, ez0]
          exact sA _ _ ez0
        · rw [List.map_append]
          refine List.nodup_append.mpr ⟨nd2, by simp, fun a ha c hc z => ?_⟩
          simp only [List.map_cons, List.map_nil, List.mem_singleton] at hc
          obtain ⟨r', hr', rfl⟩ := List.mem_map.mp ha
          obtain ⟨q, hq, eq⟩ := List.mem_iff_getElem.mp hr'
          obtain ⟨g0, _, _, zs0, ez0, _⟩ := pAt pg (show rows[q]? = some r' by rw [List.getElem?_eq_getElem hq, eq])
          have h3z := s23 _ _ ez0
          rw [z, hc, nl] at h3z
          cases h3z
        · rcases List.mem_append.mp hr' with hr' | hr'
          · exact fr r' hr'
          · rw [List.mem_singleton.mp hr']
            exact ⟨nlH4, hll⟩
        · have et : (allw R.length m).take (i + 1) = (allw R.length m).take i ++ [wd] := by rw [List.take_add_one, hwd]; rfl
          rw [et]
          refine gr.new fun g hg z => ?_
          obtain ⟨q, hq, eq⟩ := List.mem_iff_getElem.mp hg
          obtain ⟨r', hr', e', _⟩ := pAtR pg (show G[q]? = some g by rw [List.getElem?_eq_getElem hq, eq])
          exact hne r' (List.mem_of_getElem? hr') (e'.trans z)
    · obtain ⟨rows, G, x3, x4, rfl, sm, tl, el', ed, hk, pg, nd2, fr, gr, hlen⟩ := hP
      rw [lz, List.take_length] at gr
      refine ⟨_, rfl, d, rows, rfl, ed, fun p np => ⟨p, d, rows, rfl, upd_same, (same_new np) _ _ ed, by omega, fun l nl => ?_⟩⟩
      have s5 := (same_new (o := viewO "dict_values" p d) np).trans (same_new (o := .lst (rows.map fun r => V.ref r.2.2)) nl)
      refine k _ l (rows.map (·.2.2)) G (sm.trans s5) (by rw [upd_same, List.map_map]; rfl) (Same.free (sm.trans (same_new (o := viewO "dict_values" p d) np)) nl) (fun a ha => by
        obtain ⟨r, hr, rfl⟩ := List.mem_map.mp ha
        exact (fr r hr).1) ?_ gr
      refine pairOf (by rw [List.length_map]; exact pLen pg) fun q a g hq hg => ?_
      rw [List.getElem?_map] at hq
      obtain ⟨r, hr, rfl⟩ := Option.map_eq_some_iff.mp hq
      obtain ⟨g0, hg0, e0, k0⟩ := pAt pg hr
      rw [hg0] at hg
      have := Option.some.inj hg
      subst this
      refine k0.keep (Tle.same s5) ?_
      obtain ⟨zs0, ez0, _⟩ := k0
      rw [ez0]
      exact s5 _ _ ez0
end
end K65
namespace K65
/-! ### pairs of words -/
def dueOf (f : Word → List Rat) : List Word → List (Word × Word)
  | [] => []
  | u :: l => (l.filter fun v => decide (f u = f v ∧ u.head? ≠ v.head?)).map (fun v => (u, v)) ++ dueOf f l
def prs (l : List Word) : List (Word × Word) := dueOf (fun _ => []) l
def foundOf (G : Grps) : List (Word × Word) := G.flatMap fun g => prs g.2
def pLt (p q : Word × Word) : Bool := wLt p.1 q.1 || (decide (p.1 = q.1) && wLt p.2 q.2)
theorem mem_due {f : Word → List Rat} : ∀ {ws : List Word}, (ws.Pairwise fun u v => wLt u v = true) → ∀ {u v : Word}, (u, v) ∈ dueOf f ws ↔ (u ∈ ws ∧ v ∈ ws ∧ wLt u v = true ∧ f u = f v ∧ u.head? ≠ v.head?)
  | [], _, u, v => by simp [dueOf]
  | a :: ws, h, u, v => by
    obtain ⟨h1, h2⟩ := List.pairwise_cons.mp h
    have ih := mem_due (f := f) h2 (u := u) (v := v)
    unfold dueOf
    rw [List.mem_append, ih]
    constructor
    · rintro (hm | ⟨k1, k2, k3⟩)
      · obtain ⟨x, hx, e⟩ := List.mem_map.mp hm
        obtain ⟨hx1, hx2⟩ := List.mem_filter.mp hx
        injection e with e1 e2
        subst e1 e2
        have := of_decide_eq_true hx2
        exact ⟨List.mem_cons_self, List.mem_cons_of_mem _ hx1, h1 _ hx1, this.1, this.2⟩
      · exact ⟨List.mem_cons_of_mem _ k1, List.mem_cons_of_mem _ k2, k3⟩
    · rintro ⟨k1, k2, k3, k4, k5⟩
      have hv : v ∈ ws := by
        rcases List.mem_cons.mp k2 with rfl | k2
        · rcases List.mem_cons.mp k1 with rfl | k1
          · rw [wLt_irrefl] at k3; cases k3
          · have := wLt_trans (h1 _ k1) k3
            rw [wLt_irrefl] at this; cases this
        · exact k2
      rcases List.mem_cons.mp k1 with rfl | k1
      · exact .inl (List.mem_map.mpr ⟨v, List.mem_filter.mpr ⟨hv, decide_eq_true ⟨k4, k5⟩⟩, rfl⟩)
      · exact .inr ⟨k1, hv, k3, k4, k5⟩
theorem due_sorted {f : Word → List Rat} : ∀ {ws : List Word}, (ws.Pairwise fun u v => wLt u v = true) → (dueOf f ws).Pairwise fun p q => pLt p q = true
  | [], _ => .nil
  | a :: ws, h => by
    obtain ⟨h1, h2⟩ := List.pairwise_cons.mp h
    unfold dueOf
    refine List.pairwise_append.mpr ⟨?_, due_sorted h2, fun p hp q hq => ?_⟩
    · rw [List.pairwise_map]
      refine (h2.filter _).imp fun {u v} huv => ?_
      unfold pLt
      rw [huv]; simp
    · obtain ⟨x, hx, rfl⟩ := List.mem_map.mp hp
      have := (mem_due h2 (u := q.1) (v := q.2)).mp hq
      unfold pLt
      rw [h1 _ this.1]; rfl
theorem pLt_irrefl (p : Word × Word) : pLt p p = false := by unfold pLt; rw [wLt_irrefl, wLt_irrefl]; simp
theorem pLt_trans {p q r : Word × Word} (h1 : pLt p q = true) (h2 : pLt q r = true) : pLt p r = true := by
  unfold pLt at *
  rw [Bool.or_eq_true, Bool.and_eq_true, decide_eq_true_iff] at *
  rcases h1 with h1 | ⟨e1, h1⟩
  · rcases h2 with h2 | ⟨e2, h2⟩
    · exact .inl (wLt_trans h1 h2)
    · exact .inl (e2 ▸ h1)
  · rcases h2 with h2 | ⟨e2, h2⟩
    · exact .inl (e1 ▸ h2)
    · exact .inr ⟨e1.trans e2, wLt_trans h1 h2⟩
theorem wLt_total {u v : Word} (h : u ≠ v) : wLt u v = true ∨ wLt v u = true := by
  unfold wLt
  by_cases e : u.length = v.length
  · rw [if_pos e, if_pos e.symm]
    exact lexLt_total h
  · rw [if_neg e, if_neg (Ne.symm e)]
    have : u.length < v.length ∨ v.length < u.length := by omega
    exact this.imp (fun z => decide_eq_true z) fun z => decide_eq_true z
theorem pLt_total {p q : Word × Word} (h : p ≠ q) : pLt p q = true ∨ pLt q p = true := by
  unfold pLt
  by_cases e : p.1 = q.1
  · have h2 : p.2 ≠ q.2 := fun z => h (Prod.ext e z)
    rcases wLt_total h2 with k | k
    · left; rw [k, decide_eq_true e]; simp
    · right; rw [k, decide_eq_true e.symm]; simp
  · rcases wLt_total e with k | k
    · left; rw [k]; rfl
    · right; rw [k]; rfl
/-- two lists in strict order with the same members are one -/
theorem one_list {α : Type} {lt : α → α → Bool} (irr : ∀ a, lt a a = false) (tr : ∀ {a b c}, lt a b = true → lt b c = true → lt a c = true) : ∀ {l m : List α}, (l.Pairwise fun a b => lt a b = true) → (m.Pairwise fun a b => lt a b = true) → (∀ x, x ∈ l ↔ x ∈ m) → l = m
  | [], [], _, _, _ => rfl
  | [], b :: m, _, _, h => by have := (h b).mpr List.mem_cons_self; cases this
  | a :: l, [], _, _, h => by have := (h a).mp List.mem_cons_self; cases this
  | a :: l, b :: m, hl, hm, h => by
    obtain ⟨l1, l2⟩ := List.pairwise_cons.mp hl
    obtain ⟨m1, m2⟩ := List.pairwise_cons.mp hm
    have e : a = b := by
      rcases List.mem_cons.mp ((h a).mp List.mem_cons_self) with e | ha
      · exact e
      · rcases List.mem_cons.mp ((h b).mpr List.mem_cons_self) with e | hb
        · exact e.symm
        · have := tr (m1 a ha) (l1 b hb)
          rw [irr] at this; cases this
    subst e
    congr 1
    refine one_list irr tr l2 m2 fun x => ?_
    constructor
    · intro hx
      rcases List.mem_cons.mp ((h x).mp (List.mem_cons_of_mem _ hx)) with e | k
      · subst e
        have := l1 x hx
        rw [irr] at this; cases this
      · exact k
    · intro hx
      rcases List.mem_cons.mp ((h x).mpr (List.mem_cons_of_mem _ hx)) with e | k
      · subst e
        have := m1 x hx
        rw [irr] at this; cases this
      · exact k
theorem sorted_nodup {α : Type} {lt : α → α → Bool} (irr : ∀ a, lt a a = false) {l : List α} (h : l.Pairwise fun a b => lt a b = true) : l.Nodup := h.imp fun {a b} k e => by
  rw [e, irr] at k; cases k
section
variable {f : Word → List Rat} {ws : List Word} {G : Grps}
theorem grp_sorted (hs : ws.Pairwise fun u v => wLt u v = true) (h : Grp f ws G) {g : List Rat × List Word} (hg : g ∈ G) : g.2.Pairwise fun u v => wLt u v = true := by
  rw [(h.fil g hg).1]
  exact hs.filter _
theorem mem_found (hs : ws.Pairwise fun u v => wLt u v = true) (h : Grp f ws G) {u v : Word} : (u, v) ∈ foundOf G ↔ (u, v) ∈ dueOf f ws := by
  rw [mem_due hs]
  unfold foundOf prs
  rw [List.mem_flatMap]
  constructor
  · rintro ⟨g, hg, hm⟩
    obtain ⟨k1, k2, k3, _, k5⟩ := (mem_due (grp_sorted hs h hg)).mp hm
    rw [(h.fil g hg).1] at k1 k2
    obtain ⟨a1, a2⟩ := List.mem_filter.mp k1
    obtain ⟨b1, b2⟩ := List.mem_filter.mp k2
    exact ⟨a1, b1, k3, (of_decide_eq_true a2).trans (of_decide_eq_true b2).symm, k5⟩
  · rintro ⟨k1, k2, k3, k4, k5⟩
    obtain ⟨g, hg, e⟩ := h.cov u k1
    refine ⟨g, hg, (mem_due (grp_sorted hs h hg)).mpr ⟨?_, ?_, k3, rfl, k5⟩⟩
    · rw [(h.fil g hg).1]; exact List.mem_filter.mpr ⟨k1, decide_eq_true e.symm⟩
    · rw [(h.fil g hg).1]; exact List.mem_filter.mpr ⟨k2, decide_eq_true (k4.symm.trans e.symm)⟩
theorem found_nodup (hs : ws.Pairwise fun u v => wLt u v = true) (h : Grp f ws G) : (foundOf G).Nodup := by
  have key : ∀ (G' : Grps), (∀ g ∈ G', g ∈ G) → (G'.map (·.1)).Nodup → (G'.flatMap fun g => prs g.2).Nodup := by
    intro G'
    induction G' with
    | nil => intro _ _; exact .nil
    | cons g G' ih =>
      intro hG hn
      rw [List.map_cons, List.nodup_cons] at hn
      rw [List.flatMap_cons]
      have hg := hG g List.mem_cons_self
      refine List.nodup_append.mpr ⟨sorted_nodup pLt_irrefl (due_sorted (grp_sorted hs h hg)), ih (fun x hx => hG x (List.mem_cons_of_mem _ hx)) hn.2, fun p hp q hq e => ?_⟩
      subst e
      obtain ⟨g', hg', hm⟩ := List.mem_flatMap.mp hq
      have hg2 := hG g' (List.mem_cons_of_mem _ hg')
      have a1 := ((mem_due (grp_sorted hs h hg) (u := p.1) (v := p.2)).mp hp).1
      have b1 := ((mem_due (grp_sorted hs h hg2) (u := p.1) (v := p.2)).mp hm).1
      rw [(h.fil g hg).1] at a1
      rw [(h.fil g' hg2).1] at b1
      have a2 := of_decide_eq_true (List.mem_filter.mp a1).2
      have b2 := of_decide_eq_true (List.mem_filter.mp b1).2
      exact hn.1 (List.mem_map.mpr ⟨g', hg', b2.symm.trans a2⟩)
  exact key G (fun g hg => hg) h.nd
/-- sorted in any way that goes with pLt -/
theorem sort_is_due (hs : ws.Pairwise fun u v => wLt u v = true) (h : Grp f ws G) {out : List (Word × Word)} (hp : out.Perm (foundOf G)) (ho : out.Pairwise fun p q => pLt q p = false) : out = dueOf f ws := by
  refine one_list pLt_irrefl pLt_trans ?_ (due_sorted hs) fun x => ?_
  · have hn : out.Nodup := hp.nodup_iff.mpr (found_nodup hs h)
    refine (List.pairwise_and_iff.mpr ⟨ho, hn⟩).imp fun {p q} ⟨k1, k2⟩ => ?_
    rcases pLt_total k2 with z | z
    · exact z
    · rw [z] at k1; cases k1
  · rw [hp.mem_iff]
    exact mem_found hs h (u := x.1) (v := x.2)
/-- free: no group of more than one <-> the steps are all unlike -/
theorem free_iff (hs : ws.Pairwise fun u v => wLt u v = true) (h : Grp f ws G) : (∀ g ∈ G, ¬ 1 < g.2.length) ↔ (ws.map f).Nodup := by
  have wn : ws.Nodup := sorted_nodup wLt_irrefl hs
  constructor
  · intro k
    rw [List.Nodup, List.pairwise_map]
    refine (List.pairwise_iff_getElem.mpr fun i j hi hj hij e => ?_)
    obtain ⟨g, hg, eg⟩ := h.cov _ (List.getElem_mem hi)
    have h1 : ws[i] ∈ g.2 := by rw [(h.fil g hg).1]; exact List.mem_filter.mpr ⟨List.getElem_mem hi, decide_eq_true eg.symm⟩
    have h2 : ws[j] ∈ g.2 := by rw [(h.fil g hg).1]; exact List.mem_filter.mpr ⟨List.getElem_mem hj, decide_eq_true (e.symm.trans eg.symm)⟩
    have hl := k g hg
    match hg2 : g.2, h1, h2, hl with
    | [], h1, _, _ => cases h1
    | [x], h1, h2, _ =>
      have e1 := List.mem_singleton.mp h1
      have e2 := List.mem_singleton.mp h2
      have := (List.getElem_inj (h₀ := hi) (h₁ := hj) wn).mp (e1.trans e2.symm)
      omega
    | _ :: _ :: _, _, _, hl => simp at hl
  · intro hn g hg hl
    have hf := (h.fil g hg).1
    have gs := grp_sorted hs h hg
    match hg2 : g.2, hl with
    | a :: b :: r, _ =>
      rw [hg2] at gs hf
      have hab := (List.pairwise_cons.mp gs).1 b List.mem_cons_self
      have ha : a ∈ ws.filter fun w => decide (f w = g.1) := by rw [← hf]; exact List.mem_cons_self
      have hb : b ∈ ws.filter fun w => decide (f w = g.1) := by rw [← hf]; exact List.mem_cons_of_mem _ List.mem_cons_self
      obtain ⟨a1, a2⟩ := List.mem_filter.mp ha
      obtain ⟨b1, b2⟩ := List.mem_filter.mp hb
      obtain ⟨i, hi, ei⟩ := List.mem_iff_getElem.mp a1
      obtain ⟨j, hj, ej⟩ := List.mem_iff_getElem.mp b1
      have e : f ws[i] = f ws[j] := by rw [ei, ej]; exact (of_decide_eq_true a2).trans (of_decide_eq_true b2).symm
      have := (List.getElem_inj (h₀ := by rw [List.length_map]; exact hi) (h₁ := by rw [List.length_map]; exact hj) hn).mp (show (ws.map f)[i]'(by rw [List.length_map]; exact hi) = (ws.map f)[j]'(by rw [List.length_map]; exact hj) by rw [List.getElem_map, List.getElem_map, e])
      have e3 : a = b := by rw [← ei, ← ej]; simp only [this]
      rw [e3, wLt_irrefl] at hab
      cases hab
    | [], hl => simp at hl
    | [_], hl => simp at hl
end
def prow (u : Word) (l : List Word) : List (Word × Word) := (l.filter fun v => decide (u.head? ≠ v.head?)).map fun v => (u, v)
def prsT : List Word → Nat → List (Word × Word)
  | _, 0 => []
  | [], _ + 1 => []
  | u :: l, i + 1 => prow u l ++ prsT l i
theorem prs_cons (u : Word) (l : List Word) : prs (u :: l) = prow u l ++ prs l := by
  unfold prs prow
  rw [dueOf]
  simp
theorem prsT_next : ∀ {l : List Word} {i : Nat} {u : Word}, l[i]? = some u → prsT l (i + 1) = prsT l i ++ prow u (l.drop (i + 1))
  | [], i, u, h => by simp at h
  | a :: l, 0, u, h => by
    have : a = u := by simpa using h
    subst this
    simp [prsT]
  | a :: l, i + 1, u, h => by
    have ih := prsT_next (l := l) (i := i) (u := u) (by simpa using h)
    show prow a l ++ prsT l (i + 1) = prow a l ++ prsT l i ++ prow u (l.drop (i + 1))
    rw [ih, List.append_assoc]
theorem prsT_all : ∀ l : List Word, prsT l l.length = prs l
  | [] => rfl
  | a :: l => by
    rw [prs_cons, ← prsT_all l]; rfl
theorem prsT_le (l : List Word) : ∀ {i : Nat}, (prsT l i).length ≤ (prs l).length := by
  induction l with
  | nil => intro i; cases i <;> simp [prsT]
  | cons a l ih =>
    intro i
    cases i with
    | zero => simp [prsT]
    | succ i =>
      rw [prs_cons]
      show (prow a l ++ prsT l i).length ≤ _
      rw [List.length_append, List.length_append]
      have := ih (i := i)
      omega
theorem found_take {G : Grps} {k : Nat} {g : List Rat × List Word} (h : G[k]? = some g) : foundOf (G.take (k + 1)) = foundOf (G.take k) ++ prs g.2 := by
  unfold foundOf
  rw [List.take_add_one, h]
  simp [List.flatMap_append]
theorem found_le (G : Grps) (k : Nat) : (foundOf (G.take k)).length ≤ (foundOf G).length := by
  have : foundOf G = foundOf (G.take k) ++ foundOf (G.drop k) := by
    unfold foundOf
    rw [← List.flatMap_append, List.take_append_drop]
  rw [this, List.length_append]; omega
theorem due_len (f : Word → List Rat) : ∀ ws : List Word, (dueOf f ws).length ≤ ws.length * ws.length
  | [] => by simp [dueOf]
  | u :: l => by
    have ih := due_len f l
    unfold dueOf
    rw [List.length_append, List.length_map, List.length_cons, Nat.succ_mul, Nat.mul_succ]
    have := List.length_filter_le (fun v => decide (f u = f v ∧ u.head? ≠ v.head?)) l
    omega
theorem found_len {f : Word → List Rat} {ws : List Word} {G : Grps} (hs : ws.Pairwise fun u v => wLt u v = true) (h : Grp f ws G) (hl : ws.length ≤ 400) : (foundOf G).length ≤ 160000 := by
  have hp : (foundOf G).Perm (dueOf f ws) := (List.perm_ext_iff_of_nodup (found_nodup hs h) (sorted_nodup pLt_irrefl (due_sorted hs))).mpr fun x => mem_found hs h (u := x.1) (v := x.2)
  rw [hp.length_eq]
  have := due_len f ws
  have : ws.length * ws.length ≤ 400 * 400 := Nat.mul_le_mul hl hl
  omega
theorem mem_found_word {f : Word → List Rat} {ws : List Word} {G : Grps} (hs : ws.Pairwise fun u v => wLt u v = true) (h : Grp f ws G) {p : Word × Word} (hp : p ∈ foundOf G) : p.1 ∈ ws ∧ p.2 ∈ ws := by
  have := (mem_due hs (u := p.1) (v := p.2)).mp ((mem_found hs h).mp hp)
  exact ⟨this.1, this.2.1⟩
theorem grp_len {f : Word → List Rat} {ws : List Word} {G : Grps} (h : Grp f ws G) : ∀ {g}, g ∈ G → g.2.length ≤ ws.length := fun {g} hg => by
  rw [(h.fil g hg).1]
  exact List.length_filter_le _ _
end K65
namespace K65
open PySem PySem.Spec PyProof.Rows L2
/-! ### relation keys as data -/
def dKey (u : Word) : PyData := .tuple [.int (u.length : Int), dWd u]
def dPair (p : Word × Word) : PyData := .tuple [dKey p.1, dKey p.2]
abbrev LT (a b : List (Int ⊕ List Nat)) : Bool := PyProof.Rows.lexLt itemOrd a b
def toks (u : Word) : List (Int ⊕ List Nat) := PySem.W.keyToksAll (u.map fun (i : Nat) => .int (i : Int))
theorem lt_int {a b : Int} (h : a < b) (x y : List (Int ⊕ List Nat)) : LT (.inl a :: x) (.inl b :: y) = true := by
  show PyProof.Rows.lexLt itemOrd (.inl a :: x) (.inl b :: y) = true
  rw [lex_cons]
  show (decide (a < b) || _) = true
  rw [decide_eq_true h]; rfl
theorem toks_cons (a : Nat) (u : Word) (x : List (Int ⊕ List Nat)) : toks (a :: u) ++ x = .inl 1 :: .inl (a : Int) :: (toks u ++ x) := by
  unfold toks
  rw [List.map_cons, PySem.W.keyToksAll, PySem.W.keyToks]
  rfl
theorem toks_nil (x : List (Int ⊕ List Nat)) : toks [] ++ x = .inl 0 :: x := by
  unfold toks
  rw [List.map_nil, PySem.W.keyToksAll]
  rfl
theorem lt_same (a : Int ⊕ List Nat) (x y : List (Int ⊕ List Nat)) : LT (a :: x) (a :: y) = LT x y := PySem.W.lex_pre [a] x y
theorem toks_lt : ∀ {u v : Word}, lexLt u v = true → ∀ x y, LT (toks u ++ x) (toks v ++ y) = true
  | [], [], h, _, _ => by cases h
  | _ :: _, [], h, _, _ => by cases h
  | [], b :: v, _, x, y => by
    rw [toks_nil, toks_cons]
    exact lt_int (by decide) _ _
  | a :: u, b :: v, h, x, y => by
    rw [toks_cons, toks_cons, lt_same]
    simp only [lexLt] at h
    by_cases e : a = b
    · subst e
      rw [if_pos rfl] at h
      rw [lt_same]
      exact toks_lt h x y
    · rw [if_neg e] at h
      have := of_decide_eq_true h
      exact lt_int (by omega) _ _
theorem key_toks (u : Word) (x : List (Int ⊕ List Nat)) : PySem.W.keyToks (dKey u) ++ x = .inl 1 :: .inl (u.length : Int) :: .inl 1 :: (toks u ++ (.inl 0 :: x)) := by
  unfold dKey dWd
  rw [PySem.W.keyToks, PySem.W.keyToksAll, PySem.W.keyToksAll, PySem.W.keyToksAll, PySem.W.keyToks, PySem.W.keyToks]
  unfold toks
  simp
theorem key_lt {u v : Word} (h : wLt u v = true) (x y : List (Int ⊕ List Nat)) : LT (PySem.W.keyToks (dKey u) ++ x) (PySem.W.keyToks (dKey v) ++ y) = true := by
  rw [key_toks, key_toks, lt_same]
  unfold wLt at h
  by_cases e : u.length = v.length
  · rw [if_pos e] at h
    rw [e, lt_same, lt_same]
    exact toks_lt h _ _
  · rw [if_neg e] at h
    have := of_decide_eq_true h
    exact lt_int (by omega) _ _
theorem pair_toks (p : Word × Word) : PySem.W.keyToks (dPair p) = .inl 1 :: (PySem.W.keyToks (dKey p.1) ++ (.inl 1 :: (PySem.W.keyToks (dKey p.2) ++ [.inl 0]))) := by
  unfold dPair
  rw [PySem.W.keyToks, PySem.W.keyToksAll, PySem.W.keyToksAll, PySem.W.keyToksAll]
theorem pair_lt {p q : Word × Word} (h : pLt p q = true) : PySem.W.dataLt (dPair p) (dPair q) = true := by
  show LT (PySem.W.keyToks (dPair p)) (PySem.W.keyToks (dPair q)) = true
  rw [pair_toks, pair_toks, lt_same]
  unfold pLt at h
  rw [Bool.or_eq_true, Bool.and_eq_true, decide_eq_true_iff] at h
  rcases h with h | ⟨e, h⟩
  · exact key_lt h _ _
  · rw [e, show LT (PySem.W.keyToks (dKey q.1) ++ (.inl 1 :: (PySem.W.keyToks (dKey p.2) ++ [.inl 0]))) (PySem.W.keyToks (dKey q.1) ++ (.inl 1 :: (PySem.W.keyToks (dKey q.2) ++ [.inl 0]))) = LT (.inl 1 :: (PySem.W.keyToks (dKey p.2) ++ [.inl 0])) (.inl 1 :: (PySem.W.keyToks (dKey q.2) ++ [.inl 0])) from PySem.W.lex_pre _ _ _, lt_same]
    exact key_lt h _ _
theorem sorted_due {f : Word → List Rat} {ws : List Word} {G : Grps} (hs : ws.Pairwise fun u v => wLt u v = true) (h : Grp f ws G) : (foundOf G).mergeSort (PySem.W.dataLe false dPair) = dueOf f ws := by
  refine sort_is_due hs h (List.mergeSort_perm _ _) ?_
  have tot := PySem.W.sortLe_total (listOrd itemOrd) false fun b : Word × Word => PySem.W.keyToks (dPair b)
  have sp := PySem.W.sort_pairwise tot (foundOf G)
  refine sp.imp fun {p q} hpq => ?_
  have h2 : PySem.W.dataLt (dPair q) (dPair p) = false := by
    have : (!PySem.W.dataLt (dPair q) (dPair p)) = true := hpq
    simpa using this
  cases e : pLt q p with
  | false => rfl
  | true => rw [pair_lt e] at h2; cases h2
theorem ints_alike : ∀ u v : List Nat, PySem.W.alikeAll (u.map fun (i : Nat) => PyData.int (i : Int)) (v.map fun (i : Nat) => PyData.int (i : Int)) = true
  | [], _ => by simp [PySem.W.alikeAll]
  | _ :: _, [] => by simp [PySem.W.alikeAll]
  | a :: u, b :: v => by simp [PySem.W.alikeAll, PySem.W.alike, ints_alike u v]
theorem pair_alike (p q : Word × Word) : PySem.W.alike (dPair p) (dPair q) = true := by
  simp [dPair, dKey, dWd, PySem.W.alike, PySem.W.alikeAll, ints_alike]
theorem ints_depth : ∀ u : List Nat, PyData.depthAll (u.map fun (i : Nat) => PyData.int (i : Int)) = 0
  | [] => by simp [PyData.depthAll]
  | a :: u => by simp [PyData.depthAll, PyData.depth, ints_depth u]
theorem pair_depth (p : Word × Word) : (dPair p).depth = 3 := by
  simp [dPair, dKey, dWd, PyData.depth, PyData.depthAll, ints_depth]
end K65
namespace K65
open PySem PySem.W PySem.Calls PyProof.Rows PySem.HandSPX
section
variable {P : Program} {w : World} {A : Around} {s : Shared} {K : Frag} {mg : Str → Option Value}
/-- what a call over the heap alone asks -/
structure Gnd (K : Frag) (mg : Str → Option Value) (h : Heap) : Prop where
  kin : K.In h
  glob : h.Ns mainGlobals mg
  blt : ∃ mb, h.Ns builtinsNs mb ∧ ∀ y : Str, y ≠ "__name__" → mb y = bootBuiltins y
  lim : h.NoLimit
theorem Gnd.keep {h h' : Heap} (g : Gnd K mg h) (k : ∀ b o, h.get? b = some o → h'.get? b = some o) : Gnd K mg h' :=
  ⟨g.kin.keeps k, g.glob.keeps k, let ⟨mb, h1, h2⟩ := g.blt; ⟨mb, h1.keeps k, h2⟩, g.lim.keeps k⟩
theorem wk_call (T : Tx K mg) {a : Addr} {its : Array Value} {u : Word} (g : Gnd K mg s.heap) (hroom : A.depth < recursionLimit) (pl : IsTup s.heap a its) (hz : its.size = u.length) (hl : u.length ≤ 1000) (rd : Reads s.heap (.ref a) (dWd u) []) :
    wpAny (model P w) A (call (.ref T.word_key.f) [.ref a]) (KeyPure (dKey u) s) (fun _ _ => False) s := by
  obtain ⟨oc, od, kV, doc, pm, an, cdv, ct, osl, efd, lk, hcd⟩ := T.word_key.F.ex
  rw [efd] at lk
  refine wpAny_call (Att.call_fn (binds := [("word", .ref a)]) g.kin g.lim lk hcd hroom (BindsTo.of_eq (by first | rfl | with_unfolding_all rfl)) (by first | rfl | decide | with_unfolding_all rfl) (fun s₁ IC => ?_) rfl rfl rfl)
  obtain ⟨h₁, tk₁, rfl⟩ := IC.toInCall.same
  have k : ∀ b o, s.heap.get? b = some o → h₁.get? b = some o := IC.toInCall.keep
  have hn := IC.toInCall.ns
  have g₁ := g.keep k
  obtain ⟨mb, hB, hBv⟩ := g₁.blt
  have pl₁ : IsTup h₁ a its := let ⟨o, e, r⟩ := pl; ⟨o, k _ _ e, r⟩
  refine wpAny_execs_cons (wpAny_Return_some (wpAny_Tuple_spliced ?_))
  refine spliced_cons (wpAny_Call_Name_kw (Calls.Name_function_global rfl rfl (loadGlobal_builtin g₁.glob T.m_len hB ((hBv "len" (by decide)).trans (by decide +kernel)) (callWith_builtin1 (id := "len") (spliced_cons ?_) rfl rfl))))
  refine ESX.ldL (x := "word") (v := .ref a) hn (by first | rfl | with_unfolding_all rfl | kernel_rfl) (spliced_nil (len_tuple pl₁ (by omega) ?_)) rfl rfl
  refine spliced_cons (ESX.ldL (x := "word") (v := .ref a) hn (by first | rfl | with_unfolding_all rfl | kernel_rfl) (spliced_nil ⟨(show 2 ≤ sizeLine by rw [sizeLine_eq]; decide), ?_⟩) rfl rfl)
  have k2 : ∀ b o, s.heap.get? b = some o → (h₁.push { cls := .type "tuple", data := .seq (List.toArray [Value.int its.size (tk₁ + 1), .ref a]) }).get? b = some o := fun b o e => Heap.get?_push_of_some _ (k b o e)
  refine ⟨_, _, rfl, k2, ?_⟩
  refine Reads.tuple (as := [] ++ ([] ++ [])) (Heap.get?_push_size _ rfl) rfl rfl (.cons ?_ (.cons (PyProof.Rows.Reads.keeps k2 rd) .nil))
  rw [← hz]
  exact .int _ _
theorem rk_call (T : Tx K mg) {q a b : Addr} {n : Nat} {o : Obj} {ia ib : Array Value} {p : Word × Word} (g : Gnd K mg s.heap) (hroom : A.depth + 1 < recursionLimit) (pl : IsTup s.heap q #[.ref a, .ref b])
    (pa : IsTup s.heap a ia) (pb : IsTup s.heap b ib) (za : ia.size = p.1.length) (zb : ib.size = p.2.length) (ha : p.1.length ≤ 1000) (hb : p.2.length ≤ 1000) (ra : Reads s.heap (.ref a) (dWd p.1) []) (rb : Reads s.heap (.ref b) (dWd p.2) []) :
    wpAny (model P w) A (call (.ref T.relation_key.f) [.ref q]) (KeyPure (dPair p) s) (fun _ _ => False) s := by
  obtain ⟨oc, od, kV, doc, pm, an, cdv, ct, osl, efd, lk, hcd⟩ := T.relation_key.F.ex
  rw [efd] at lk
  refine wpAny_call (Att.call_fn (binds := [("pair", .ref q)]) g.kin g.lim lk hcd (by omega) (BindsTo.of_eq (by first | rfl | with_unfolding_all rfl)) (by first | rfl | decide | with_unfolding_all rfl) (fun s₁ IC => ?_) rfl rfl rfl)
  obtain ⟨h₁, tk₁, rfl⟩ := IC.toInCall.same
  have k : ∀ b o, s.heap.get? b = some o → h₁.get? b = some o := IC.toInCall.keep
  have hn := IC.toInCall.ns
  have g₁ := g.keep k
  have up : ∀ {h : Heap} {c : Addr} {is : Array Value}, (∀ b o, s.heap.get? b = some o → h.get? b = some o) → IsTup s.heap c is → IsTup h c is := fun {h c is} kk x => let ⟨o, e, r⟩ := x; ⟨o, kk _ _ e, r⟩
  refine wpAny_execs_cons (wpAny_Return_some (wpAny_Tuple_spliced ?_))
  refine spliced_cons (wpAny_Call_Name_kw (Calls.Name_function_global rfl rfl (loadGlobal_global g₁.glob T.word_key.g (PySem.W.callWith_K (h₀ := h₁) g₁.kin T.word_key.F.kp (spliced_cons ?_) rfl rfl))))
  refine Subscript_ (ESX.ldL (x := "pair") (v := .ref q) hn (by first | rfl | with_unfolding_all rfl | kernel_rfl) (wpAny_Constant_int ?_) rfl rfl)
  refine subscriptTail_builtinR (x := .ref a) (up k pl).typeIs slot_tuple_getitem.lookup (getItem_tuple (j := 0) (up k pl) (by decide) (by decide) rfl rfl ⟨rfl, spliced_nil ⟨g₁.kin, ?_⟩⟩) rfl
  refine wpAny_mono (wk_call (s := ⟨h₁, s.gens, s.drawn, tk₁ + 1, s.os⟩) T g₁ (by show A.depth + 1 < recursionLimit; omega) (up k pa) za ha (PyProof.Rows.Reads.keeps k ra)) (fun v1 s' hv => ?_) fun _ _ z => z.elim
  obtain ⟨h₂, tk₂, rfl, k₂, r₂⟩ := hv
  have kk : ∀ b o, s.heap.get? b = some o → h₂.get? b = some o := fun b o e => k₂ b o (k b o e)
  have g₂ := g₁.keep k₂
  have hn2 := hn.keeps k₂
  refine spliced_cons (wpAny_Call_Name_kw (Calls.Name_function_global rfl rfl (loadGlobal_global g₂.glob T.word_key.g (PySem.W.callWith_K (h₀ := h₂) g₂.kin T.word_key.F.kp (spliced_cons ?_) rfl rfl))))
  refine Subscript_ (ESX.ldL (x := "pair") (v := .ref q) hn2 (by first | rfl | with_unfolding_all rfl | kernel_rfl) (wpAny_Constant_int ?_) rfl rfl)
  refine subscriptTail_builtinR (x := .ref b) (up kk pl).typeIs slot_tuple_getitem.lookup (getItem_tuple (j := 1) (up kk pl) (by decide) (by decide) rfl rfl ⟨rfl, spliced_nil ⟨g₂.kin, ?_⟩⟩) rfl
  refine wpAny_mono (wk_call (s := ⟨h₂, s.gens, s.drawn, tk₂ + 1, s.os⟩) T g₂ (by show A.depth + 1 < recursionLimit; omega) (up kk pb) zb hb (PyProof.Rows.Reads.keeps kk rb)) (fun v2 s' hv => ?_) fun _ _ z => z.elim
  obtain ⟨h₃, tk₃, rfl, k₃, r₃⟩ := hv
  refine spliced_nil ⟨(show 2 ≤ sizeLine by rw [sizeLine_eq]; decide), ?_⟩
  have k4 : ∀ b o, h₃.get? b = some o → (h₃.push { cls := .type "tuple", data := .seq (List.toArray [v1, v2]) }).get? b = some o := fun b o e => Heap.get?_push_of_some _ e
  refine ⟨_, _, rfl, fun b o e => k4 _ _ (k₃ _ _ (kk b o e)), ?_⟩
  exact Reads.tuple (as := [] ++ ([] ++ [])) (Heap.get?_push_size _ rfl) rfl rfl (.cons (PyProof.Rows.Reads.keeps (fun b o e => k4 _ _ (k₃ _ _ e)) r₂) (.cons (PyProof.Rows.Reads.keeps k4 r₃) .nil))
end
end K65
namespace K65
open PySem PySem.Spec PyProof.Rows L2
/-! ### sorted(found, key=relation_key) -/
def PrV (K : PySem.W.Frag) (H : Hp) (v : V) (p : Word × Word) : Prop := ∃ q x y, v = .ref q ∧ SqT K H q [x, y] ∧ WdV K H x p.1 ∧ WdV K H y p.2
theorem PrV.mono {K : PySem.W.Frag} {H H' : Hp} (e : Tle H H') {v : V} {p : Word × Word} (h : PrV K H v p) : PrV K H' v p :=
  let ⟨q, x, y, h1, h2, h3, h4⟩ := h; ⟨q, x, y, h1, e.sq h2, h3.mono e, h4.mono e⟩
section
variable {X : Cx} {pins : List (Addr × Obj)} {σ : L2.St} {H : Hp} {s : Shared}
theorem reads_ints {h : Heap} : ∀ {u : List Nat} {its : List Value}, Vals (wdv u) its → ReadsAll h its (u.map fun (i : Nat) => .int (i : Int)) []
  | [], _, .nil => .nil
  | i :: u, _, .cons r t => by
    obtain ⟨tk, rfl⟩ := r
    exact .cons (as := []) (bs := []) (.int _ _) (reads_ints t)
theorem wd_raw (I : Inv X pins σ H s) {v : V} {c : Value} {u : Word} (h : WdV X.K H v u) (r : RelV v c) : ∃ a its, c = .ref a ∧ IsTup s.heap a its ∧ its.size = u.length ∧ Reads s.heap (.ref a) (dWd u) [] := by
  obtain ⟨a, rfl, hS⟩ := h
  obtain rfl : c = .ref a := r
  obtain ⟨its, rv, pl, hz⟩ := I.tuple hS
  have hl := rv.length
  rw [wdv_len] at hl
  refine ⟨a, its.toArray, rfl, pl, by rw [List.size_toArray]; exact hl.symm, ?_⟩
  obtain ⟨o, h1, h2, n, h3⟩ := pl
  exact .tuple h1 h2 h3 (by simpa using reads_ints rv)
def RPair (X : Cx) (H : Hp) (h : Heap) (c : Value) (p : Word × Word) : Prop := ∃ q a b ia ib, c = .ref q ∧ PrV X.K H (.ref q) p ∧ IsTup h q #[.ref a, .ref b] ∧ IsTup h a ia ∧ IsTup h b ib ∧ ia.size = p.1.length ∧ ib.size = p.2.length ∧ Reads h (.ref a) (dWd p.1) [] ∧ Reads h (.ref b) (dWd p.2) []
theorem pr_raw (I : Inv X pins σ H s) {v : V} {c : Value} {p : Word × Word} (h : PrV X.K H v p) (r : RelV v c) : RPair X H s.heap c p := by
  have h0 := h
  obtain ⟨q, x, y, rfl, hS, hx, hy⟩ := h
  obtain rfl : c = .ref q := r
  obtain ⟨its, rv, pl, hz⟩ := I.tuple hS
  cases rv with
  | cons r1 rv =>
    cases rv with
    | cons r2 rv =>
      cases rv
      obtain ⟨a, ia, rfl, pa, za, ra⟩ := wd_raw I hx r1
      obtain ⟨b, ib, rfl, pb, zb, rb⟩ := wd_raw I hy r2
      exact ⟨q, a, b, ia, ib, rfl, h0, pl, pa, pb, za, zb, ra, rb⟩
theorem prs_raw (I : Inv X pins σ H s) : ∀ {vs : List V} {cs : List Value} {ps : List (Word × Word)}, Paired (PrV X.K H) vs ps → Vals vs cs → PySem.W.EachIs (RPair X H s.heap) cs ps
  | _, _, _, .nil, .nil => .nil
  | _, _, _, .cons f p, .cons r t => .cons (pr_raw I f r) (prs_raw I p t)
theorem prs_back {h : Heap} : ∀ {cs : List Value} {ps : List (Word × Word)}, PySem.W.EachIs (RPair X H h) cs ps → ∃ ys, Vals ys cs ∧ Paired (PrV X.K H) ys ps
  | _, _, .nil => ⟨[], .nil, .nil⟩
  | _, _, .cons ⟨q, _, _, _, _, e, hp, _⟩ t => by
    obtain ⟨ys, h1, h2⟩ := prs_back t
    exact ⟨.ref q :: ys, .cons e h1, .cons hp h2⟩
end
def rSortRel (K : PySem.W.Frag) (f : Addr) : List V → List V → Hp → VK → Prop := fun vs zs H Q => ∃ (l : Addr) (xs : List V) (ps : List (Word × Word)), vs = [.ref l] ∧ zs = [.ref f] ∧ SqL K H l xs ∧ Paired (PrV K H) xs ps ∧ ps.length ≤ 1000000 ∧ (∀ p ∈ ps, p.1.length ≤ 1000 ∧ p.2.length ≤ 1000) ∧
  ∀ ys q, Paired (PrV K H) ys (ps.mergeSort (PySem.W.dataLe false dPair)) → H q = none → Q (.ref q) (upd H q (.lst ys))
section
variable {X : Cx}
theorem cr_sortRel (T : Tx X.K X.mg) (hu : X.A.units + 64 < cLine) (hd : X.A.depth + 5 < recursionLimit) : CallRK X (.builtin "sorted") [Str.ofString "key"] (rSortRel X.K T.relation_key.f) := by
  intro pins s σ H vs zs us ws Q I r rz h
  obtain ⟨l, xs, ps, rfl, rfl, hs, pp, hlen, hwl, q⟩ := h
  obtain rfl := Vals.ref1 r
  obtain rfl := Vals.ref1 rz
  obtain ⟨its, rv, hl, hz⟩ := I.list hs
  have ea := prs_raw I pp rv
  have hsz : ps.length ≤ sizeLine := by rw [sizeLine_eq]; omega
  have g0 : Gnd X.K X.mg s.heap := ⟨I.kIn, I.mod.glob.keeps I.bk, (let ⟨mb, b1, b2⟩ := I.mod.blt; ⟨mb, b1.keeps I.bk, b2⟩), I.nolimit⟩
  refine PySem.W.sorted_key_data (b := false) dPair hl.isList ea (fun d hd d' hd' => ?_) (.inl fun d hd => ?_) hsz (fun p _ => by rw [pair_depth]; omega) (PyProof.Rows.ksk_s1 _ _) (fun _ => PyProof.Rows.ksk_l1 _ _) (fun _ => PyProof.Rows.ksk_t1 _ _) (fun v p hR hp h tk kp => ?_) fun out c h' tk kp _ hD hlo eo => ?_
  · obtain ⟨p, _, rfl⟩ := List.mem_map.mp hd
    obtain ⟨p', _, rfl⟩ := List.mem_map.mp hd'
    exact pair_alike p p'
  · obtain ⟨p, _, rfl⟩ := List.mem_map.mp hd
    exact ⟨_, _, rfl⟩
  · obtain ⟨q', a, b, ia, ib, rfl, _, pl, pa, pb, za, zb, ra, rb⟩ := hR
    have up : ∀ {c : Addr} {is : Array Value}, IsTup s.heap c is → IsTup h c is := fun {c is} x => let ⟨o, e, r⟩ := x; ⟨o, kp _ _ e, r⟩
    exact rk_call (n := 0) (o := default) (s := { s with heap := h, toks := tk }) T (g0.keep kp) (by show X.A.depth + 1 < recursionLimit; omega) (up pl) (up pa) (up pb) za zb (hwl p hp).1 (hwl p hp).2 (PyProof.Rows.Reads.keeps kp ra) (PyProof.Rows.Reads.keeps kp rb)
  · obtain ⟨ys, y1, y2⟩ := prs_back eo
    have hly := y1.length
    refine ⟨.ref (s.heap.objs.size + 1), upd H (s.heap.objs.size + 1) (.lst ys), I.laid (t' := tk) kp (Nat.le_succ _) ⟨by rw [hly, hlo]; exact hsz, out, c, y1, hD⟩, rfl, q ys _ y2 (I.hok.fresh (Nat.le_succ _))⟩
end
theorem Rz.same {H H1 : Hp} {C : Addr} {f : Str} {ok : Hp → V → Prop} {E : XK} (h : Rz H C f ok E) (s : Same H H1) : Rz H1 C f ok E := fun H' d v sm e k => h H' d v (s.trans sm) e k
section
variable {P : Program} {w : World} {K : PySem.W.Frag} {mg : Str → Option Value} {base : Heap}
/-- a row of steps and a most are asked: what is not as told raises, else good -/
def spAsk (K : PySem.W.Frag) (X : TxE P K mg) (good : List (List Rat) → Nat → Hp → VK → Prop) : Sp := fun vs H Q E => ∃ v mo, vs = [v, mo] ∧
  ((∃ a x L, v = .ref a ∧ SqT K H a [x, .non] ∧ StV K H x L ∧ StepOk L ∧ Rz H X.cRow "place" (fun H' y => ∃ t, y = .ref t ∧ SqT K H' t [.int 1]) E) ∨
   (∃ R, RwV K H v R ∧ 1 ≤ R.length ∧ R.length ≤ 8 ∧ (∀ L ∈ R, StepOk L) ∧
     (((mo = .int 0 ∨ mo = .int 9 ∨ mo = .bl true ∨ mo = .non) ∧ Rz H X.cPar "value" (fun _ y => y = mo) E) ∨
      (∃ m : Nat, mo = .int ((m : Nat) : Int) ∧ 1 ≤ m ∧ m ≤ 8 ∧
        ((400 < (allw R.length m).length ∧ Rz H X.cBig "most" (fun _ y => y = .int 400) E) ∨
         ((allw R.length m).length ≤ 400 ∧ (∃ L ∈ R, 256 < (L.length - 1) ^ m) ∧ Rz H X.cBig "most" (fun _ y => y = .int 256) E) ∨
         ((allw R.length m).length ≤ 400 ∧ (∃ n, WSmall R m n) ∧ good R m H Q))))))
def gdRel (K : PySem.W.Frag) : List (List Rat) → Nat → Hp → VK → Prop := fun R m H Q => ∀ H' t ys, Same H H' → SqT K H' t ys → Paired (PrV K H') ys (dueOf (wstep R) (allw R.length m)) → Q (.ref t) H'
theorem ok_relations (T : Tx K mg) (X : TxE P K mg) : FnOk P w K mg base (L2.CX P w) 6 T.relations.f T.relations.fd ["steps", "most"] (spAsk K X (gdRel K)) := by
  refine T.relations.F.okX sc_relations (fun vs H Q E h => ?_) (fun cdv A outer' s H vs Q E hr h => ?_)
  · obtain ⟨v, mo, rfl, _⟩ := h
    rfl
  · obtain ⟨v, mo, rfl, h⟩ := h
    refine ⟨_, (pss_cons (ps_expr (pe_callS (ok_need_row T X) (hr.mono (by decide)) (by rfl) T.need_row.g T.need_row.F.kp T.need_row.b (fun σ => passAt (takes_of rfl rfl rfl rfl) σ) (pa_cons (pv 0) pa_nil)))
      (pss_cons (ps_set (i := 2) sc_relations.nd rfl (.inl rfl) (pe_lst pa_nil))
      (pss_cons (ps_for (passes_of rfl) rfl (pi_list (pe_callS (ok_classes_so T X) hr (by rfl) T.classes_so.g T.classes_so.F.kp T.classes_so.b (fun σ => passAt (takes_of rfl rfl rfl rfl) σ) (pa_cons (pv 0) (pa_cons (pe_callS (ok_need_most T X) (hr.mono (by decide)) (by rfl) T.need_most.g T.need_most.F.kp T.need_most.b (fun σ => passAt (takes_of rfl rfl rfl rfl) σ) (pa_cons (pv 1) pa_nil)) pa_nil)))) (pg_name (i := 3) sc_relations.nd rfl (.inl rfl))
        (pss_one (ps_for (passes_of rfl) rfl (pi_enum (by rfl) T.m_enumerate (pa_cons (pv 3) pa_nil)) (pg_tup (by rfl) (pgs_cons (pg_name (i := 4) sc_relations.nd rfl (.inl rfl)) (pgs_cons (pg_name (i := 5) sc_relations.nd rfl (.inr rfl)) pgs_nil)))
          (pss_one (ps_expr (pe_bm PySem.F.plainAttrs_list PySem.F.slot_list_extend PySem.F.type_list_extend mt_extend (pv 2) (pa_cons (pe_lc (own := [("other", 6)]) (g := gName 6) rfl sc_relations.nd (pi_list (pe_slice sl_list (pv 3) (po_some (pe_op op_add (pv 4) pe_int)) po_none)) (blkOk_by (N := N_relations) (own := [("other", 6)]) (sc := defScope s_relations) (by decide +kernel)) (fun _ _ _ _ _ => pg_name (i := 6) sc_relations.nd rfl (.inl rfl)) (fun _ _ _ _ _ => pts_one (pt_cmpR (r := rNe) op_ne (pe_ix (r := rIxT K) ix_tup (pv 5) pe_int (fun _ _ => rfl)) (pe_ix (r := rIxT K) ix_tup (pv 6) pe_int (fun _ _ => rfl)) (nomark _))) (fun _ _ _ _ _ => (pe_tup (pa_cons (pv 5) (pa_cons (pv 6) pa_nil))))) pa_nil)))))))
      (pss_one (ps_ret (pe_callTy call_tuple_of (by rfl) T.m_tuple (by decide +kernel) (pa_cons (pe_callBK (cr_sortRel T (by have := hr.un; show (A.deeper (envOfC "relations" (defScope s_relations) s.heap.objs.size T.relations.f cdv)).units + 64 < cLine; omega) (by have := hr.dp; show (A.deeper (envOfC "relations" (defScope s_relations) s.heap.objs.size T.relations.f cdv)).depth + 5 < recursionLimit; omega)) (by rfl) T.m_sorted (by decide +kernel) (pa_cons (pv 2) pa_nil) (pk_cons (pe_glob (v := .ref T.relation_key.f) (by rfl) T.relation_key.g rfl) pk_nil)) pa_nil))))))), ?_⟩
    refine ⟨_, rfl, v, rfl, ?_⟩
    rcases h with ⟨a, x, L, rfl, ha, hx, hL, k⟩ | ⟨R, hv, n1, n8, hok, h⟩
    · exact .inr ⟨a, x, L, rfl, ha, hx, hL, k⟩
    refine .inl ⟨R, hv, n1, n8, hok, fun H0 s0 => ?_⟩
    refine ⟨Nat.zero_le _, fun f0 nf0 => ?_⟩
    have s1 : Same H (L2.upd H0 f0 (.lst [])) := s0.trans (same_new nf0)
    have nfH : H f0 = none := Same.free s0 nf0
    refine ⟨_, rfl, _, rfl, mo, rfl, ?_⟩
    rcases h with ⟨hm, k⟩ | ⟨m, rfl, m1, m8, h⟩
    · exact .inr ⟨hm, k.same s1⟩
    refine .inl ⟨_, rfl, by omega, by omega, v, R, m, rfl, hv.mono (Tle.same s1), ⟨n1, n8, m1, m8, hok⟩, ?_⟩
    rcases h with ⟨h1, k⟩ | ⟨h1, h2, k⟩ | ⟨h1, hS, k⟩
    · exact .inl ⟨h1, k.same s1⟩
    · exact .inr (.inl ⟨h1, h2, k.same s1⟩)
    refine .inr (.inr ⟨h1, hS, fun H2 l ls G s2 el nl nls pG gr => ⟨l, rfl, ⟨_, sqL el⟩, ?_⟩⟩)
    have hsrt := allw_sorted R.length m
    have lG := pLen pG
    have hF := found_len hsrt gr h1
    have nlf : f0 ≠ l := ne_of_none upd_same nl
    have ef2 : H2 f0 = some (.lst []) := s2 _ _ upd_same
    have smA : Same H H2 := s1.trans s2
    refine for_list (xs := ls.map V.ref) (fun i σ H' => ∃ x3 x4 x5, σ = [some v, some (.int (m : Int)), some (.ref f0), x3, x4, x5, none] ∧ Same H H' ∧ Tle H2 H' ∧ (∀ b o, b ≠ f0 → H2 b = some o → H' b = some o) ∧ ∃ fs, H' f0 = some (.lst fs) ∧ Paired (PrV K H') fs (foundOf (G.take i)))
      ⟨none, none, none, rfl, smA, Tle.refl _, fun b o _ e => e, [], ef2, .nil⟩ (fun i σ H' hi hP => ?_) (fun i x σ H' hx hP => ?_) (fun σ H' hP => ?_)
    · obtain ⟨x3, x4, x5, rfl, _, _, kb, _⟩ := hP
      exact sqL (kb _ _ (Ne.symm nlf) el)
    · obtain ⟨x3, x4, x5, rfl, sm, tl, kb, fs, ef, pf⟩ := hP
      rw [List.getElem?_map] at hx
      obtain ⟨a, ha, rfl⟩ := Option.map_eq_some_iff.mp hx
      obtain ⟨g, hg, zs, ez, pz⟩ := pAt pG ha
      have hgm := List.mem_of_getElem? hg
      have naf : f0 ≠ a := ne_of_none upd_same (nls a (List.mem_of_getElem? ha))
      have lz := pLen pz
      have hgl := grp_len gr hgm
      have eF : foundOf (G.take (i + 1)) = foundOf (G.take i) ++ prs g.2 := found_take hg
      have lF := found_le G (i + 1)
      rw [eF, List.length_append] at lF
      refine ⟨_, rfl, a, zs, rfl, sqL (kb _ _ (Ne.symm naf) ez), ?_⟩
      refine for_enumL (xs := zs) (fun j σ H3 => ∃ x4 x5, σ = [some v, some (.int (m : Int)), some (.ref f0), some (.ref a), x4, x5, none] ∧ Same H H3 ∧ Tle H2 H3 ∧ (∀ b o, b ≠ f0 → H2 b = some o → H3 b = some o) ∧ ∃ fs, H3 f0 = some (.lst fs) ∧ Paired (PrV K H3) fs (foundOf (G.take i) ++ prsT g.2 j))
        ⟨x4, x5, rfl, sm, tl, kb, fs, ef, by rw [show prsT g.2 0 = [] by cases g.2 <;> rfl, List.append_nil]; exact pf⟩ (fun j σ H3 hj hP => ?_) (fun j y T0 σ H3 hy hP nT => ?_) (fun σ H3 hP => ?_)
      · obtain ⟨x4, x5, rfl, _, _, kb3, _⟩ := hP
        exact sqL (kb3 _ _ (Ne.symm naf) ez)
      · obtain ⟨x4, x5, rfl, sm3, tl3, kb3, fs3, ef3, pf3⟩ := hP
        obtain ⟨u, hu, ru⟩ := pAt pz hy
        have hjl : j < zs.length := (List.getElem?_eq_some_iff.mp hy).1
        have huw : u ∈ allw R.length m := by
          have := List.mem_of_getElem? hu
          rw [(gr.fil g hgm).1] at this
          exact (List.mem_filter.mp this).1
        have hune := ((mem_allw R.length m).mp huw).1
        obtain ⟨u0, ur, rfl⟩ : ∃ u0 ur, u = u0 :: ur := ⟨u.head hune, u.tail, (List.cons_head_tail hune).symm⟩
        have eT := prsT_next hu
        have lT := prsT_le g.2 (i := j + 1)
        rw [eT, List.length_append] at lT
        have lf3 := pLen pf3
        rw [List.length_append] at lf3
        refine ⟨T0, _, rfl, sqT upd_same, rfl, _, _, rfl, _, _, rfl, rfl, ?_⟩
        have s4 : Same H3 (L2.upd H3 T0 (.tup [.int (j : Nat), y])) := same_new nT
        have ef4 := s4 _ _ ef3
        have ez4 := s4 _ _ (kb3 _ _ (Ne.symm naf) ez)
        refine ⟨_, rfl, .inl ⟨rfl, _, sqL ef4⟩, _, rfl, _, rfl, _, _, rfl, rfl, _, rfl, a, zs, rfl, sqL ez4, fun l2 nl2 => ?_⟩
        have hix : (j : Int) + 1 = ((j + 1 : Nat) : Int) := by omega
        have ecut : cutV zs (some ((j : Int) + 1)) none = zs.drop (j + 1) := by rw [hix]; exact cutFrom zs (j + 1)
        rw [ecut]
        have s5 := s4.trans (same_new (o := .lst (zs.drop (j + 1))) nl2)
        refine ⟨l2, rfl, ⟨_, sqL upd_same⟩, fun D nD => ?_⟩
        have s6 := s5.trans (same_new (o := .lst []) nD)
        have ry : WdV K H3 y (u0 :: ur) := ru.mono tl3
        have pz3 : Paired (WdV K H3) (zs.drop (j + 1)) (g.2.drop (j + 1)) := pDrop _ (pMap pz fun _ _ z => z.mono tl3)
        refine lc_list (xs := zs.drop (j + 1)) (fun q H5 => Same H3 H5 ∧ H5 l2 = some (.lst (zs.drop (j + 1))) ∧ ∃ ws, H5 D = some (.lst ws) ∧ Paired (PrV K H5) ws (prow (u0 :: ur) ((g.2.drop (j + 1)).take q)))
          ⟨s6, (same_new nD) _ _ upd_same, [], upd_same, .nil⟩ (fun q H5 hq hP => ?_) (fun q z H5 hz hP => ?_) (fun H5 hP => ?_)
        · exact sqL hP.2.1
        · obtain ⟨sm5, el5, ws, eD, pw⟩ := hP
          have nDH : H3 D = none := Same.free s5 nD
          have nDl : l2 ≠ D := ne_of_none upd_same nD
          obtain ⟨x', hx', rz⟩ := pAt pz3 hz
          have hxw : x' ∈ allw R.length m := by
            have := List.mem_of_mem_drop (List.mem_of_getElem? hx')
            rw [(gr.fil g hgm).1] at this
            exact (List.mem_filter.mp this).1
          have hxne := ((mem_allw R.length m).mp hxw).1
          obtain ⟨v0, vr, rfl⟩ : ∃ v0 vr, x' = v0 :: vr := ⟨x'.head hxne, x'.tail, (List.cons_head_tail hxne).symm⟩
          obtain ⟨ay, rfl, hSy⟩ := id (ry.mono (Tle.same sm5))
          obtain ⟨az, rfl, hSz⟩ := id (rz.mono (Tle.same sm5))
          have et : (g.2.drop (j + 1)).take (q + 1) = (g.2.drop (j + 1)).take q ++ [v0 :: vr] := by rw [List.take_add_one, hx']; rfl
          have eP : prow (u0 :: ur) ((g.2.drop (j + 1)).take (q + 1)) = prow (u0 :: ur) ((g.2.drop (j + 1)).take q) ++ (if u0 = v0 then [] else [(u0 :: ur, v0 :: vr)]) := by
            rw [et]
            unfold prow
            rw [List.filter_append, List.map_append]
            congr 1
            by_cases e : u0 = v0 <;> simp [e]
          have lw := pLen pw
          have hq400 : (prow (u0 :: ur) ((g.2.drop (j + 1)).take q)).length ≤ 400 := by
            unfold prow
            rw [List.length_map]
            have h5 := List.length_filter_le (fun v => decide ((u0 :: ur).head? ≠ v.head?)) ((g.2.drop (j + 1)).take q)
            rw [List.length_take, List.length_drop] at h5
            omega
          refine ⟨rfl, _, rfl, ay, _, _, _, rfl, rfl, hSy, atI_nat (j := 0) rfl, _, rfl, az, _, _, _, rfl, rfl, hSz, atI_nat (j := 0) rfl, rfl, _, rfl, ?_⟩
          refine ite2 (fun hc => ?_) (fun hc => ?_)
          · have hne : u0 ≠ v0 := fun z => by
              rw [z] at hc
              simp at hc
            refine ⟨_, rfl, _, rfl, two_line, fun t nt => ⟨ws, (same_new nt) _ _ eD, line_of (by omega), sameUpd (sm5.trans (same_new nt)) nDH, ?_, _, upd_same, ?_⟩⟩
            · rw [upd_ne nDl]; exact (same_new nt) _ _ el5
            · rw [eP, if_neg hne]
              have eDt := (same_new (o := .tup [.ref ay, .ref az]) nt) _ _ eD
              have t8 : Tle H5 (L2.upd (L2.upd H5 t (.tup [.ref ay, .ref az])) D (.lst (ws ++ [.ref t]))) := (Tle.new nt).trans (.lst eDt)
              refine pSnoc (pMap pw fun _ _ y => y.mono t8) ⟨t, .ref ay, .ref az, rfl, (Tle.lst eDt).sq (sqT upd_same), (ry.mono (Tle.same sm5)).mono t8, (rz.mono (Tle.same sm5)).mono t8⟩
          · have he : u0 = v0 := Decidable.byContradiction fun z => hc (by
              have : ¬ (V.int (u0 : Int) = V.int (v0 : Int)) := fun y => z (by have := V.int.inj y; omega)
              rw [decide_eq_false this]; rfl)
            refine ⟨sm5, el5, ws, eD, ?_⟩
            rw [eP, if_pos he, List.append_nil]
            exact pw
        · obtain ⟨sm5, el5, ws, eD, pw⟩ := hP
          have ef5 := sm5 _ _ ef3
          rw [List.length_drop, List.take_of_length_le (by rw [List.length_drop]; omega)] at pw
          have lw := pLen pw
          have nDf : f0 ≠ D := ne_of_none (s5 _ _ ef3) nD
          have t6 : Tle H5 (L2.upd H5 f0 (.lst (fs3 ++ ws))) := .lst ef5
          refine ⟨f0, D, fs3, ws, rfl, rfl, ef5, eD, by rw [sizeLine_eq]; omega, ?_⟩
          refine ⟨_, _, rfl, sameUpd (sm3.trans sm5) nfH, (tl3.trans (Tle.same sm5)).trans t6, fun b o hb e => ?_, _, upd_same, ?_⟩
          · rw [upd_ne hb]; exact sm5 _ _ (kb3 _ _ hb e)
          · rw [eT, ← List.append_assoc]
            exact pApp (pMap pf3 fun _ _ y => y.mono ((Tle.same sm5).trans t6)) (pMap pw fun _ _ y => y.mono t6)
      · obtain ⟨x4, x5, rfl, sm3, tl3, kb3, fs3, ef3, pf3⟩ := hP
        rw [lz, prsT_all] at pf3
        refine ⟨_, _, _, rfl, sm3, tl3, kb3, fs3, ef3, ?_⟩
        rw [eF]; exact pf3
    · obtain ⟨x3, x4, x5, rfl, sm, tl, kb, fs, ef, pf⟩ := hP
      rw [List.length_map, lG, List.take_length] at pf
      refine ⟨_, rfl, f0, fs, _, rfl, rfl, sqL ef, pf, by omega, fun p hp => ?_, fun ys q py nq => ?_⟩
      · obtain ⟨a1, a2⟩ := mem_found_word hsrt gr hp
        have b1 := ((mem_allw R.length m).mp a1).2.1
        have b2 := ((mem_allw R.length m).mp a2).2.1
        exact ⟨by omega, by omega⟩
      · rw [sorted_due hsrt gr] at py
        refine ⟨q, ys, rfl, .inl ⟨sqL upd_same, fun t nt => ?_⟩⟩
        have s7 := (same_new (o := .lst ys) nq).trans (same_new (o := .tup ys) nt)
        exact k _ t ys (sm.trans s7) (sqT upd_same) (pMap py fun _ _ y => y.mono (Tle.same s7))
end
section
variable {P : Program} {w : World} {K : PySem.W.Frag} {mg : Str → Option Value} {base : Heap}
def gdFree : List (List Rat) → Nat → Hp → VK → Prop := fun R m H Q => ∀ H' b, Same H H' → (b = true ↔ ((allw R.length m).map (wstep R)).Nodup) → Q (.bl b) H'
theorem ok_is_free_to (T : Tx K mg) (X : TxE P K mg) : FnOk P w K mg base (L2.CX P w) 6 T.is_free_to.f T.is_free_to.fd ["steps", "most"] (spAsk K X gdFree) := by
  refine T.is_free_to.F.okX sc_is_free_to (fun vs H Q E h => ?_) (fun cdv A outer' s H vs Q E hr h => ?_)
  · obtain ⟨v, mo, rfl, _⟩ := h
    rfl
  · obtain ⟨v, mo, rfl, h⟩ := h
    refine ⟨_, (pss_cons (ps_expr (pe_callS (ok_need_row T X) (hr.mono (by decide)) (by rfl) T.need_row.g T.need_row.F.kp T.need_row.b (fun σ => passAt (takes_of rfl rfl rfl rfl) σ) (pa_cons (pv 0) pa_nil)))
      (pss_one (ps_ret (pe_cmpR (op_eqD hr.units) (pe_lc (own := [("words", 2)]) (g := gName 2) rfl sc_is_free_to.nd (pi_list (pe_callS (ok_classes_so T X) hr (by rfl) T.classes_so.g T.classes_so.F.kp T.classes_so.b (fun σ => passAt (takes_of rfl rfl rfl rfl) σ) (pa_cons (pv 0) (pa_cons (pe_callS (ok_need_most T X) (hr.mono (by decide)) (by rfl) T.need_most.g T.need_most.F.kp T.need_most.b (fun σ => passAt (takes_of rfl rfl rfl rfl) σ) (pa_cons (pv 1) pa_nil)) pa_nil)))) (blkOk_by (N := N_is_free_to) (own := [("words", 2)]) (sc := defScope s_is_free_to) (by decide +kernel)) (fun _ _ _ _ _ => pg_name (i := 2) sc_is_free_to.nd rfl (.inl rfl)) (fun _ _ _ _ _ => pts_one (pt_cmpR (r := rI0 fun i j => .bl (decide (j < i))) op_gt (pe_callB (id := "len") (r := rLen K) call_len_seq (by rfl) T.m_len (by decide +kernel) (pa_cons (pv 2) pa_nil)) pe_int (nomark _))) (fun _ _ _ _ _ => pe_int)) (pe_lst pa_nil) (nomark _))))), ?_⟩
    refine ⟨_, rfl, v, rfl, ?_⟩
    rcases h with ⟨a, x, L, rfl, ha, hx, hL, k⟩ | ⟨R, hv, n1, n8, hok, h⟩
    · exact .inr ⟨a, x, L, rfl, ha, hx, hL, k⟩
    refine .inl ⟨R, hv, n1, n8, hok, fun H0 s0 => ?_⟩
    refine ⟨_, rfl, _, rfl, mo, rfl, ?_⟩
    rcases h with ⟨hm, k⟩ | ⟨m, rfl, m1, m8, h⟩
    · exact .inr ⟨hm, k.same s0⟩
    refine .inl ⟨_, rfl, by omega, by omega, v, R, m, rfl, hv.mono (Tle.same s0), ⟨n1, n8, m1, m8, hok⟩, ?_⟩
    rcases h with ⟨h1, k⟩ | ⟨h1, h2, k⟩ | ⟨h1, hS, k⟩
    · exact .inl ⟨h1, k.same s0⟩
    · exact .inr (.inl ⟨h1, h2, k.same s0⟩)
    refine .inr (.inr ⟨h1, hS, fun H2 l ls G s2 el nl nls pG gr => ⟨l, rfl, ⟨_, sqL el⟩, fun D nD => ?_⟩⟩)
    have hsrt := allw_sorted R.length m
    have lG := pLen pG
    have hG400 : G.length ≤ 400 := by
      have e : G.length = (G.map (·.1)).length := by rw [List.length_map]
      have sub : ∀ k ∈ G.map (·.1), k ∈ (allw R.length m).map (wstep R) := fun k hk => by
        obtain ⟨g, hg, rfl⟩ := List.mem_map.mp hk
        obtain ⟨f1, f2⟩ := gr.fil g hg
        obtain ⟨y, hy⟩ := List.exists_mem_of_ne_nil _ f2
        rw [f1] at hy
        obtain ⟨a1, a2⟩ := List.mem_filter.mp hy
        exact List.mem_map.mpr ⟨y, a1, of_decide_eq_true a2⟩
      have := gr.nd.length_le_of_subset sub
      simp only [List.length_map] at this
      omega
    refine lc_list (xs := ls.map V.ref) (fun i H' => Same H2 H' ∧ ∃ ns : List Int, H' D = some (.lst (ns.map V.int)) ∧ ns.length ≤ i ∧ (ns = [] ↔ ∀ g ∈ G.take i, ¬ 1 < g.2.length))
      ⟨same_new nD, [], upd_same, Nat.le_refl _, by simp⟩ (fun i H' hi hP => sqL (hP.1 _ _ el)) (fun i x H' hx hP => ?_) (fun H' hP => ?_)
    · obtain ⟨sm, ns, eD, ln, iff⟩ := hP
      rw [List.getElem?_map] at hx
      obtain ⟨a, ha, rfl⟩ := Option.map_eq_some_iff.mp hx
      have hil : i < ls.length := (List.getElem?_eq_some_iff.mp ha).1
      obtain ⟨g, hg, zs, ez, pz⟩ := pAt pG ha
      have lz := pLen pz
      have et : G.take (i + 1) = G.take i ++ [g] := by rw [List.take_add_one, hg]; rfl
      refine ⟨rfl, _, rfl, a, zs, rfl, .inl (sqL (sm _ _ ez)), _, _, rfl, rfl, _, rfl, ite2 (fun hc => ?_) (fun hc => ?_)⟩
      · have h1 : 1 < g.2.length := by have := of_decide_eq_true hc; omega
        refine ⟨_, eD, by rw [List.length_map]; exact line_of (by omega), sameUpd sm nD, ns ++ [1], ?_, by rw [List.length_append, List.length_singleton]; omega, ?_⟩
        · rw [upd_same, List.map_append]; rfl
        · rw [et]
          constructor
          · intro z; simp at z
          · intro z; exact absurd h1 (z g (List.mem_append_right _ (List.mem_singleton.mpr rfl)))
      · have h1 : ¬ 1 < g.2.length := fun z => hc (decide_eq_true (by omega))
        refine ⟨sm, ns, eD, by omega, ?_⟩
        rw [et, iff]
        constructor
        · intro z g' hg'
          rcases List.mem_append.mp hg' with hg' | hg'
          · exact z g' hg'
          · rw [List.mem_singleton.mp hg']; exact h1
        · intro z g' hg'
          exact z g' (List.mem_append_left _ hg')
    · obtain ⟨sm, ns, eD, ln, iff⟩ := hP
      rw [List.length_map, lG, List.take_length] at iff
      refine ⟨Nat.zero_le _, fun e ne => ⟨_, _, .lst (sqL ((same_new ne) _ _ eD)) (dpAll_ints ns), .lst (sqL upd_same) .nil, shaped_ints ns, shaped_ints [], ?_⟩⟩
      rw [eqv_nil]
      refine k _ _ ((s0.trans s2).trans (sm.trans (same_new ne))) ?_
      rw [decide_eq_true_iff, iff]
      exact free_iff hsrt gr
end
/-! ### defs that lean on it that no container is being shown: as FnOk, with that said of the stack -/
/-- how such a def is called -/
structure Asked (P : Program) (w : World) (K : PySem.W.Frag) (mg : Str → Option Value) (base : Heap) (k : Nat) (fd : FuncData) (ps : List Str) (A : Around) (outer : List Env) (s : Shared) (H : Hp) (args : Args) (us : List Value) (vs : List V) : Prop where
  room : Room k A
  quiet : A.guards = some []
  env : Env0 P w K mg base A outer s H
  binds : BindsTo s fd args (ps.zip us)
  vals : Vals vs us
/-- its promise -/
structure FnG (P : Program) (w : World) (K : PySem.W.Frag) (mg : Str → Option Value) (base : Heap) (CX : CXT) (k : Nat) (f : Addr) (fd : FuncData) (ps : List Str) (sp : Sp) : Prop where
  count : ∀ {vs H Q E}, sp vs H Q E → vs.length = ps.length
  gives : ∀ {A outer s H args us vs Q E}, Asked P w K mg base k fd ps A outer s H args us vs → sp vs H Q E → codeAny (model P w) A (.call (.ref f) args) (CR CX outer P w H s Q E) s
/-- the code object of a def -/
abbrev Laid (K : PySem.W.Frag) (x qual : Str) (st : Stmt) (f : Addr) (cd : Value) : Prop := ∃ (oc : Value) (od : Option Addr) (kV doc pm : Value) (an : Option Addr) (ct : Value) (osl : Array (Option Value)), K.lookup f = some ⟨oc, od, .func (PySem.W.fnOf x qual (defArgs st) (defBody st) (defScope st) .none kV doc pm an cd ct), osl⟩
section
variable {CX : CXT} {P : Program} {w : World} {K : PySem.W.Frag} {mg : Str → Option Value} {base : Heap} {x qual : Str} {st : Stmt} {f : Addr} {fd : FuncData} {N ps : List Str} {k : Nat} {sp : Sp}
theorem okGX (F : Fun K x qual st f fd) (S : FnScope N ps (defScope st)) (len : ∀ vs H Q E, sp vs H Q E → vs.length = ps.length)
    (hbody : ∀ (cd : Value) (A : Around) (outer : List Env) (s : Shared) (H : Hp) (vs : List V) (Q : VK) (E : XK), Room k (A.deeper (envOfC qual (defScope st) s.heap.objs.size f cd)) → (A.deeper (envOfC qual (defScope st) s.heap.objs.size f cd)).guards = some [] → Env0 P w K mg base A outer s H → Laid K x qual st f cd → sp vs H Q E →
      ∃ t, PSs (cxOf CX P w K mg base N qual (defScope st) f cd A outer s H E) (defBody st) t ∧ t { nx := fun _ H' => Q .non H', rt := Q } (start N vs) H) : FnG P w K mg base CX (k + 1) f fd ps sp where
  count := len _ _ _ _
  gives {A outer s H args us vs Q E} C hsp := by
    obtain ⟨_, _, kV, doc, pm, an, cd, ct, _, rfl, lk, hcd⟩ := F.ex
    have old : ∀ b o, base.get? b = some o → s.heap.get? b = some o := fun b o e => (C.env.bs b o e).1
    have known : K.In s.heap := C.env.mod.kin.keeps old
    obtain ⟨t, reads, ends⟩ := hbody cd A outer s H vs Q E (C.room.deeper _) C.quiet C.env ⟨_, _, _, _, _, _, _, _, lk⟩ hsp
    refine codeAny_call_function C.room.depth (known _ _ lk) rfl S.co S.gen rfl (PySem.W.codeRec_of known hcd) (C.binds _ _ _ _ (wpAny_newFunctionEnv_cells S.kind ?_ ?_))
    · rintro ⟨n, v⟩ hp
      rcases S.par n (List.of_mem_zip hp).1 with q | q
      · exact .inl q
      · exact .inr ⟨q, PySem.W.cellsFrom_some _ _ _ (.inl q)⟩
    · rintro _ rfl s1 made
      refine ⟨(C.env.mod.nolimit.keeps old).keeps made.toInCall.keep, codeAny_func (thn (reads.run [] s1 (start N vs) H _ (inv_start S C.room.hd C.env (len _ _ _ _ hsp) C.vals made) ends) ?_)⟩
      rintro (_ | _ | _ | u) s' done
      · exact let ⟨_, H', J, q⟩ := done; ⟨V.non, H', J.os, J.bare, J.base, J.hok, rfl, q⟩
      · exact let ⟨_, _, _, q⟩ := done; q.elim
      · exact let ⟨_, _, _, q⟩ := done; q.elim
      · exact let ⟨v, _, H', J, r, q⟩ := done; ⟨v, H', J.os, J.bare, J.base, J.hok, r, q⟩
theorem _root_.L2.Fun.okG (F : Fun K x qual st f fd) (S : FnScope N ps (defScope st)) (len : ∀ vs H Q E, sp vs H Q E → vs.length = ps.length)
    (hbody : ∀ (cd : Value) (A : Around) (outer : List Env) (s : Shared) (H : Hp) (vs : List V) (Q : VK) (E : XK), Room k (A.deeper (envOfC qual (defScope st) s.heap.objs.size f cd)) → (A.deeper (envOfC qual (defScope st) s.heap.objs.size f cd)).guards = some [] → sp vs H Q E →
      ∃ t, PSs (cxOf CX P w K mg base N qual (defScope st) f cd A outer s H E) (defBody st) t ∧ t { nx := fun _ H' => Q .non H', rt := Q } (start N vs) H) : FnG P w K mg base CX (k + 1) f fd ps sp :=
  okGX F S len fun cd A outer s H vs Q E hr quiet _ _ hsp => hbody cd A outer s H vs Q E hr quiet hsp
end
section
variable {X : Cx} {CX : CXT} {k : Nat} {f : Addr} {fd : FuncData} {ps : List Str} {sp : Sp} {E : XK} {x : Str} {p pos : Pos} {e : Expr} {es : List Expr} {t : TA}
theorem FnG.called {pins : List (Addr × Obj)} {σ : L2.St} {H : Hp} {s : Shared} {Q : VK} {us : List Value} {vs : List V} (F : FnG X.prog X.w X.K X.mg X.base CX k f fd ps sp) (hr : Room k X.A) (quiet : X.A.guards = some []) (hb : Binds X.K fd ps []) (hx : Passes CX X E)
    (I : Inv X pins σ H s) (r : Vals vs us) (h : sp vs H Q E) : wpAny (model X.prog X.w) X.A (call (.ref f) us) (EP X pins σ Q) X.xe s := by
  have bound : BindsTo s fd ⟨us, []⟩ (ps.zip us) := by simpa only [List.append_nil] using hb s us I.kIn (by rw [List.append_nil, ← r.length]; exact F.count h)
  refine wpAny_call (codeAny_mono (F.gives ⟨hr, quiet, I.env0, bound, r⟩ h) ?_)
  rintro (er | _ | _ | _ | u) s' done
  · exact hx pins σ H s er s' I done
  · exact False.elim done
  · exact False.elim done
  · exact False.elim done
  · exact I.after done
/-- x(e, ..), x a def of that kind -/
theorem pe_callG (F : FnG X.prog X.w X.K X.mg X.base CX k f fd ps sp) (hr : Room k X.A) (quiet : X.A.guards = some []) (hg : Gl X x) (hm : X.mg x = some (.ref f)) (hk : PySem.W.keepIn X.K (.ref f) = true) (hb : Binds X.K fd ps []) (hx : Passes CX X E) (ha : PA X (e :: es) t)
    (plain : (x == ("__debug__" : Str)) = false ∧ starEach (e :: es) X.env = (false, eval e X.env) :: starEach es X.env ∧ (backTo pos (starEach es X.env)).any (·.1) = false := by exact ⟨by decide, by rfl, by rfl⟩) :
    PE X (.Call (.Name x p) (e :: es) [] pos) (fun σ H Q => t σ H fun vs H1 => sp vs H1 Q E) where
  run pins s σ H Q I h := by
    obtain ⟨dbg, one, flat⟩ := plain
    have vals := thn (ha.run pos pins s σ H _ I h) fun us s1 ⟨_, _, I1, r, q⟩ => (⟨I1.kIn, F.called hr quiet hb hx I1 r q⟩ : X.K.In s1.heap ∧ wpAny (model X.prog X.w) X.A (call (.ref f) us) (EP X pins σ Q) X.xe s1)
    exact wpAny_Call_Name_kw (ld_glob I hg hm (PySem.W.callWith_K (h₀ := X.base) I.ok.mod.kin hk vals one flat) dbg)
/-- x() -/
theorem pe_callG0 (F : FnG X.prog X.w X.K X.mg X.base CX k f fd ps sp) (hr : Room k X.A) (quiet : X.A.guards = some []) (hg : Gl X x) (hm : X.mg x = some (.ref f)) (hk : PySem.W.keepIn X.K (.ref f) = true) (hb : Binds X.K fd ps []) (hx : Passes CX X E) (dbg : (x == ("__debug__" : Str)) = false := by decide) :
    PE X (.Call (.Name x p) [] [] pos) (fun σ H Q => sp [] H Q E) where
  run pins s σ H Q I h := wpAny_Call_Name_kw (ld_glob I hg hm (PySem.W.callWith_K0 I.kIn hk (F.called (us := []) hr quiet hb hx I .nil h)) dbg)
end
/-! ### repr of data -/
def rRepr (K : PySem.W.Frag) : List V → Hp → VK → Prop := fun xs H Q => ∃ (a : Addr) (d : PyData), xs = [.ref a] ∧ Dp K H (.ref a) d ∧ d.showable = true ∧ d.hasDict = false ∧ d.depth ≤ 50 ∧ d.shown.length ≤ sizeLine ∧ Q (.str d.shown) H
theorem call_repr {X : Cx} (hgd : X.A.guards = some []) (hu : X.A.units + 64 < cLine) : CallR X (.builtin "repr") (rRepr X.K) := by
  intro pins s σ H xs us Q I r h
  obtain ⟨a, d, rfl, hd, hs, hdict, hdep, hz, q⟩ := h
  obtain rfl := Vals.ref1 r
  obtain ⟨as, rd⟩ := Dp.reads I d (.ref a) (.ref a) hd rfl
  exact repr_of_reads' rd hs (fun z => by rw [hdict] at z; cases z) hgd (by omega) (fun b o e => e) (fun h' u tk k => ⟨.str d.shown, H, I.kept (t' := tk) k, ⟨u, rfl⟩, q⟩) hz
/-! ### _law_like -/
section
variable {P : Program} {w : World} {K : PySem.W.Frag} {mg : Str → Option Value} {base : Heap}
/-- both read as one -/
def spLike (K : PySem.W.Frag) : Sp := fun vs H Q _ => ∃ (a b : Addr) (d : PyData), vs = [.ref a, .ref b] ∧ Dp K H (.ref a) d ∧ Dp K H (.ref b) d ∧ d.showable = true ∧ d.hasDict = false ∧ d.depth ≤ 50 ∧ d.shown.length ≤ sizeLine ∧ Q (.bl true) H
theorem ok_law_like (T : Tx K mg) : FnG P w K mg base CX0 1 T.law_like.f T.law_like.fd ["_law_got", "_law_due"] (spLike K) := by
  refine T.law_like.F.okG sc_law_like (fun vs H Q E h => ?_) (fun cdv A outer' s H vs Q E hr hgd h => ?_)
  · obtain ⟨a, b, d, rfl, _⟩ := h
    rfl
  · obtain ⟨a, b, d, rfl, ha, hb, h1, h2, h3, h4, k⟩ := h
    have hu : (A.deeper (envOfC "_law_like" (defScope s_law_like) s.heap.objs.size T.law_like.f cdv)).units + 64 < cLine := by have := hr.un; omega
    refine ⟨_, (pss_one (ps_ret (pe_cmpR op_eq (pe_callB (call_repr hgd hu) (by rfl) T.m_repr (by decide +kernel) (pa_cons (pv 0) pa_nil)) (pe_callB (call_repr hgd hu) (by rfl) T.m_repr (by decide +kernel) (pa_cons (pv 1) pa_nil)) (nomark _)))), ?_⟩
    refine ⟨_, rfl, a, d, rfl, ha, h1, h2, h3, h4, _, rfl, b, d, rfl, hb, h1, h2, h3, h4, rfl, ?_⟩
    rw [show decide (V.str d.shown = V.str d.shown) = true from decide_eq_true rfl]
    exact k
end
end K65
namespace K65
def drow (f : Word → List Rat) (u : Word) (l : List Word) : List (Word × Word) := (l.filter fun v => decide (f u = f v ∧ u.head? ≠ v.head?)).map fun v => (u, v)
def dueT (f : Word → List Rat) : List Word → Nat → List (Word × Word)
  | _, 0 => []
  | [], _ + 1 => []
  | u :: l, i + 1 => drow f u l ++ dueT f l i
theorem dueT_zero (f : Word → List Rat) (l : List Word) : dueT f l 0 = [] := by cases l <;> rfl
theorem dueT_next {f : Word → List Rat} : ∀ {l : List Word} {i : Nat} {u : Word}, l[i]? = some u → dueT f l (i + 1) = dueT f l i ++ drow f u (l.drop (i + 1))
  | [], i, u, h => by simp at h
  | a :: l, 0, u, h => by
    have : a = u := by simpa using h
    subst this
    simp [dueT]
  | a :: l, i + 1, u, h => by
    have ih := dueT_next (f := f) (l := l) (i := i) (u := u) (by simpa using h)
    show drow f a l ++ dueT f l (i + 1) = drow f a l ++ dueT f l i ++ drow f u (l.drop (i + 1))
    rw [ih, List.append_assoc]
theorem dueT_all {f : Word → List Rat} : ∀ l : List Word, dueT f l l.length = dueOf f l
  | [] => rfl
  | a :: l => by
    show drow f a l ++ dueT f l l.length = _
    rw [dueT_all l]; rfl
theorem drow_take {f : Word → List Rat} {u v : Word} {l : List Word} {q : Nat} (h : l[q]? = some v) : drow f u (l.take (q + 1)) = drow f u (l.take q) ++ (if f u = f v ∧ u.head? ≠ v.head? then [(u, v)] else []) := by
  unfold drow
  rw [List.take_add_one, h]
  show ((l.take q ++ [v]).filter _).map _ = _
  rw [List.filter_append, List.map_append]
  congr 1
  by_cases e : f u = f v ∧ u.head? ≠ v.head? <;> simp [e]
theorem drow_len (f : Word → List Rat) (u : Word) (l : List Word) : (drow f u l).length ≤ l.length := by
  unfold drow
  rw [List.length_map]
  exact List.length_filter_le _ _
theorem dueT_len (f : Word → List Rat) : ∀ (l : List Word) (i : Nat), (dueT f l i).length ≤ i * l.length
  | _, 0 => by simp [dueT]
  | [], _ + 1 => by simp [dueT]
  | a :: l, i + 1 => by
    have := dueT_len f l i
    have := drow_len f a l
    show (drow f a l ++ dueT f l i).length ≤ (i + 1) * (l.length + 1)
    rw [List.length_append, Nat.succ_mul, Nat.mul_succ]
    omega
/-- X -/
def xL : List Rat := [0, 1]
theorem xL_tp : Tp xL := Tp.of_last rfl (by decide)
theorem xL_ev (x : Rat) : ev xL x = x := by simp only [xL, ev]; grind
/-- free <-> no relations, where no word is X -/
theorem free_due {R : List (List Rat)} (hR : Rows R) (m : Nat) (hx : ∀ w ∈ allw R.length m, wstep R w ≠ xL) : ((allw R.length m).map (wstep R)).Nodup ↔ dueOf (wstep R) (allw R.length m) = [] := by
  have hs := allw_sorted R.length m
  have wn : (allw R.length m).Nodup := sorted_nodup wLt_irrefl hs
  have sfx : ∀ {w u : Word}, w ≠ [] → w <:+ u → u ∈ allw R.length m → w ∈ allw R.length m := fun {w u} h1 h2 h3 => by
    obtain ⟨k1, k2, k3⟩ := (mem_allw R.length m).mp h3
    refine (mem_allw R.length m).mpr ⟨h1, Nat.le_trans h2.length_le k2, fun i hi => k3 i (h2.subset hi)⟩
  constructor
  · intro hn
    refine List.eq_nil_iff_forall_not_mem.mpr fun p hp => ?_
    obtain ⟨k1, k2, k3, k4, _⟩ := (mem_due hs (u := p.1) (v := p.2)).mp hp
    obtain ⟨i, hi, ei⟩ := List.mem_iff_getElem.mp k1
    obtain ⟨j, hj, ej⟩ := List.mem_iff_getElem.mp k2
    have hij := (List.getElem_inj (h₀ := by rw [List.length_map]; exact hi) (h₁ := by rw [List.length_map]; exact hj) hn).mp (show ((allw R.length m).map (wstep R))[i]'(by rw [List.length_map]; exact hi) = ((allw R.length m).map (wstep R))[j]'(by rw [List.length_map]; exact hj) by
      rw [List.getElem_map, List.getElem_map, ei, ej, k4])
    have e : p.1 = p.2 := by rw [← ei, ← ej]; simp only [hij]
    rw [e, wLt_irrefl] at k3
    cases k3
  · intro hd
    rw [List.Nodup, List.pairwise_map]
    refine List.pairwise_iff_getElem.mpr fun i j hi hj hij e => ?_
    have hu := List.getElem_mem hi
    have hv := List.getElem_mem hj
    obtain ⟨u1, u2, u3⟩ := (mem_allw R.length m).mp hu
    obtain ⟨v1, v2, v3⟩ := (mem_allw R.length m).mp hv
    have hne : (allw R.length m)[i] ≠ (allw R.length m)[j] := fun z => by
      have := (List.getElem_inj (h₀ := hi) (h₁ := hj) wn).mp z
      omega
    have hden := (wstep_iff hR u1 u3 v1 v3).mp e
    rcases relation_of hR hne u3 v3 hden with ⟨w, w1, w2, w3⟩ | ⟨u', v', a1, b1, a2, b2, hh, hd2⟩
    · have hw : w ∈ allw R.length m := w2.elim (fun z => sfx w1 z hu) fun z => sfx w1 z hv
      obtain ⟨_, _, k3⟩ := (mem_allw R.length m).mp hw
      exact hx w hw (eq_wstep hR w1 k3 xL_tp fun x => by rw [xL_ev, w3 x]).symm
    · have hu' := sfx a1 a2 hu
      have hv' := sfx b1 b2 hv
      obtain ⟨_, _, k3⟩ := (mem_allw R.length m).mp hu'
      obtain ⟨_, _, l3⟩ := (mem_allw R.length m).mp hv'
      have he := (wstep_iff hR a1 k3 b1 l3).mpr hd2
      have hne' : u' ≠ v' := fun z => hh (by rw [z])
      rcases wLt_total hne' with z | z
      · have := (mem_due hs (f := wstep R) (u := u') (v := v')).mpr ⟨hu', hv', z, he, hh⟩
        rw [hd] at this; cases this
      · have := (mem_due hs (f := wstep R) (u := v') (v := u')).mpr ⟨hv', hu', z, he.symm, fun y => hh y.symm⟩
        rw [hd] at this; cases this
end K65
namespace K65
open PySem PySem.Spec PyProof.Rows L2
/-! ### data that can be shown -/
structure GD (k b : Nat) (d : PyData) : Prop where
  sh : d.showable = true
  nd : d.hasDict = false
  lv : d.leavesShort 8 = true
  dp : d.depth ≤ k
  bk : d.bulk ≤ b
theorem GD.mono {k b k' b' : Nat} {d : PyData} (h : GD k b d) (hk : k ≤ k') (hb : b ≤ b') : GD k' b' d := ⟨h.sh, h.nd, h.lv, Nat.le_trans h.dp hk, Nat.le_trans h.bk hb⟩
theorem gd_int {i : Nat} (h : i < 10) : GD 0 0 (.int (i : Int)) := by
  have : i = 0 ∨ i = 1 ∨ i = 2 ∨ i = 3 ∨ i = 4 ∨ i = 5 ∨ i = 6 ∨ i = 7 ∨ i = 8 ∨ i = 9 := by omega
  rcases this with rfl | rfl | rfl | rfl | rfl | rfl | rfl | rfl | rfl | rfl <;> exact ⟨by decide +kernel, by decide +kernel, by decide +kernel, by decide +kernel, by decide +kernel⟩
theorem gd_bool (x : Bool) : GD 0 0 (.bool x) := by cases x <;> exact ⟨by decide +kernel, by decide +kernel, by decide +kernel, by decide +kernel, by decide +kernel⟩
structure GDs (k b : Nat) (ds : List PyData) : Prop where
  sh : PyData.showableAll ds = true
  nd : PyData.hasDictAll ds = false
  lv : PyData.leavesShortAll 8 ds = true
  dp : PyData.depthAll ds ≤ k
  bk : PyData.bulkAll ds ≤ ds.length * (b + 1)
theorem gds_of {k b : Nat} : ∀ {ds : List PyData}, (∀ d ∈ ds, GD k b d) → GDs k b ds
  | [], _ => ⟨by simp [PyData.showableAll], by simp [PyData.hasDictAll], by simp [PyData.leavesShortAll], by simp [PyData.depthAll], by simp [PyData.bulkAll]⟩
  | d :: ds, h => by
    have h1 := h d List.mem_cons_self
    have h2 := gds_of fun x hx => h x (List.mem_cons_of_mem _ hx)
    refine ⟨by simp [PyData.showableAll, h1.sh, h2.sh], by simp [PyData.hasDictAll, h1.nd, h2.nd], by simp [PyData.leavesShortAll, h1.lv, h2.lv], ?_, ?_⟩
    · have := h1.dp
      have := h2.dp
      simp only [PyData.depthAll]; omega
    · have := h1.bk
      have := h2.bk
      simp only [PyData.bulkAll, List.length_cons, Nat.succ_mul]; omega
theorem GDs.tup {k b : Nat} {ds : List PyData} (h : GDs k b ds) : GD (k + 1) (ds.length * (b + 1)) (.tuple ds) :=
  ⟨by rw [PyData.showable]; exact h.sh, by rw [PyData.hasDict]; exact h.nd, by rw [PyData.leavesShort]; exact h.lv, by rw [PyData.depth]; have := h.dp; omega, by rw [PyData.bulk]; exact h.bk⟩
theorem GDs.lst {k b : Nat} {ds : List PyData} (h : GDs k b ds) : GD (k + 1) (ds.length * (b + 1)) (.list ds) :=
  ⟨by rw [PyData.showable]; exact h.sh, by rw [PyData.hasDict]; exact h.nd, by rw [PyData.leavesShort]; exact h.lv, by rw [PyData.depth]; have := h.dp; omega, by rw [PyData.bulk]; exact h.bk⟩
theorem GD.like {k b : Nat} {d : PyData} (h : GD k b d) (hk : k ≤ 50) (hb : b ≤ 1000000) : d.showable = true ∧ d.hasDict = false ∧ d.depth ≤ 50 ∧ d.shown.length ≤ sizeLine := by
  have := PyData.shown_le_bulk 8 (by decide) d h.lv
  have := h.bk
  refine ⟨h.sh, h.nd, Nat.le_trans h.dp hk, ?_⟩
  rw [sizeLine_eq]; omega
def dPr (p : Word × Word) : PyData := .tuple [dWd p.1, dWd p.2]
theorem gd_wd {u : Word} (h : ∀ i ∈ u, i < 10) (hl : u.length ≤ 8) : GD 1 8 (dWd u) := by
  have := (gds_of (k := 0) (b := 0) (ds := u.map fun (i : Nat) => PyData.int (i : Int)) fun d hd => by
    obtain ⟨i, hi, rfl⟩ := List.mem_map.mp hd
    exact gd_int (h i hi)).tup
  rw [List.length_map] at this
  exact this.mono (Nat.le_refl _) (by omega)
theorem gd_pr {p : Word × Word} (h1 : ∀ i ∈ p.1, i < 10) (l1 : p.1.length ≤ 8) (h2 : ∀ i ∈ p.2, i < 10) (l2 : p.2.length ≤ 8) : GD 2 18 (dPr p) := by
  refine (gds_of (k := 1) (b := 8) (ds := [dWd p.1, dWd p.2]) fun d hd => ?_).tup
  rcases List.mem_cons.mp hd with rfl | hd
  · exact gd_wd h1 l1
  · rw [List.mem_singleton.mp hd]; exact gd_wd h2 l2
theorem gd_due {f : Word → List Rat} {n m : Nat} (hn : n ≤ 8) (hm : m ≤ 8) : GD 3 ((dueOf f (allw n m)).length * 19) (.tuple ((dueOf f (allw n m)).map dPr)) := by
  have := (gds_of (k := 2) (b := 18) (ds := (dueOf f (allw n m)).map dPr) fun d hd => by
    obtain ⟨p, hp, rfl⟩ := List.mem_map.mp hd
    obtain ⟨a1, a2, _⟩ := (mem_due (allw_sorted n m) (u := p.1) (v := p.2)).mp hp
    obtain ⟨_, b1, b2⟩ := (mem_allw n m).mp a1
    obtain ⟨_, c1, c2⟩ := (mem_allw n m).mp a2
    exact gd_pr (fun i hi => by have := b2 i hi; omega) (by omega) (fun i hi => by have := c2 i hi; omega) (by omega)).tup
  rw [List.length_map] at this
  exact this
section
variable {K : PySem.W.Frag} {H : Hp}
theorem PrV.dp {v : V} {p : Word × Word} (h : PrV K H v p) : Dp K H v (dPr p) := by
  obtain ⟨q, x, y, rfl, hS, hx, hy⟩ := h
  exact .tup hS (.cons hx.dp (.cons hy.dp .nil))
theorem prs_dp {ys : List V} {ps : List (Word × Word)} (h : Paired (PrV K H) ys ps) : DpAll K H ys (ps.map dPr) := dpAll_of (fun _ _ z => PrV.dp z) h
end
theorem lit_x : lit p_x = xL := by decide +kernel
theorem eqv_prs (ps : List (Word × Word)) : PyData.eqv (.list (ps.map dPr)) (.list []) = decide (ps = []) := by
  cases ps with
  | nil => simp [PyData.eqv, PyData.eqvAll]
  | cons p ps => simp [PyData.eqv, PyData.eqvAll]
theorem dWd_lay (u : Word) : PyData.canLay0 (dWd u) = true := by
  unfold dWd
  rw [PyData.canLay0]
  exact canLay_all (fun _ => by simp [PyData.canLay0]) u
theorem dPr_lay (p : Word × Word) : PyData.canLay0 (dPr p) = true := by
  unfold dPr
  rw [PyData.canLay0, PyData.canLayAll0, PyData.canLayAll0, PyData.canLayAll0, dWd_lay, dWd_lay]; rfl
theorem gd_shaped {d : PyData} (h : PyData.canLay0 d = true) (hd : d.depth ≤ 8) : SeqAt.shaped d = true := by
  unfold SeqAt.shaped
  rw [h, Bool.true_and]
  exact decide_eq_true (by omega)
section
variable {P : Program} {w : World} {K : PySem.W.Frag} {mg : Str → Option Value} {base : Heap}
def spRight (K : PySem.W.Frag) : Sp := fun vs H Q _ => ∃ (d c l : Addr) (n : Nat), vs = [.ref d] ∧ StA H d c l n ∧ n ≤ 900 ∧ ∀ H', But d l H H' → StA H' d c l (n + 51) → Q (.bl true) H'
theorem ok_law_right (T : Tx K mg) (X : TxE P K mg) : FnG P w K mg base CX0 8 T.law_right.f T.law_right.fd ["_law_state"] (spRight K) := by
  refine T.law_right.F.okG sc_law_right (fun vs H Q E h => ?_) (fun cdv A outer' s H vs Q E hr hgd h => ?_)
  · obtain ⟨d, c, l, n, rfl, _⟩ := h
    rfl
  · obtain ⟨d, c, l, n, rfl, st, hn, k⟩ := h
    refine ⟨_, (pss_cons (ps_set (i := 1) sc_law_right.nd rfl (.inr rfl) (pe_call (ok_law_some_steps T) (hr.mono (by decide)) (by rfl) T.law_some_steps.g T.law_some_steps.F.kp T.law_some_steps.b .nil pass0 (pa_cons (pv 0) pa_nil)))
      (pss_cons (ps_set (i := 2) sc_law_right.nd rfl (.inl rfl) (pe_op op_add pe_int (pe_call (ok_law_draw T) (hr.mono (by decide)) (by rfl) T.law_draw.g T.law_draw.F.kp T.law_draw.b .nil pass0 (pa_cons (pv 0) (pa_cons (pe_ifExp (pt_cmpR op_lt (pe_callB call_len_seq (by rfl) T.m_len (by decide +kernel) (pa_cons (pv 1) pa_nil)) pe_int (nomark _)) pe_int pe_int) pa_nil)))))
      (pss_cons (ps_set (i := 3) sc_law_right.nd rfl (.inl rfl) (pe_call (ok_law_words T) (hr.mono (by decide)) (by rfl) T.law_words.g T.law_words.F.kp T.law_words.b .nil pass0 (pa_cons (pe_callB call_len_seq (by rfl) T.m_len (by decide +kernel) (pa_cons (pv 1) pa_nil)) (pa_cons (pv 2) pa_nil))))
      (pss_cons (ps_asg (pe_tup (pa_cons (pe_lc (own := [("_law_word_so", 4)]) (g := gName 4) rfl sc_law_right.nd (pi_list (pv 3)) (blkOk_by (N := N_law_right) (own := [("_law_word_so", 4)]) (sc := defScope s_law_right) (by decide +kernel)) (fun _ _ _ _ _ => pg_name (i := 4) sc_law_right.nd rfl (.inl rfl)) (fun _ _ _ _ _ => pts_nil) (fun _ _ _ _ _ => (pe_call (ok_law_word_step T) hr (by rfl) T.law_word_step.g T.law_word_step.F.kp T.law_word_step.b .nil pass0 (pa_cons (pv 1) (pa_cons (pv 4) pa_nil))))) (pa_cons (pe_lst pa_nil) (pa_cons pe_bl (pa_cons pe_bl pa_nil))))) (pg_tup (by rfl) (pgs_cons (pg_name (i := 5) sc_law_right.nd rfl (.inl rfl)) (pgs_cons (pg_name (i := 6) sc_law_right.nd rfl (.inl rfl)) (pgs_cons (pg_name (i := 7) sc_law_right.nd rfl (.inl rfl)) (pgs_cons (pg_name (i := 8) sc_law_right.nd rfl (.inl rfl)) pgs_nil))))))
      (pss_cons (ps_for (passes_of rfl) rfl (pi_enum (by rfl) T.m_enumerate (pa_cons (pv 3) pa_nil)) (pg_tup (by rfl) (pgs_cons (pg_name (i := 9) sc_law_right.nd rfl (.inl rfl)) (pgs_cons (pg_name (i := 10) sc_law_right.nd rfl (.inl rfl)) pgs_nil)))
        (pss_cons (ps_set (i := 8) sc_law_right.nd rfl (.inl rfl) (pe_or (pv 8) (pe_one (pe_cmpR (op_eqD hr.units) (pe_ix ix_list (pv 5) (pv 9) (fun _ _ => rfl)) (pe_lit (ps := p_x) (pa_cons (pe_tup (pa_cons pe_int (pa_cons pe_int pa_nil))) (pa_cons (pe_tup (pa_cons pe_int (pa_cons pe_int pa_nil))) pa_nil))) (nomark _)))))
        (pss_one (ps_for (passes_of rfl) rfl (pi_range2 (by rfl) T.m_range (pa_cons (pe_op op_add (pv 9) pe_int) (pa_cons (pe_callB call_len_seq (by rfl) T.m_len (by decide +kernel) (pa_cons (pv 3) pa_nil)) pa_nil))) (pg_name (i := 11) sc_law_right.nd rfl (.inl rfl))
          (pss_one (ps_if (pt_cmpR (op_eqD hr.units) (pe_ix ix_list (pv 5) (pv 9) (fun _ _ => rfl)) (pe_ix ix_list (pv 5) (pv 11) (fun _ _ => rfl)) (nomark _))
            (pss_cons (ps_set (i := 7) sc_law_right.nd rfl (.inl rfl) pe_bl)
            (pss_one (ps_if (pt_cmpR op_ne (pe_ix ix_tup (pv 10) pe_int (fun _ _ => rfl)) (pe_ix ix_tup (pe_ix ix_list (pv 3) (pv 11) (fun _ _ => rfl)) pe_int (fun _ _ => rfl)) (nomark _))
              (pss_one (ps_expr (pe_bm PySem.F.plainAttrs_list PySem.F.slot_list_append PySem.F.type_list_append mt_append (pv 6) (pa_cons (pe_tup (pa_cons (pv 10) (pa_cons (pe_ix ix_list (pv 3) (pv 11) (fun _ _ => rfl)) pa_nil))) pa_nil))))
              pss_nil)))
            pss_nil))))))
      (pss_cons (ps_set (i := 12) sc_law_right.nd rfl (.inl rfl) (pe_lst (pa_cons (pe_call (ok_relations T X) (hr.mono (by decide)) (by rfl) T.relations.g T.relations.F.kp T.relations.b .nil passL (pa_cons (pv 1) (pa_cons (pv 2) pa_nil))) (pa_cons (pe_call (ok_is_free_to T X) (hr.mono (by decide)) (by rfl) T.is_free_to.g T.is_free_to.F.kp T.is_free_to.b .nil passL (pa_cons (pv 1) (pa_cons (pv 2) pa_nil))) pa_nil))))
      (pss_cons (ps_if (pt_not (pt_val (pe_callG (ok_law_like T) (hr.mono (by decide)) hgd (by rfl) T.law_like.g T.law_like.F.kp T.law_like.b pass0 (pa_cons (pv 12) (pa_cons (pe_lst (pa_cons (pe_callTy call_tuple_of (by rfl) T.m_tuple (by decide +kernel) (pa_cons (pv 6) pa_nil)) (pa_cons (pv 7) pa_nil))) pa_nil)))))
        (pss_one (ps_ret pe_bl))
        pss_nil)
      (pss_one (ps_ret (pe_or (pv 8) (pe_one (pe_cmpR op_eq (pv 7) (pe_cmpR (op_eqD hr.units) (pv 6) (pe_lst pa_nil) (nomark _)) (nomark _))))))))))))), ?_⟩
    refine ⟨_, rfl, d, c, l, n, rfl, st, by omega, fun H1 vR R b1 st1 hRw hMenu => ?_⟩
    obtain ⟨aR, us, rfl, hSR, pR⟩ := id hRw
    have lR := pLen pR
    have hL := hMenu.len
    refine ⟨_, rfl, ?_⟩
    refine part (te := tIf _ _ _) (fun x H2 => H1 = H2 ∧ ∃ lim : Nat, x = .int (lim : Int) ∧ 2 ≤ lim ∧ lim ≤ 3 ∧ (R.length = 2 ∨ lim = 2)) (fun S key => ?_) (fun x H2 hx => ?_)
    · refine ⟨_, rfl, aR, us, rfl, .inr hSR, _, _, rfl, rfl, _, rfl, ite2 (fun h => ?_) (fun h => ?_)⟩
      · have := of_decide_eq_true h
        exact key _ _ ⟨rfl, 3, rfl, by decide, by decide, .inl (by omega)⟩
      · exact key _ _ ⟨rfl, 2, rfl, by decide, by decide, .inr rfl⟩
    obtain ⟨rfl, lim, rfl, hl1, hl2, hl3⟩ := hx
    refine ⟨d, c, l, n + 50, lim, rfl, st1, by omega, by omega, by omega, fun H2 r b2 st2 hr2 => ⟨_, _, rfl, rfl, ?_⟩⟩
    have t2 : Tle H1 H2 := st1.tle b2
    have hR2 := hRw.mono t2
    have hSR2 := t2.sq hSR
    obtain ⟨m, em, m1, m3, hm⟩ : ∃ m : Nat, (1 : Int) + (r : Int) = (m : Int) ∧ 1 ≤ m ∧ m ≤ 3 ∧ (R.length = 2 ∨ m ≤ 2) := ⟨r + 1, by omega, by omega, by omega, by omega⟩
    dsimp only
    rw [em]
    have h14 : (allw R.length m).length ≤ 14 := by
      rcases hL with e | e
      · rw [e]
        exact Nat.le_trans (allw_mono 2 m3) (by decide)
      · rw [e]
        have : m ≤ 2 := by omega
        exact Nat.le_trans (allw_mono 3 this) (by decide)
    refine ⟨_, rfl, aR, us, rfl, .inr hSR2, _, rfl, R.length, m, by rw [lR]; rfl, by omega, by omega, by omega, fun H3 lw zsw s3 elw nlw pzw => ?_⟩
    have lzw := pLen pzw
    have hR3 := hR2.mono (Tle.same s3)
    refine ⟨_, rfl, lw, rfl, ⟨_, sqL elw⟩, fun D nD => ?_⟩
    refine lc_list (xs := zsw) (fun i H' => Same H3 H' ∧ ∃ ss, H' D = some (.lst ss) ∧ Paired (StV K H') ss (((allw R.length m).map (wstep R)).take i)) ⟨same_new nD, [], upd_same, .nil⟩ (fun i H' hi hP => sqL (hP.1 _ _ elw)) (fun i x H' hx hP => ?_) (fun H' hP => ?_)
    · obtain ⟨sm, ss, eD, ps⟩ := hP
      obtain ⟨wd, hwd, rw⟩ := pAt pzw hx
      have hil : i < (allw R.length m).length := (List.getElem?_eq_some_iff.mp hwd).1
      obtain ⟨w1, w2, w3⟩ := (mem_allw R.length m).mp (List.mem_of_getElem? hwd)
      have lss := pLen ps
      rw [List.length_take, List.length_map] at lss
      refine ⟨rfl, _, rfl, _, rfl, _, x, R, wd, rfl, hR3.mono (Tle.same sm), rw.mono (Tle.same sm), w1, by omega, w3, fun L hL => (hMenu.ltr L hL).let, fun H4 v s4 hv => ?_⟩
      have eD4 := s4 _ _ eD
      refine ⟨ss, eD4, line_of (by omega), sameUpd (sm.trans s4) nD, _, upd_same, ?_⟩
      have et : ((allw R.length m).map (wstep R)).take (i + 1) = ((allw R.length m).map (wstep R)).take i ++ [wstep R wd] := by
        rw [List.take_add_one, List.getElem?_map, hwd]; rfl
      rw [et]
      exact pSnoc (pMap ps fun _ _ y => y.mono ((Tle.same s4).trans (.lst eD4))) (hv.mono (.lst eD4))
    obtain ⟨smc, ss, eD, pss⟩ := hP
    rw [lzw, List.take_of_length_le (by rw [List.length_map]; exact Nat.le_refl _)] at pss
    have lss := pLen pss
    rw [List.length_map] at lss
    refine ⟨Nat.zero_le _, fun ld nld => ⟨(show 4 ≤ sizeLine by decide), fun t nt => ⟨t, _, rfl, sqT upd_same, rfl, _, _, rfl, _, _, rfl, _, _, rfl, _, _, rfl, rfl, ?_⟩⟩⟩
    have sC : Same H' (L2.upd (L2.upd H' ld (.lst [])) t (.tup [.ref D, .ref ld, .bl true, .bl false])) := (same_new nld).trans (same_new nt)
    have nldD : ld ≠ D := fun z => by rw [z, eD] at nld; cases nld
    have nldw : ld ≠ lw := fun z => by rw [z, smc _ _ elw] at nld; cases nld
    have eld : (L2.upd (L2.upd H' ld (.lst [])) t (.tup [.ref D, .ref ld, .bl true, .bl false])) ld = some (.lst []) := (same_new nt) _ _ upd_same
    have nld3 : H3 ld = none := Same.free smc nld
    have sC3 := smc.trans sC
    have elwC := sC _ _ (smc _ _ elw)
    have eDC := sC _ _ eD
    generalize (L2.upd (L2.upd H' ld (.lst [])) t (.tup [.ref D, .ref ld, .bl true, .bl false])) = HC at sC eld sC3 elwC eDC ⊢
    have pzC : Paired (WdV K HC) zsw (allw R.length m) := pMap pzw fun _ _ y => y.mono (Tle.same sC3)
    have psC : Paired (StV K HC) ss ((allw R.length m).map (wstep R)) := pMap pss fun _ _ y => y.mono (Tle.same sC)
    have hsrt := allw_sorted R.length m
    have atF : ∀ {j : Nat} {u : Word}, (allw R.length m)[j]? = some u → wstep R ((allw R.length m).getD j []) = wstep R u := fun {j u} h => by rw [List.getD, h]; rfl
    refine ⟨_, rfl, lw, zsw, rfl, sqL elwC, ?_⟩
    refine for_enumL (xs := zsw) (fun i σ H' => ∃ fr st x9 x10 x11, σ = [some (.ref d), some (.ref aR), some (.int (m : Int)), some (.ref lw), none, some (.ref D), some (.ref ld), some (.bl fr), some (.bl st), x9, x10, x11, none] ∧ Tle HC H' ∧ (∀ b o, b ≠ ld → HC b = some o → H' b = some o) ∧
        (∃ ds, H' ld = some (.lst ds) ∧ Paired (PrV K H') ds (dueT (wstep R) (allw R.length m) i)) ∧ (fr = true ↔ ∀ j, j < i → ∀ k, j < k → k < (allw R.length m).length → wstep R ((allw R.length m).getD j []) ≠ wstep R ((allw R.length m).getD k [])) ∧
        (st = true ↔ ∃ j, j < i ∧ wstep R ((allw R.length m).getD j []) = xL))
      ⟨true, false, none, none, none, rfl, Tle.refl _, fun b o _ e => e, ⟨[], eld, by rw [dueT_zero]; exact .nil⟩, by simp, by simp⟩ (fun i σ H' hi hP => ?_) (fun i x T0 σ H' hx hP nT => ?_) (fun σ H' hP => ?_)
    · obtain ⟨fr, st, x9, x10, x11, rfl, _, kb, _⟩ := hP
      exact sqL (kb _ _ (Ne.symm nldw) elwC)
    · obtain ⟨fr, st, x9, x10, x11, rfl, tl, kb, ⟨ds, eds, pds⟩, hfr, hst⟩ := hP
      obtain ⟨u, hu, ru⟩ := pAt pzC hx
      have hiN : i < (allw R.length m).length := (List.getElem?_eq_some_iff.mp hu).1
      have huw := (mem_allw R.length m).mp (List.mem_of_getElem? hu)
      obtain ⟨u0, ur, rfl⟩ : ∃ u0 ur, u = u0 :: ur := ⟨u.head huw.1, u.tail, (List.cons_head_tail huw.1).symm⟩
      obtain ⟨sv, hsv, rsv⟩ := pAtR psC (show ((allw R.length m).map (wstep R))[i]? = some (wstep R (u0 :: ur)) by rw [List.getElem?_map, hu]; rfl)
      have s2 : Same H' (L2.upd H' T0 (.tup [.int (i : Nat), x])) := same_new nT
      refine ⟨T0, _, rfl, sqT upd_same, rfl, _, _, rfl, _, _, rfl, rfl, ?_⟩
      have tl2 := tl.trans (Tle.same s2)
      have kb2 : ∀ b o, b ≠ ld → HC b = some o → (L2.upd H' T0 (.tup [.int (i : Nat), x])) b = some o := fun b o h1 h2 => s2 _ _ (kb b o h1 h2)
      have eds2 := s2 _ _ eds
      have pds2 : Paired (PrV K (L2.upd H' T0 (.tup [.int (i : Nat), x]))) ds (dueT (wstep R) (allw R.length m) i) := pMap pds fun _ _ y => y.mono (Tle.same s2)
      generalize (L2.upd H' T0 (.tup [.int (i : Nat), x])) = H5 at tl2 kb2 eds2 pds2 ⊢
      -- still
      refine part (te := tOrV _ _) (fun y H6 => Same H5 H6 ∧ ∃ b, y = .bl b ∧ (b = true ↔ (st = true ∨ wstep R (u0 :: ur) = xL))) (fun S key => ?_) (fun y H6 hy => ?_)
      · refine ⟨_, rfl, st, rfl, ?_⟩
        cases st with
        | true => exact iteT (key _ _ ⟨Same.refl _, true, rfl, by simp⟩)
        | false =>
          refine iteF ⟨_, rfl, _, rfl, D, ss, _, sv, rfl, rfl, sqL (kb2 _ _ (Ne.symm nldD) eDC), atI_nat hsv, ?_⟩
          refine lit_step (K := K) p_x (can_of _ (by decide +kernel)) (by decide) _ _ _ fun z H6 s6 hz => ?_
          refine ⟨_, _, ((rsv.mono tl2).mono (Tle.same s6)).dp, hz.dp, dSt_shaped _, dSt_shaped _, ?_⟩
          rw [eqv_dSt, lit_x]
          exact key _ _ ⟨s6, _, rfl, by simp⟩
      obtain ⟨s6, st', rfl, hst'⟩ := hy
      dsimp only [gName]
      have tl6 := tl2.trans (Tle.same s6)
      have kb6 : ∀ b o, b ≠ ld → HC b = some o → H6 b = some o := fun b o h1 h2 => s6 _ _ (kb2 b o h1 h2)
      have eds6 := s6 _ _ eds2
      have pds6 : Paired (PrV K H6) ds (dueT (wstep R) (allw R.length m) i) := pMap pds2 fun _ _ y => y.mono (Tle.same s6)
      have stN : st' = true ↔ ∃ j, j < i + 1 ∧ wstep R ((allw R.length m).getD j []) = xL := by
        rw [hst', hst]
        constructor
        · rintro (⟨j, h1, h2⟩ | h2)
          · exact ⟨j, by omega, h2⟩
          · exact ⟨i, by omega, by rw [atF hu]; exact h2⟩
        · rintro ⟨j, h1, h2⟩
          by_cases hji : j = i
          · subst hji
            exact .inr (by rw [← atF hu]; exact h2)
          · exact .inl ⟨j, by omega, h2⟩
      have lT := dueT_len (wstep R) (allw R.length m) i
      have lds := pLen pds
      have hTb : i * (allw R.length m).length ≤ 14 * 14 := Nat.mul_le_mul (by omega) h14
      refine ⟨_, rfl, _, _, rfl, rfl, _, rfl, lw, zsw, rfl, .inl (sqL (kb6 _ _ (Ne.symm nldw) elwC)), _, _, rfl, ⟨by omega, by omega, by omega, by omega⟩, ?_⟩
      have eN : (((zsw.length : Nat) : Int) - ((i : Int) + 1)).toNat = (allw R.length m).length - (i + 1) := by omega
      rw [eN]
      refine for_range (lo := (i : Int) + 1) (n := (allw R.length m).length - (i + 1)) (fun q σ H' => ∃ fr x11, σ = [some (.ref d), some (.ref aR), some (.int (m : Int)), some (.ref lw), none, some (.ref D), some (.ref ld), some (.bl fr), some (.bl st'), some (.int (i : Int)), some x, x11, none] ∧ Tle HC H' ∧ (∀ b o, b ≠ ld → HC b = some o → H' b = some o) ∧
          (∃ ds, H' ld = some (.lst ds) ∧ Paired (PrV K H') ds (dueT (wstep R) (allw R.length m) i ++ drow (wstep R) (u0 :: ur) (((allw R.length m).drop (i + 1)).take q))) ∧
          (fr = true ↔ ((∀ j, j < i → ∀ k, j < k → k < (allw R.length m).length → wstep R ((allw R.length m).getD j []) ≠ wstep R ((allw R.length m).getD k [])) ∧ ∀ k, i < k → k < i + 1 + q → wstep R (u0 :: ur) ≠ wstep R ((allw R.length m).getD k []))))
        ⟨fr, x11, rfl, tl6, kb6, ⟨ds, eds6, by rw [List.take_zero]; simpa [drow] using pds6⟩, by
          rw [hfr]
          exact ⟨fun z => ⟨z, fun k h1 h2 => by omega⟩, fun z => z.1⟩⟩ (fun q σ H7 hq hP => ?_) (fun σ H7 hP => ?_)
      · obtain ⟨fr2, y11, rfl, tl7, kb7, ⟨es, ees, pes⟩, hfr2⟩ := hP
        have hkN : i + 1 + q < (allw R.length m).length := by omega
        obtain ⟨v, hv⟩ : ∃ v, (allw R.length m)[i + 1 + q]? = some v := ⟨_, List.getElem?_eq_getElem hkN⟩
        have hvw := (mem_allw R.length m).mp (List.mem_of_getElem? hv)
        obtain ⟨v0, vr, rfl⟩ : ∃ v0 vr, v = v0 :: vr := ⟨v.head hvw.1, v.tail, (List.cons_head_tail hvw.1).symm⟩
        obtain ⟨sw, hsw, rsw⟩ := pAtR psC (show ((allw R.length m).map (wstep R))[i + 1 + q]? = some (wstep R (v0 :: vr)) by rw [List.getElem?_map, hv]; rfl)
        obtain ⟨zv, hzv, rzv⟩ := pAtR pzC hv
        have ek : (i : Int) + 1 + (q : Int) = ((i + 1 + q : Nat) : Int) := by omega
        have hd : ((allw R.length m).drop (i + 1))[q]? = some (v0 :: vr) := by rw [List.getElem?_drop]; exact hv
        have eD7 := kb7 _ _ (Ne.symm nldD) eDC
        have elw7 := kb7 _ _ (Ne.symm nldw) elwC
        have frN : ∀ b : Bool, (b = true ↔ (fr2 = true ∧ wstep R (u0 :: ur) ≠ wstep R (v0 :: vr))) → (b = true ↔ ((∀ j, j < i → ∀ k, j < k → k < (allw R.length m).length → wstep R ((allw R.length m).getD j []) ≠ wstep R ((allw R.length m).getD k [])) ∧ ∀ k, i < k → k < i + 1 + (q + 1) → wstep R (u0 :: ur) ≠ wstep R ((allw R.length m).getD k []))) := fun b hb => by
          rw [hb, hfr2]
          constructor
          · rintro ⟨⟨z1, z2⟩, z3⟩
            refine ⟨z1, fun k h1 h2 => ?_⟩
            by_cases hk : k = i + 1 + q
            · subst hk; rw [atF hv]; exact z3
            · exact z2 k h1 (by omega)
          · rintro ⟨z1, z2⟩
            exact ⟨⟨z1, fun k h1 h2 => z2 k h1 (by omega)⟩, by rw [← atF hv]; exact z2 _ (by omega) (by omega)⟩
        refine ⟨_, rfl, _, rfl, D, ss, _, sv, rfl, rfl, sqL eD7, atI_nat hsv, _, rfl, _, rfl, D, ss, _, sw, rfl, rfl, sqL eD7, (by rw [ek]; exact atI_nat hsw), _, _, (rsv.mono tl7).dp, (rsw.mono tl7).dp, dSt_shaped _, dSt_shaped _, _, rfl, ?_⟩
        rw [eqv_dSt]
        refine ite2 (fun he => ?_) (fun he => ?_)
        · have he' : wstep R (u0 :: ur) = wstep R (v0 :: vr) := of_decide_eq_true he
          have frF := frN false (by simp [he'])
          obtain ⟨ay, rfl, hSy⟩ := id (ru.mono tl7)
          obtain ⟨az, rfl, hSz⟩ := id (rzv.mono tl7)
          refine ⟨_, rfl, ay, _, _, _, rfl, rfl, hSy, atI_nat (j := 0) rfl, _, rfl, _, rfl, lw, zsw, _, _, rfl, rfl, sqL elw7, (by rw [ek]; exact atI_nat hzv), az, _, _, _, rfl, rfl, hSz, atI_nat (j := 0) rfl, rfl, _, rfl, ite2 (fun hh => ?_) (fun hh => ?_)⟩
          · have hne : u0 ≠ v0 := fun z => by rw [z] at hh; simp at hh
            have les := pLen pes
            have ldr := drow_len (wstep R) (u0 :: ur) (((allw R.length m).drop (i + 1)).take q)
            rw [List.length_take, List.length_drop] at ldr
            rw [List.length_append] at les
            refine ⟨_, rfl, .inl ⟨rfl, _, sqL ees⟩, _, rfl, _, rfl, _, rfl, lw, zsw, _, _, rfl, rfl, sqL elw7, (by rw [ek]; exact atI_nat hzv), two_line, fun t2 nt2 => ?_⟩
            have s8 : Same H7 (L2.upd H7 t2 (.tup [.ref ay, .ref az])) := same_new nt2
            have ees8 := s8 _ _ ees
            refine ⟨ld, es, _, rfl, rfl, ees8, line_of (by omega), ?_⟩
            have t9 : Tle H7 (L2.upd (L2.upd H7 t2 (.tup [.ref ay, .ref az])) ld (.lst (es ++ [.ref t2]))) := (Tle.same s8).trans (.lst ees8)
            refine ⟨false, _, rfl, tl7.trans t9, fun b o h1 h2 => by rw [upd_ne h1]; exact s8 _ _ (kb7 b o h1 h2), ⟨_, upd_same, ?_⟩, frF⟩
            rw [drow_take hd, if_pos ⟨he', by simp [hne]⟩, ← List.append_assoc]
            exact pSnoc (pMap pes fun _ _ y => y.mono t9) ⟨t2, .ref ay, .ref az, rfl, (Tle.lst ees8).sq (sqT upd_same), (ru.mono tl7).mono t9, (rzv.mono tl7).mono t9⟩
          · have hee : u0 = v0 := Decidable.byContradiction fun z => hh (by
              have : ¬ (V.int (u0 : Int) = V.int (v0 : Int)) := fun y => z (by have := V.int.inj y; omega)
              rw [decide_eq_false this]; rfl)
            refine ⟨false, _, rfl, tl7, kb7, ⟨es, ees, ?_⟩, frF⟩
            rw [drow_take hd, if_neg (fun z => z.2 (by simp [hee])), List.append_nil]
            exact pes
        · have he' : wstep R (u0 :: ur) ≠ wstep R (v0 :: vr) := fun z => he (decide_eq_true z)
          refine ⟨fr2, _, rfl, tl7, kb7, ⟨es, ees, ?_⟩, frN fr2 (by simp [he'])⟩
          rw [drow_take hd, if_neg (fun z => he' z.1), List.append_nil]
          exact pes
      · obtain ⟨fr2, y11, rfl, tl7, kb7, ⟨es, ees, pes⟩, hfr2⟩ := hP
        rw [List.take_of_length_le (by rw [List.length_drop]; exact Nat.le_refl _)] at pes
        refine ⟨fr2, st', _, _, _, rfl, tl7, kb7, ⟨es, ees, by rw [dueT_next hu]; exact pes⟩, ?_, stN⟩
        rw [hfr2]
        constructor
        · rintro ⟨z1, z2⟩ j hj k h1 h2
          by_cases hji : j = i
          · subst hji; rw [atF hu]; exact z2 k h1 (by omega)
          · exact z1 j (by omega) k h1 h2
        · intro z
          exact ⟨fun j hj k h1 h2 => z j (by omega) k h1 h2, fun k h1 h2 => by rw [← atF hu]; exact z i (by omega) k h1 (by omega)⟩
    · obtain ⟨fr, st', x9, x10, x11, rfl, tl, kb, ⟨ds, eds, pds⟩, hfr, hst⟩ := hP
      rw [lzw] at pds hfr hst
      rw [dueT_all] at pds
      have hfrN : fr = true ↔ ((allw R.length m).map (wstep R)).Nodup := by
        rw [hfr, List.Nodup, List.pairwise_map, List.pairwise_iff_getElem]
        constructor
        · intro z i j hi hj hij
          have := z i hi j hij hj
          rw [List.getD, List.getElem?_eq_getElem hi, List.getD, List.getElem?_eq_getElem hj] at this
          exact this
        · intro z j hj k h1 h2
          rw [List.getD, List.getElem?_eq_getElem hj, List.getD, List.getElem?_eq_getElem h2]
          exact z j k hj h2 h1
      have s2' : Same H2 H' := fun b o e => kb b o (fun z => by
        have : H2 ld = none := Same.free s3 nld3
        rw [z, this] at e; cases e) (sC3 _ _ (s3 _ _ e))
      have hRp := (hR3.mono (Tle.same sC3)).mono tl
      have h3m : 3 ^ m ≤ 256 := Nat.le_trans (Nat.pow_le_pow_right (by decide) m3) (by decide)
      have hWS : WSmall R m 3 := ⟨by decide, by decide, h3m, fun L hL => ⟨hMenu.ltr L hL, (hMenu.ltr L hL).len⟩⟩
      have hok : ∀ L ∈ R, StepOk L := fun L hL => (hMenu.ltr L hL).step
      refine ⟨_, rfl, _, rfl, _, _, rfl, .inr ⟨R, hRp, by omega, by omega, hok, .inr ⟨m, rfl, m1, by omega, .inr (.inr ⟨by omega, ⟨3, hWS⟩, fun H8 t8 ys s8 hS8 py => ?_⟩)⟩⟩⟩
      refine ⟨_, rfl, _, rfl, _, _, rfl, .inr ⟨R, hRp.mono (Tle.same s8), by omega, by omega, hok, .inr ⟨m, rfl, m1, by omega, .inr (.inr ⟨by omega, ⟨3, hWS⟩, fun H9 b9 s9 hb9 => ?_⟩)⟩⟩⟩
      have eb : b9 = fr := by rw [Bool.eq_iff_iff, hb9, hfrN]
      subst eb
      refine ⟨two_line, fun g ng => ?_⟩
      have s10 : Same H9 (L2.upd H9 g (.lst [.ref t8, .bl b9])) := same_new ng
      have sT := (s8.trans s9).trans s10
      refine ⟨_, rfl, _, rfl, ld, ds, rfl, .inl ⟨sqL (sT _ _ eds), fun t1 nt1 => ?_⟩⟩
      refine ⟨_, rfl, two_line, fun e1 ne1 => ?_⟩
      have s11 : Same (L2.upd H9 g (.lst [.ref t8, .bl b9])) (L2.upd (L2.upd (L2.upd H9 g (.lst [.ref t8, .bl b9])) t1 (.tup ds)) e1 (.lst [.ref t1, .bl b9])) := (same_new nt1).trans (same_new ne1)
      have gd : GD 4 (2 * (196 * 19 + 1)) (.list [.tuple ((dueOf (wstep R) (allw R.length m)).map dPr), .bool b9]) := by
        refine GDs.lst (ds := [.tuple ((dueOf (wstep R) (allw R.length m)).map dPr), .bool b9]) (gds_of (k := 3) (b := 196 * 19) fun z hz => ?_)
        rcases List.mem_cons.mp hz with rfl | hz
        · refine (gd_due (by omega) (by omega)).mono (Nat.le_refl _) (Nat.mul_le_mul_right _ ?_)
          have := due_len (wstep R) (allw R.length m)
          have : (allw R.length m).length * (allw R.length m).length ≤ 14 * 14 := Nat.mul_le_mul h14 h14
          omega
        · rw [List.mem_singleton.mp hz]
          exact (gd_bool b9).mono (by decide) (by decide)
      obtain ⟨g1, g2, g3, g4⟩ := gd.like (by decide) (by decide)
      have sF : Same H' (L2.upd (L2.upd (L2.upd H9 g (.lst [.ref t8, .bl b9])) t1 (.tup ds)) e1 (.lst [.ref t1, .bl b9])) := sT.trans s11
      have s8F : Same H8 (L2.upd (L2.upd (L2.upd H9 g (.lst [.ref t8, .bl b9])) t1 (.tup ds)) e1 (.lst [.ref t1, .bl b9])) := (s9.trans s10).trans s11
      refine ⟨g, e1, _, rfl, .lst (sqL (s11 _ _ upd_same)) (.cons (.tup ((Tle.same s8F).sq hS8) (prs_dp (pMap py fun _ _ y => y.mono (Tle.same s8F)))) (.cons (.bl b9) .nil)), .lst (sqL upd_same) (.cons (.tup (sqT ((same_new ne1) _ _ upd_same)) (prs_dp (pMap pds fun _ _ y => y.mono (Tle.same sF)))) (.cons (.bl b9) .nil)), g1, g2, g3, g4, _, rfl, iteF ?_⟩
      have fin : ∀ HF, Same H' HF → Q (.bl true) HF := fun HF sm => k HF ((b1.trans b2).trans (.same (s2'.trans sm))) ((st2.same s2').same sm)
      refine ⟨_, rfl, st', rfl, ?_⟩
      cases st' with
      | true => exact iteT (fin _ sF)
      | false =>
        have hnx : ∀ u ∈ allw R.length m, wstep R u ≠ xL := fun u hu z => by
          obtain ⟨j, hj, ej⟩ := List.mem_iff_getElem.mp hu
          have := hst.mpr ⟨j, hj, by rw [List.getD, List.getElem?_eq_getElem hj, ej]; exact z⟩
          cases this
        have hfd := free_due (R := R) (fun L hL => (hMenu.ltr L hL).good) m hnx
        refine iteF ⟨_, rfl, _, rfl, Nat.zero_le _, fun e2 ne2 => ?_⟩
        have s12 := sF.trans (same_new (o := .lst []) ne2)
        refine ⟨_, _, .lst (sqL (s12 _ _ eds)) (prs_dp (pMap pds fun _ _ y => y.mono (Tle.same s12))), .lst (sqL upd_same) .nil, ?_, shaped_ints [], rfl, ?_⟩
        · refine gd_shaped (by rw [PyData.canLay0]; exact canLay_all dPr_lay _) ?_
          have hd := (gd_due (f := wstep R) (n := R.length) (m := m) (by omega) (by omega)).dp
          rw [show (PyData.tuple ((dueOf (wstep R) (allw R.length m)).map dPr)).depth = PyData.depthAll ((dueOf (wstep R) (allw R.length m)).map dPr) + 1 by simp only [PyData.depth]] at hd
          rw [show (PyData.list ((dueOf (wstep R) (allw R.length m)).map dPr)).depth = PyData.depthAll ((dueOf (wstep R) (allw R.length m)).map dPr) + 1 by simp only [PyData.depth]]
          omega
        · rw [eqv_prs]
          have : decide (V.bl b9 = V.bl (decide (dueOf (wstep R) (allw R.length m) = []))) = true := by
            refine decide_eq_true (congrArg V.bl ?_)
            rw [Bool.eq_iff_iff, decide_eq_true_iff, hfrN, hfd]
          rw [this]
          exact fin _ s12
end
/-! ### several clauses «except C as n»: slot i is n's -/
/-- an error of a try's body, noted and at rest in the try's own frame: s₀ is the state without it, B the ground below it -/
structure Caught (X : Cx) (pins : List (Addr × Obj)) (σ : L2.St) (H : Hp) (a : Addr) (cls : Value) (d : Option Addr) (s : Shared) : Prop where
  free : H a = none
  rest : ∃ (B : Heap) (s₀ : Shared), (∀ b o, s₀.heap.get? b = some o → b ∉ frs X.stack → B.get? b = some o) ∧ HandSPX.FlyingZ B X.stack a (Zc cls d) s.heap ∧ Inv X pins σ H s₀ ∧ s₀.heap.UpToSlots s.heap ∧ s.os = s₀.os ∧ AllBare s.gens
/-- the context runs in a frame of its own -/
structure OwnFrame (X : Cx) : Prop where
  stack : X.stack = X.env :: X.outer
  frame : X.env.frame = some X.env.locals
/-- one clause: its class, its suite's reading -/
abbrev Suite := Addr → Value → Option Addr → TS
structure OneAs (X : Cx) (n : Str) (h : ExceptHandler) (p : Value × Suite) : Prop where
  form : ∃ (x : Str) (np pos : Pos) (b : Stmt) (bs : List Stmt), h = .ExceptHandler (some (.Name x np)) (some n) (b :: bs) pos ∧ Names X x p.1 ∧
    ∀ (a : Addr) (o : Obj) (cls : Value) (d : Option Addr) (pn : List (Addr × Obj)), Zc cls d o → (∃ vs, o.data = .fields vs) → PSs (X.suite a ((a, o) :: pn)) (b :: bs) (p.2 a cls d)
abbrev HdsAs (X : Cx) (n : Str) : List ExceptHandler → List (Value × Suite) → Prop := Paired (OneAs X n)
theorem OneAs.of {X : Cx} {n x : Str} {c : Value} {t : Suite} {np pos : Pos} {b : Stmt} {bs : List Stmt} (nm : Names X x c)
    (reads : ∀ (a : Addr) (o : Obj) (cls : Value) (d : Option Addr) (pn : List (Addr × Obj)), Zc cls d o → (∃ vs, o.data = .fields vs) → PSs (X.suite a ((a, o) :: pn)) (b :: bs) (t a cls d)) : OneAs X n (.ExceptHandler (some (.Name x np)) (some n) (b :: bs) pos) (c, t) := ⟨x, np, pos, b, bs, rfl, nm, reads⟩
/-- the ends of a suite: the name is gone behind it -/
def gone (i : Nat) (D : Ends) : Ends := { nx := fun σ' H' => D.nx (σ'.set i none) H', rt := D.rt, bk := fun σ' H' => D.bk (σ'.set i none) H', ct := fun σ' H' => D.ct (σ'.set i none) H' }
/-- what the clauses make of an error: the first whose class is above the error's own -/
def wTold (K : PySem.W.Frag) (i : Nat) (Wout : WX) (D : Ends) : List (Value × Suite) → WX
  | [] => Wout
  | p :: l => fun cls d σ H => ∃ hit, PySem.W.exmOne K cls p.1 = some hit ∧ (hit = true → ∀ a, H a = none → p.2 a cls d (gone i D) (σ.set i (some (.ref a))) H) ∧ (hit = false → wTold K i Wout D l cls d σ H)
section
variable {X : Cx} {pins : List (Addr × Obj)} {σ : L2.St} {H : Hp} {a : Addr} {cls : Value} {d : Option Addr} {s : Shared}
theorem Caught.of_air {xe E : Value → Shared → Prop} {W : WX} {u : Value} {Q : Shared → Prop} (own : OwnFrame X) (ok : X.Ok) (x : XE (X.tr (X.pn ++ pins) xe) W u s)
    (next : ∀ {a σ H cls d s'}, u = .ref a → Caught X pins σ H a cls d s' → W cls d σ H → Q s') : wpAny (model X.prog X.w) X.A (noteFrame u X.env) (fun _ s2 => wpAny (model X.prog X.w) X.A (setFlight u none) (fun _ s3 => Q s3) E s2) E s := by
  obtain ⟨a, B, s₀, _, σ, H, cls, d, rfl, J, ground, up, sky, free, os, bare, w⟩ := x
  have stk : (X.tr (X.pn ++ pins) xe).stack = X.env :: X.outer := own.stack
  rw [stk] at sky
  refine Sky.land Zc.steady (ok.frames.trans (congrArg some own.stack)) own.frame sky fun h fly up' => next rfl ⟨free, B, s₀, ground, ?_, J.ofTry ok, up.trans up', os, bare⟩ w
  rw [own.stack]
  exact fly
namespace Caught
theorem inv (C : Caught X pins σ H a cls d s) : Inv X pins σ H s := let ⟨_, _, ground, fly, I, up, os, bare⟩ := C.rest; I.landed ground fly.1 up os bare
theorem object (C : Caught X pins σ H a cls d s) : ∃ o vs, s.heap.get? a = some o ∧ Zc cls d o ∧ o.data = .fields vs := let ⟨_, _, _, fly, _⟩ := C.rest; fly.there
theorem noFrame (C : Caught X pins σ H a cls d s) : a ∉ frs X.stack := fun z => by
  obtain ⟨_, _, _, fly, _⟩ := C.rest
  obtain ⟨_, _, e1, dict⟩ := fly.2.2.1.mem z
  obtain ⟨_, _, e2, _, fields⟩ := C.object
  cases e1.symm.trans e2
  exact dict _ fields
theorem apart (C : Caught X pins σ H a cls d s) (own : OwnFrame X) : a ≠ X.env.locals ∧ a ∉ X.fs := by
  have no := C.noFrame
  have split : frs X.stack = X.env.locals :: X.fs := by rw [own.stack]; exact List.filterMap_cons_some own.frame
  rw [split, List.mem_cons, not_or] at no
  exact no
/-- the state as a suite takes it -/
theorem suite (C : Caught X pins σ H a cls d s) (own : OwnFrame X) : ∃ o, Zc cls d o ∧ (∃ vs, o.data = .fields vs) ∧ Inv (X.suite a ((a, o) :: (X.pn ++ pins))) [] σ H s :=
  let ⟨o, vs, e, z, f⟩ := C.object
  ⟨o, z, ⟨vs, f⟩, C.inv.suite e f C.free (C.apart own).1 (C.apart own).2⟩
theorem stays {E : Value → Shared → Prop} {Q : Unit → Shared → Prop} {G : Around} (C : Caught X pins σ H a cls d s) (q : ∀ s', Caught X pins σ H a cls d s' → Q () s') : wpAny (model X.prog X.w) G (setFlight (.ref a) none) Q E s :=
  let ⟨_, _, ground, fly, I, up, os, bare⟩ := C.rest
  HandSPX.lands_againZ fly fun _ fly' up' => q _ ⟨C.free, _, _, ground, fly', I, up.trans up', os, bare⟩
theorem looks (C : Caught X pins σ H a cls d s) : PySem.W.Looks (model X.prog X.w) s.heap (typeOf (.ref a)) cls := fun _ _ _ _ k q => let ⟨_, _, e, z, _⟩ := C.object; wpAny_typeOf_ref (k _ _ e) (z.1.symm ▸ q)
/-- no clause is left: it flies on -/
theorem leaves {W : WX} {Q : Flow → Shared → Prop} (C : Caught X pins σ H a cls d s) (own : OwnFrame X) (tk : Takes X W) (w : W cls d σ H) : wpAny (model X.prog X.w) X.A (handleBy (.ref a) X.env []) Q X.xe s := by
  obtain ⟨B, s₀, ground, fly, I, up, os, bare⟩ := C.rest
  obtain ⟨_, _, _, o, vs, tr, _, _, e, _, fields, one, _⟩ := id fly
  have off : wpAny (model X.prog X.w) X.A (setFlight (.ref a) X.env.frame) (fun _ s' => wpAny (model X.prog X.w) X.A (throw (.ref a) : Sem Flow) Q X.xe s') X.xe s := by
    rw [own.frame]
    exact HandSPX.setFlight_upZ fly fun h' held up' => wpAny_throw (tk _ _ ⟨a, B, s₀, pins, σ, H, cls, d, rfl, I, ground, up.trans up', .inr (.inr held), C.free, os, bare, w⟩)
  refine wpAny_handleBy_nil (wpAny_bind (wpAny_field e fields one ?_))
  have some : (Value.ref tr == Value.none) = false := rfl
  simp only [some, Bool.false_eq_true, if_false]
  first
    | exact wpAny_bind off
    | exact wpAny_bind (wpAny_pure (wpAny_bind off))
theorem named {x : Str} {c : Value} {np : Pos} {E Q : Value → Shared → Prop} (C : Caught X pins σ H a cls d s) (own : OwnFrame X) (nm : Names X x c) (q : Q c s) : wpAny (model X.prog X.w) (X.A.mark (some (.ref a))) (eval (.Name x np) X.env) Q E s := by
  obtain ⟨o, _, _, S⟩ := C.suite own
  obtain ⟨gl, dbg, glob | ⟨none, boot, plain⟩⟩ := nm
  · exact ld_glob S gl glob q dbg
  · exact ld_blt S gl none boot q plain dbg
/-- a suite is run, then the name goes -/
theorem runs {n : Str} {i : Nat} {b : Stmt} {bs : List Stmt} {t : Suite} {pos : Pos} {D : Ends} {s' : Shared} {o : Obj} (hN : X.N.Nodup) (hi : X.N[i]? = some n) (hl : X.env.kindOf n = some .local) (ok : X.Ok)
    (I : Inv (X.suite a ((a, o) :: (X.pn ++ pins))) [] (σ.set i (some (.ref a))) H s') (reads : PSs (X.suite a ((a, o) :: (X.pn ++ pins))) (b :: bs) (t a cls d)) (w : t a cls d (gone i D) (σ.set i (some (.ref a))) H) {E : Value → Shared → Prop} :
    wpAny (model X.prog X.w) (X.A.mark (some (.ref a))) (execs (b :: bs) X.env) (fun f s1 => wpAny (model X.prog X.w) X.A (do bindName X.env n .none; unbindBehindTheSuite X.env n pos) (fun _ s2 => SP X pins D f s2) X.xe s1) E s' := by
  have clear : ∀ {σ' : L2.St} {H' : Hp} {s1 : Shared} {R : Shared → Prop}, Inv (X.suite a ((a, o) :: (X.pn ++ pins))) [] σ' H' s1 → (∀ s2, Inv X pins (σ'.set i none) H' s2 → R s2) →
      wpAny (model X.prog X.w) X.A (do bindName X.env n .none; unbindBehindTheSuite X.env n pos) (fun _ s2 => R s2) X.xe s1 := fun J r => gone_ok (J.unsuite ok) hN hi hl r
  refine wpAny_mono (reads.run [] s' _ H _ I w) ?_ fun _ _ z => z.elim
  rintro (_ | _ | _ | u) s1 done
  · obtain ⟨_, _, J, q⟩ := done; exact clear J fun _ J' => ⟨_, _, J', q⟩
  · obtain ⟨_, _, J, q⟩ := done; exact clear J fun _ J' => ⟨_, _, J', q⟩
  · obtain ⟨_, _, J, q⟩ := done; exact clear J fun _ J' => ⟨_, _, J', q⟩
  · obtain ⟨_, _, _, J, r, q⟩ := done; exact clear J fun _ J' => ⟨_, _, _, J', r, q⟩
theorem handled {n : Str} {i : Nat} {Wout : WX} {D : Ends} (own : OwnFrame X) (hN : X.N.Nodup) (hi : X.N[i]? = some n) (hl : X.env.kindOf n = some .local) (tk : Takes X Wout) (C : Caught X pins σ H a cls d s) :
    ∀ {hs : List ExceptHandler} {l : List (Value × Suite)}, HdsAs X n hs l → wTold X.K i Wout D l cls d σ H → wpAny (model X.prog X.w) X.A (handleBy (.ref a) X.env hs) (SP X pins D) X.xe s
  | _, _, .nil, w => C.leaves own tk w
  | _, _, .cons one more, ⟨hit, is, yes, no⟩ => by
    obtain ⟨x, np, pos, b, bs, rfl, nm, reads⟩ := one
    refine wpAny_handleBy_cons (codeAny_handlers_test (C.named own nm ((PySem.W.exm_one (M := model X.prog X.w) C.inv.kIn C.looks is).here ?_))) nofun
    cases hit with
    | false => exact handled own hN hi hl tk C more (no rfl)
    | true =>
      refine codeAny_handlers_suite_as (C.stays fun s1 C1 => ?_)
      obtain ⟨o, z, f, S⟩ := C1.suite own
      exact store_ok (X := X.suite a ((a, o) :: (X.pn ++ pins))) (v := .ref a) S hN hi (.inl hl) rfl (fun s2 S2 => runs hN hi hl C.inv.ok S2 (reads a o cls d _ z f) (yes rfl a C.free)) (.inr hl)
end Caught
end
section
variable {X : Cx} {n : Str} {i : Nat} {body : List Stmt} {h₀ : ExceptHandler} {hds : List ExceptHandler} {l : List (Value × Suite)} {pos : Pos} {tb : WX → TS} {Wout : WX}
theorem ps_try_told (own : OwnFrame X) (hN : X.N.Nodup) (hi : X.N[i]? = some n) (hl : X.env.kindOf n = some .local) (tk : Takes X Wout)
    (hb : ∀ (W : WX) (pn : List (Addr × Obj)) (xe : Value → Shared → Prop), Takes (X.tr pn xe) W → PSs (X.tr pn xe) body (tb W))
    (hh : HdsAs X n (h₀ :: hds) l) : PS X (.Try body (h₀ :: hds) [] [] pos) (fun D σ H => tb (fun cls d σ' H' => σ'.length = X.N.length → wTold X.K i Wout D l cls d σ' H') D σ H) where
  run pins s σ H D I h := by
    have ok := I.ok
    refine wpAny_Try_except (wpAny_mono ((hb _ (X.pn ++ pins) _ fun u s' x => Caught.of_air own ok x fun e C w => ?_).run [] s σ H D (I.toTry _) h) ?_ fun _ _ e => e)
    · rw [e]
      exact C.handled own hN hi hl tk hh (w C.inv.len)
    · rintro (_ | _ | _ | u) s1 done
      · obtain ⟨_, _, J, q⟩ := done; exact wpAny_execs_nil ⟨_, _, J.ofTry ok, q⟩
      · obtain ⟨_, _, J, q⟩ := done; exact ⟨_, _, J.ofTry ok, q⟩
      · obtain ⟨_, _, J, q⟩ := done; exact ⟨_, _, J.ofTry ok, q⟩
      · obtain ⟨_, _, _, J, r, q⟩ := done; exact ⟨_, _, _, J.ofTry ok, r, q⟩
end
/-! ### isinstance(e, D), e the error that a suite holds, with a dict of its own -/
structure IsC (K : PySem.W.Frag) (D S : Addr) : Prop where
  cl : (PySem.W.clsIn K D).isSome = true
  ga : PySem.W.findIn K (.ref D) "__getattribute__" = some (some (.builtin "BaseException.__getattribute__"))
  gg : PySem.W.findIn K (.ref D) "__getattr__" = some none
  ex : PySem.W.subIn K (.ref D) (.type "BaseException") = some true
  kc : PySem.W.findIn K (.ref D) "__class__" = some (some (.builtin "object.__class__"))
  kg : PySem.W.specialIn K (.builtin "object.__class__") "__get__" = some (some (.builtin "getset_descriptor.__get__"))
  kt : PySem.W.takesIn K (.builtin "object.__class__") = some true
  ob : PySem.W.mroIn K D (.type "object") = some true
  one : PySem.W.kitOne K (.ref D) (.ref S) = some true
def rIsX (D S a : Addr) (cls : Value) (dd : Option Addr) : List V → Hp → VK → Prop := fun xs H Q => ∃ (d : Addr) (fs : List (Str × V)), cls = .ref D ∧ dd = some d ∧ xs = [.ref a, .ref S] ∧ H d = some (.xd fs) ∧ Q (.bl true) H
theorem call_isX {X : Cx} {a D S : Addr} {oe : Obj} {cls : Value} {dd : Option Addr} {pn : List (Addr × Obj)} (C : IsC X.K D S) (hz : Zc cls dd oe) (hf : ∃ vs, oe.data = .fields vs) : CallR (X.suite a ((a, oe) :: pn)) (.builtin "isinstance") (rIsX D S a cls dd) := by
  intro pins s σ H xs us Q I r h
  obtain ⟨d, fs, rfl, rfl, rfl, hd, q⟩ := h
  obtain ⟨u1, u2, rfl, r1, r2⟩ := vals2 r
  obtain rfl : u1 = .ref a := r1
  obtain rfl : u2 = .ref S := r2
  obtain ⟨at_, _⟩ := I.pin (a, oe) (List.mem_append_left _ List.mem_cons_self)
  obtain ⟨vs, hv⟩ := hf
  obtain ⟨mA, hns, _⟩ := (show ObjOk X.prog X.w H s.heap d (.xd fs) from I.hok d _ hd)
  obtain ⟨od, ho, _⟩ := lookIn_ns hns
  have J : PySem.W.InstAt s.heap a oe D (some od) := ⟨at_, hz.1, by unfold PySem.W.notCls; rw [hv], by rw [hz.2]; exact ho⟩
  exact PySem.W.kia_one (PySem.W.kitx_exc C.cl C.ga C.gg C.ex C.kc C.kg C.kt C.ob) I.kIn J C.one (fun z => nomatch z) fun tk => ⟨.bl true, H, I.kept (t' := tk) fun _ _ z => z, rfl, q⟩
end K65
namespace K65
open PySem PySem.Spec PyProof.Rows L2 LamX
/-! ### _law_heard -/
/-- what the clauses lean on -/
structure TxH (P : Program) (K : PySem.W.Frag) (mg : Str → Option Value) (X : TxE P K mg) where
  cStp : Addr
  cNum : Addr
  cNon : Addr
  cErr : Addr
  gStp : mg "BadStep" = some (.ref cStp)
  gNum : mg "BadNumber" = some (.ref cNum)
  gNon : mg "NoRow" = some (.ref cNon)
  gErr : mg "StepError" = some (.ref cErr)
  rr : PySem.W.exmOne K (.ref X.cRow) (.ref X.cRow) = some true
  pr : PySem.W.exmOne K (.ref X.cPar) (.ref X.cRow) = some false
  ps : PySem.W.exmOne K (.ref X.cPar) (.ref cStp) = some false
  pn : PySem.W.exmOne K (.ref X.cPar) (.ref cNum) = some false
  pp : PySem.W.exmOne K (.ref X.cPar) (.ref X.cPar) = some true
  br : PySem.W.exmOne K (.ref X.cBig) (.ref X.cRow) = some false
  bs : PySem.W.exmOne K (.ref X.cBig) (.ref cStp) = some false
  bn : PySem.W.exmOne K (.ref X.cBig) (.ref cNum) = some false
  bp : PySem.W.exmOne K (.ref X.cBig) (.ref X.cPar) = some false
  bb : PySem.W.exmOne K (.ref X.cBig) (.ref X.cBig) = some true
  iRow : IsC K X.cRow cErr
  iPar : IsC K X.cPar cErr
  iBig : IsC K X.cBig cErr
  xRow : XfC K X.cRow
  xPar : XfC K X.cPar
  xBig : XfC K X.cBig
def three (P : Program) {K : PySem.W.Frag} {mg : Str → Option Value} (X : TxE P K mg) : List (Str × Addr × Str) := [("row", X.cRow, "place"), ("parameter", X.cPar, "value"), ("great", X.cBig, "most")]
/-- an error of the three; what is told of it goes on -/
def EHeard {P : Program} {K : PySem.W.Frag} {mg : Str → Option Value} (X : TxE P K mg) (Q : VK) : XK := fun cls d H => ∃ tag C f, (tag, C, f) ∈ three P X ∧ ∃ v dd, cls = .ref C ∧ d = some dd ∧ H dd = some (.xd [(f, v)]) ∧ ∀ H' t, Same H H' → H' t = some (.tup [.str tag, v, .bl true]) → Q (.ref t) H'
def TTHd {P : Program} {K : PySem.W.Frag} {mg : Str → Option Value} (X : TxE P K mg) : (XK → Hp → VK → Prop) → Hp → VK → Prop := fun tl H Q => ∀ Q', tl (EHeard X Q) H Q'
section
variable {P : Program} {w : World} {K : PySem.W.Frag} {mg : Str → Option Value} {base : Heap}
theorem three_line : (3 : Nat) ≤ sizeLine := by decide
theorem heard_gives {Y : Cx} {q : Str} {g : Addr} {cdg : Value} (T : Tx Y.K Y.mg) (X : TxE Y.prog Y.K Y.mg) (U : TxH Y.prog Y.K Y.mg X) : GivesTo Y N_law_heard "_law_heard" (defScope s_law_heard) g cdg (defBody s_law_heard) "_law_call" q (TTHd X) := by
  intro f c' s H Q tl act hc h
  refine ⟨_, (pss_cons (ps_set (i := 1) sc_law_heard.nd rfl (.inl rfl) pe_non)
    (pss_cons (ps_try_told (i := 2) (Wout := fun _ _ _ _ => False) (n := "error_so")
        (tb := fun W D σ H => ∃ Ech : XK, (∀ cls d σ' H', Ech cls d H' → W cls d σ' H') ∧ σ[0]? = some (some (.ref f)) ∧ H c' = some (CodeO c' q) ∧ ∀ Q', tl Ech H Q')
        ⟨rfl, rfl⟩ sc_law_heard.nd rfl rfl LamX.takes0 (fun W pn xe tk => ?body)
        (.cons (.of (c := .ref X.cRow) ⟨by rfl, by decide, .inl X.row.gC⟩ (fun a oe cls d pn hz hf => pss_one (ps_set (i := 1) sc_law_heard.nd rfl (.inl rfl) (pe_tup (pa_cons pe_str (pa_cons (pe_xf U.xRow X.row.noN hz hf (pv 2)) (pa_cons (pe_callB (call_isX U.iRow hz hf) (by rfl) T.m_isinstance (by decide +kernel) (pa_cons (pv 2) (pa_cons (pe_glob (v := .ref U.cErr) (by rfl) U.gErr rfl) pa_nil))) pa_nil)))))))
        (.cons (.of (c := .ref U.cStp) ⟨by rfl, by decide, .inl U.gStp⟩ (fun a oe cls d pn hz hf => pss_one ps_never))
        (.cons (.of (c := .ref U.cNum) ⟨by rfl, by decide, .inl U.gNum⟩ (fun a oe cls d pn hz hf => pss_one ps_never))
        (.cons (.of (c := .ref X.cPar) ⟨by rfl, by decide, .inl X.par.gC⟩ (fun a oe cls d pn hz hf => pss_one (ps_set (i := 1) sc_law_heard.nd rfl (.inl rfl) (pe_tup (pa_cons pe_str (pa_cons (pe_xf U.xPar X.par.noN hz hf (pv 2)) (pa_cons (pe_callB (call_isX U.iPar hz hf) (by rfl) T.m_isinstance (by decide +kernel) (pa_cons (pv 2) (pa_cons (pe_glob (v := .ref U.cErr) (by rfl) U.gErr rfl) pa_nil))) pa_nil)))))))
        (.cons (.of (c := .ref X.cBig) ⟨by rfl, by decide, .inl X.big.gC⟩ (fun a oe cls d pn hz hf => pss_one (ps_set (i := 1) sc_law_heard.nd rfl (.inl rfl) (pe_tup (pa_cons pe_str (pa_cons (pe_xf U.xBig X.big.noN hz hf (pv 2)) (pa_cons (pe_callB (call_isX U.iBig hz hf) (by rfl) T.m_isinstance (by decide +kernel) (pa_cons (pv 2) (pa_cons (pe_glob (v := .ref U.cErr) (by rfl) U.gErr rfl) pa_nil))) pa_nil)))))))
        (.cons (.of (c := .ref U.cNon) ⟨by rfl, by decide, .inl U.gNon⟩ (fun a oe cls d pn hz hf => pss_one ps_never)) .nil)))))))
    (pss_one (ps_ret (pv 1))))), ?read⟩
  case body =>
    refine ⟨fun pins s' σ H' D I h' => ?_⟩
    obtain ⟨Ech, hW, h1, h2, h3⟩ := h'
    exact (pss_one (ps_set (i := 1) sc_law_heard.nd rfl (.inl rfl) (pe_tup (pa_cons pe_str (pa_cons (act W pn xe Ech _ _ tk hW) pa_nil))))).run pins s' σ H' D I ⟨h1, h2, h3 _⟩
  case read =>
    refine ⟨EHeard X Q, fun cls d σ' H' hE hl => ?_, rfl, hc, h⟩
    obtain ⟨tag, C, fl, hm, v, dd, rfl, rfl, hd, k⟩ := hE
    match σ', hl with
    | [y0, y1, y2], _ =>
      have tell : ∀ (a : Addr), (∃ (dd' : Addr) (fs : List (Str × V)) (v' : V), some dd = some dd' ∧ H' dd' = some (.xd fs) ∧ fs.lookup fl = some v' ∧ v' = v) := fun a => ⟨dd, _, v, rfl, hd, by simp [List.lookup], rfl⟩
      rcases List.mem_cons.mp hm with e | hm
      · cases e
        refine ⟨true, U.rr, fun _ a ha => ?_, fun z => Bool.noConfusion z⟩
        refine ⟨_, rfl, rfl, rfl, dd, _, v, rfl, hd, by simp [List.lookup], _, rfl, dd, _, rfl, rfl, rfl, hd, three_line, fun t nt => ⟨_, rfl, k _ t (same_new nt) upd_same⟩⟩
      rcases List.mem_cons.mp hm with e | hm
      · cases e
        refine ⟨false, U.pr, fun z => Bool.noConfusion z, fun _ => ⟨false, U.ps, fun z => Bool.noConfusion z, fun _ => ⟨false, U.pn, fun z => Bool.noConfusion z, fun _ => ⟨true, U.pp, fun _ a ha => ?_, fun z => Bool.noConfusion z⟩⟩⟩⟩
        refine ⟨_, rfl, rfl, rfl, dd, _, v, rfl, hd, by simp [List.lookup], _, rfl, dd, _, rfl, rfl, rfl, hd, three_line, fun t nt => ⟨_, rfl, k _ t (same_new nt) upd_same⟩⟩
      · cases List.mem_singleton.mp hm
        refine ⟨false, U.br, fun z => Bool.noConfusion z, fun _ => ⟨false, U.bs, fun z => Bool.noConfusion z, fun _ => ⟨false, U.bn, fun z => Bool.noConfusion z, fun _ => ⟨false, U.bp, fun z => Bool.noConfusion z, fun _ => ⟨true, U.bb, fun _ a ha => ?_, fun z => Bool.noConfusion z⟩⟩⟩⟩⟩
        refine ⟨_, rfl, rfl, rfl, dd, _, v, rfl, hd, by simp [List.lookup], _, rfl, dd, _, rfl, rfl, rfl, hd, three_line, fun t nt => ⟨_, rfl, k _ t (same_new nt) upd_same⟩⟩
end
end K65
namespace K65
open PySem PySem.Spec PyProof.Rows L2
/-! ### the written rows -/
abbrev p_q : List (Int × Int) := [(0, 1), (1, 1), (1, 1)]
abbrev R1 : List (List Rat) := [lit p_two, lit p_three]
abbrev R2 : List (List Rat) := [lit p_two, lit p_q]
abbrev R3 : List (List Rat) := [lit p_two, lit p_minus, lit p_more]
abbrev R4 : List (List Rat) := [lit p_two, lit p_minus]
abbrev R5 : List (List Rat) := [lit p_two]
theorem due1 : dueOf (wstep R1) (allw 2 2) = [([0, 1], [1, 0])] := by decide +kernel
theorem due2 : dueOf (wstep R2) (allw 2 3) = [] := by decide +kernel
theorem due3 : dueOf (wstep R3) (allw 3 2) = [([0], [1, 0]), ([2], [1, 2])] := by decide +kernel
theorem free4 : ((allw 2 1).map (wstep R4)).Nodup := by decide +kernel
theorem l_two : Ltr (lit p_two) := ltr_of _ (by decide +kernel)
theorem l_three : Ltr (lit p_three) := ltr_of _ (by decide +kernel)
theorem l_more : Ltr (lit p_more) := ltr_of _ (by decide +kernel)
theorem l_minus : Ltr (lit p_minus) := ltr_of _ (by decide +kernel)
theorem l_q : Ltr (lit p_q) := ltr_of _ (by decide +kernel)
theorem free5 : ((allw 1 8).map (wstep R5)).Nodup := by
  have h : ((allw 1 8).map fun w => den R5 w 2).Nodup := by decide +kernel
  rw [List.Nodup, List.pairwise_map] at h ⊢
  have hR : Rows R5 := fun r hr => by rw [List.mem_singleton.mp hr]; exact l_two.good
  refine h.imp_of_mem fun {u v} hu hv hne e => hne ?_
  obtain ⟨u1, _, u3⟩ := (mem_allw 1 8).mp hu
  obtain ⟨v1, _, v3⟩ := (mem_allw 1 8).mp hv
  exact (wstep_iff hR u1 u3 v1 v3).mp e 2
theorem len_two : (lit p_two).length = 3 := rfl
theorem len_three : (lit p_three).length = 4 := rfl
def hiL : List Rat := List.replicate 64 0 ++ [1]
theorem hi_ok : StepOk hiL := by
  refine ⟨⟨by decide, Tp.of_last (c := 1) (by unfold hiL; simp) (by decide)⟩, by decide, fun q hq => ?_⟩
  rcases List.mem_append.mp hq with hq | hq
  · rw [(List.mem_replicate.mp hq).2]; decide +kernel
  · rw [List.mem_singleton.mp hq]; decide +kernel
theorem big83 : 400 < (allw 8 3).length := by
  rw [allw_len, allw_len, allw_len]
  show 400 < 0 + 8 ^ 1 + 8 ^ 2 + 8 ^ 3
  decide
theorem small26 : (allw 2 6).length ≤ 400 := by decide
end K65
namespace K65
open PySem PySem.Spec PyProof.Rows L2 LamX
/-! ### a def called by keywords alone -/
def swap2 {α : Type} : List α → List α → List α
  | [], [a, b] => [b, a]
  | _, _ => []
theorem vals_swap {us ws : List Value} {vs zs : List V} (h1 : Vals vs us) (h2 : Vals zs ws) : Vals (swap2 vs zs) (swap2 us ws) := by
  cases h1 with
  | cons _ _ => exact .nil
  | nil =>
    cases h2 with
    | nil => exact .nil
    | cons a h2 =>
      cases h2 with
      | nil => exact .nil
      | cons b h2 =>
        cases h2 with
        | nil => exact .cons b (.cons a .nil)
        | cons _ _ => exact .nil
section
variable {X : Cx} {CX : CXT} {k : Nat} {f : Addr} {fd : FuncData} {ps ks : List Str} {sp : Sp} {E : XK} {x : Str} {p pos : Pos} {kws : List Keyword} {tk : TA}
theorem pe_callK0 {g : List Value → List Value → List Value} {gV : List V → List V → List V} (F : FnOk X.prog X.w X.K X.mg X.base CX k f fd ps sp) (hr : Room k X.A) (hg : Gl X x) (hm : X.mg x = some (.ref f)) (hk : PySem.W.keepIn X.K (.ref f) = true) (hb : KBinds X.K fd ps ks g gV) (hx : Passes CX X E)
    (hkw : PK X kws tk) (hall : (backToKw pos (keywordEach kws X.env)).all (·.1.isSome) = true := by rfl) (hks : (backToKw pos (keywordEach kws X.env)).filterMap (·.1) = ks := by rfl)
    (hdb : (x == ("__debug__" : Str)) = false := by decide) (hpl : ((backTo pos (starEach [] X.env)).any (·.1) || (backToKw pos (keywordEach kws X.env)).any (·.1.isNone)) = false := by rfl) :
    PE X (.Call (.Name x p) [] kws pos) (fun σ H Q => tk σ H fun zs H2 => sp (gV [] zs) H2 Q E) := by
  refine ⟨fun pins s σ H Q I h => wpAny_Call_Name_kw (ld_glob I hg hm ?_ hdb)⟩
  refine PySem.W.callWith_KW0 (h₀ := X.base) I.ok.mod.kin hk hall (thn (hkw.run pos pins s σ H _ I h) fun ws s2 ⟨zs, H2, I2, rz, q2⟩ => ⟨I2.kIn, ?_⟩) hpl
  rw [hks]
  exact run_fnk (us := []) (vs := []) F hr hb hx I2 .nil rz q2
end
/-! ### data written out -/
mutual
def teD : PyData → TE
  | .int i => tC (.int i)
  | .str z => tC (.str z)
  | .bool b => tC (.bl b)
  | .tuple ds => tTup (taD ds)
  | .list ds => tLst (taD ds)
  | _ => tC .non
def taD : List PyData → TA
  | [] => tNil
  | d :: ds => tCons (teD d) (taD ds)
end
mutual
def okD : PyData → Bool
  | .int _ => true
  | .str _ => true
  | .bool _ => true
  | .none => true
  | .tuple ds => decide (ds.length ≤ 100) && okDs ds
  | .list ds => decide (ds.length ≤ 100) && okDs ds
  | .dict _ => false
def okDs : List PyData → Bool
  | [] => true
  | d :: ds => okD d && okDs ds
end
@[irreducible] def teL (ds : List PyData) : TE := tLst (taD ds)
theorem pe_dataL {X : Cx} {es : List Expr} {pos : Pos} {ds : List PyData} (h : PA X es (taD ds)) : PE X (.List es pos) (teL ds) := by
  unfold teL
  exact pe_lst h
mutual
theorem dat_read {K : PySem.W.Frag} : ∀ (d : PyData), okD d = true → ∀ (σ : L2.St) (H : Hp) (Q : VK), (∀ x H2, Same H H2 → (∀ H3, Same H2 H3 → Dp K H3 x d) → Q x H2) → teD d σ H Q
  | .int i, _, σ, H, Q, k => k _ _ (Same.refl _) fun _ _ => .int i
  | .str z, _, σ, H, Q, k => k _ _ (Same.refl _) fun _ _ => .str z
  | .bool b, _, σ, H, Q, k => k _ _ (Same.refl _) fun _ _ => .bl b
  | .none, _, σ, H, Q, k => k _ _ (Same.refl _) fun _ _ => .non
  | .dict _, h, _, _, _, _ => by simp [okD] at h
  | .tuple ds, h, σ, H, Q, k => by
    rw [okD, Bool.and_eq_true, decide_eq_true_iff] at h
    rw [teD]
    refine dats_read (K := K) ds h.2 σ H _ fun xs H2 s2 hl hd => ⟨by rw [sizeLine_eq]; omega, fun t nt => k _ _ (s2.trans (same_new nt)) fun H3 s3 => .tup (sqT (s3 _ _ upd_same)) (hd _ ((same_new nt).trans s3))⟩
  | .list ds, h, σ, H, Q, k => by
    rw [okD, Bool.and_eq_true, decide_eq_true_iff] at h
    rw [teD]
    refine dats_read (K := K) ds h.2 σ H _ fun xs H2 s2 hl hd => ⟨by rw [sizeLine_eq]; omega, fun t nt => k _ _ (s2.trans (same_new nt)) fun H3 s3 => .lst (sqL (s3 _ _ upd_same)) (hd _ ((same_new nt).trans s3))⟩
theorem dats_read {K : PySem.W.Frag} : ∀ (ds : List PyData), okDs ds = true → ∀ (σ : L2.St) (H : Hp) (Q : List V → Hp → Prop), (∀ xs H2, Same H H2 → xs.length = ds.length → (∀ H3, Same H2 H3 → DpAll K H3 xs ds) → Q xs H2) → taD ds σ H Q
  | [], _, σ, H, Q, k => by
    rw [taD]
    exact k [] H (Same.refl _) rfl fun _ _ => .nil
  | d :: ds, h, σ, H, Q, k => by
    rw [okDs, Bool.and_eq_true] at h
    rw [taD]
    refine dat_read d h.1 σ H _ fun x H2 s2 hx => dats_read ds h.2 σ H2 _ fun xs H3 s3 hl hd => k (x :: xs) H3 (s2.trans s3) (by rw [List.length_cons, List.length_cons, hl]) fun H4 s4 => .cons (hx _ (s3.trans s4)) (hd _ s4)
end
/-! ### _law_heard(lambda: ..) -/
/-- the lambda's body, read wherever it is called -/
abbrev LamReads (X : Cx) (k : Nat) (scope : Scope) (body : Expr) (t : XK → TE) : Prop :=
  ∀ (G : Around) (below : List Env) (s₁ : Shared) (H₁ : Hp) (E : XK) (f c₁ : Addr), Room k (G.deeper (lamEnv X scope s₁.heap.objs.size f c₁)) → PE (lamCx X G below s₁ H₁ E scope f c₁) body (t E)
theorem pe_heard {X : Cx} (T : Tx X.K X.mg) (XE : TxE X.prog X.K X.mg) (U : TxH X.prog X.K X.mg XE) {c PT : Addr} {k : Nat} {params : Arguments} {body : Expr} {scope : Scope} {t : XK → TE} {p lpos pos : Pos} (sH : Scope) (qn : Str) (hq : X.env.qual = qn) (TB : TabB X.base X.mg c PT) (hcode : X.env.code = .ref c) (hr : Room (k + 2) X.A)
    (hbody : LamReads X k scope body t)
    (hg : Gl X "_law_heard" := by rfl) (esc : X.env.scope = sH := by rfl) (L : lamSB sH scope = true := by decide +kernel) (hdef : defaultsOf params X.env = ([], []) := by rfl) (hbind : ∀ (q : Str) (cl : List (Str × Addr)) (pm cv ctv : Value), bindArgs (PySem.W.kla_fn "<lambda>" q params body scope cl pm cv ctv) ⟨[], []⟩ = pure [] := by intros; rfl) :
    PE X (.Call (.Name "_law_heard" p) [.Lambda params body scope lpos] [] pos) (tLam [(PT, qn ++ "<lambda>")] (TTHd XE) t) := by
  subst hq
  obtain ⟨oc, od, kV, doc, pm, an, cdv, ct, osl, efd, lk, hcd⟩ := T.law_heard.F.ex
  have b := T.law_heard.b
  rw [efd] at lk b
  exact pe_lamcall hg T.law_heard.g T.law_heard.F.kp lk hcd b sc_law_heard rfl (.inl rfl) (heard_gives T XE U) TB hcode (List.mem_singleton.mpr rfl) (fun p hp _ => by rw [List.mem_singleton.mp hp]) hr (by rw [esc]; exact lamS_by L) hdef hbind hbody
/-! ### what is held stays as data -/
def SD (K : PySem.W.Frag) (H : Hp) (v : V) (d : PyData) : Prop := ∀ H', Tle H H' → Dp K H' v d
theorem SD.mono {K : PySem.W.Frag} {H H' : Hp} {v : V} {d : PyData} (h : SD K H v d) (t : Tle H H') : SD K H' v d := fun _ t2 => h _ (t.trans t2)
theorem sdAll {K : PySem.W.Frag} {H : Hp} : ∀ {vs : List V} {ds : List PyData}, Paired (SD K H) vs ds → DpAll K H vs ds
  | _, _, .nil => .nil
  | _, _, .cons h t => .cons (h _ (Tle.refl _)) (sdAll t)
theorem SD.rel {K : PySem.W.Frag} {H : Hp} {t : Addr} {ys : List V} {D : List (Word × Word)} (h : SqT K H t ys) (p : Paired (PrV K H) ys D) : SD K H (.ref t) (.tuple (D.map dPr)) := fun _ tl => .tup (tl.sq h) (prs_dp (pMap p fun _ _ y => y.mono tl))
theorem SD.told {K : PySem.W.Frag} {H : Hp} {t : Addr} {tag : Str} {y : V} {d : PyData} (h : H t = some (.tup [.str tag, y, .bl true])) (hy : SD K H y d) : SD K H (.ref t) (.tuple [.str tag, d, .bool true]) := fun _ tl => .tup (tl.sq (sqT h)) (.cons (.str _) (.cons (hy _ tl) (.cons (.bl true) .nil)))
theorem tle_extN {H H1 : Hp} (e : ExtN H H1) : Tle H H1 := fun a xs h => by
  rcases h with h | ⟨o, h⟩
  · exact .inl (e _ _ h fun ps z => by cases z)
  · exact .inr ⟨o, e _ _ h fun ps z => by cases z⟩
theorem got_dp {K : PySem.W.Frag} {H : Hp} {g : Addr} {vs : List V} {ds : List PyData} (h : H g = some (.lst vs)) (p : Paired (SD K H) vs ds) : Dp K H (.ref g) (.list ds) := .lst (sqL h) (sdAll p)
theorem dataL_ref {K : PySem.W.Frag} {H : Hp} {x : V} {ds : List PyData} (h : Dp K H x (.list ds)) : ∃ a, x = .ref a := by
  cases h with
  | lst _ _ => exact ⟨_, rfl⟩
theorem teL_read {K : PySem.W.Frag} {ds : List PyData} (h : okD (.list ds) = true) (σ : L2.St) (H : Hp) (Q : VK) (k : ∀ a H2, Same H H2 → (∀ H3, Same H2 H3 → Dp K H3 (.ref a) (.list ds)) → Q (.ref a) H2) : teL ds σ H Q := by
  unfold teL
  have := dat_read (K := K) (.list ds) h σ H Q fun x H2 s hx => by
    obtain ⟨a, rfl⟩ := dataL_ref (hx _ (Same.refl _))
    exact k a H2 s hx
  rw [teD] at this
  exact this
/-- what the lambda told of -/
theorem rz_heard {P : Program} {K : PySem.W.Frag} {mg : Str → Option Value} {X : TxE P K mg} {H : Hp} {C : Addr} {f tag : Str} {ok : Hp → V → Prop} {Q : VK} (hm : (tag, C, f) ∈ three P X)
    (h : ∀ H' H'' v t, Same H H' → Same H' H'' → ok H' v → H'' t = some (.tup [.str tag, v, .bl true]) → Q (.ref t) H'') : Rz H C f ok (EHeard X Q) := fun H' d v sm e k => ⟨tag, C, f, hm, v, d, rfl, rfl, e, fun H'' t s'' et => h H' H'' v t sm s'' k et⟩
theorem rep_one {α : Type} (x : α) : ∀ n : Nat, (List.replicate n [x]).flatten = List.replicate n x
  | 0 => rfl
  | n + 1 => by rw [List.replicate_succ, List.flatten_cons, rep_one x n, List.replicate_succ]; rfl
theorem four_line : (4 : Nat) ≤ sizeLine := by decide
theorem cutLast2 (xs : List V) (a b : V) : cutV (xs ++ [a] ++ [b]) (some (-2)) none = [a, b] := by
  unfold cutV
  rw [HT.sIx_none]
  have e : HT.sIx (xs ++ [a] ++ [b]).length 0 (some (-2)) = xs.length := by
    show (if (-2 : Int) < 0 then ((-2 : Int) + ((xs ++ [a] ++ [b]).length : Int)).toNat else min (-2 : Int).toNat (xs ++ [a] ++ [b]).length) = xs.length
    rw [if_pos (by decide), List.length_append, List.length_append, List.length_singleton, List.length_singleton]
    omega
  rw [e, List.append_assoc, List.drop_left]
  rw [List.length_append, Nat.add_sub_cancel_left]
  rfl
def likeL (d : PyData) : Prop := d.showable = true ∧ d.hasDict = false ∧ d.depth ≤ 50 ∧ d.shown.length ≤ sizeLine
theorem like_of {d : PyData} (h : (d.showable && !d.hasDict && decide (d.depth ≤ 50) && decide (d.shown.length ≤ 1000)) = true) : likeL d := by
  rw [Bool.and_eq_true, Bool.and_eq_true, Bool.and_eq_true, decide_eq_true_iff, decide_eq_true_iff, Bool.not_eq_true'] at h
  exact ⟨h.1.1.1, h.1.1.2, h.1.2, Nat.le_of_lt (line_of h.2)⟩
theorem odd_of {K : PySem.W.Frag} {i : Nat} {x : V} (h : [V.int 0, .int 9, .bl true, .non][i]? = some x) : ∃ dx, (∀ H, SD K H x dx) ∧ (x = .int 0 ∨ x = .int 9 ∨ x = .bl true ∨ x = .non) ∧ i ≤ 3 ∧ likeL (.list [.tuple [.str "parameter", dx, .bool true], .tuple [.str "parameter", dx, .bool true]]) := by
  match i, h with
  | 0, h => cases h; exact ⟨.int 0, fun _ _ _ => .int _, .inl rfl, by decide, like_of (by decide +kernel)⟩
  | 1, h => cases h; exact ⟨.int 9, fun _ _ _ => .int _, .inr (.inl rfl), by decide, like_of (by decide +kernel)⟩
  | 2, h => cases h; exact ⟨.bool true, fun _ _ _ => .bl _, .inr (.inr (.inl rfl)), by decide, like_of (by decide +kernel)⟩
  | 3, h => cases h; exact ⟨.none, fun _ _ _ => .non, .inr (.inr (.inr rfl)), by decide, like_of (by decide +kernel)⟩
  | n + 4, h => simp at h
theorem tabs_lst {Ts : List (Addr × Str)} {H : Hp} {g : Addr} {es ns : List V} (t : Tabs Ts H) (eg : H g = some (.lst es)) : Tabs Ts (L2.upd H g (.lst ns)) := fun p hp => by
  obtain ⟨ps, h1, h2, h3⟩ := t p hp
  have go : ∀ {b : Addr} {o : HO}, H b = some o → (∀ zs, o ≠ .lst zs) → (L2.upd H g (.lst ns)) b = some o := fun {b o} e n => by
    have : b ≠ g := fun z => by
      rw [z, eg] at e
      exact n _ (Option.some.inj e).symm
    rw [upd_ne this]; exact e
  refine ⟨ps, go h1 fun _ z => by (cases z), h2, fun pos cv hc => ?_⟩
  obtain ⟨c, e1, e2⟩ := h3 pos cv hc
  exact ⟨c, e1, go e2 fun _ z => by (unfold CodeO at z; cases z)⟩
/-! ### _law_by_hand -/
def qH : Str := "_law_by_hand" ++ ".<locals>."
def ds5 : List PyData := [.tuple [.tuple [.tuple [.int 0, .int 1], .tuple [.int 1, .int 0]]], .tuple [], .tuple [.tuple [.tuple [.int 0], .tuple [.int 1, .int 0]], .tuple [.tuple [.int 2], .tuple [.int 1, .int 2]]]]
section
variable {P : Program} {w : World} {K : PySem.W.Frag} {mg : Str → Option Value} {base : Heap}
theorem kb_of {x : Str} {st : Stmt} (D : DF K mg x st ["steps", "most"]) (h : ∀ (dV kV doc pm : Value) (an : Option Addr) (cdv ct : Value) (a b : Value), bindArgs (PySem.W.fnOf x x (defArgs st) (defBody st) (defScope st) .none kV doc pm an cdv ct) ⟨[], [(("most" : Str), a), (("steps" : Str), b)]⟩ = pure [(("steps" : Str), b), (("most" : Str), a)]) : KBinds K D.fd ["steps", "most"] ["most", "steps"] swap2 swap2 := by
  obtain ⟨oc, od, kV, doc, pm, an, cdv, ct, osl, efd, lk, hcd⟩ := D.F.ex
  refine ⟨fun s us ws _ hl => ?_, fun h1 h2 => vals_swap h1 h2⟩
  match us, ws, hl with
  | [], [a, b], _ =>
    rw [efd]
    exact BindsTo.of_eq (h .none kV doc pm an cdv ct a b)
def spHand (T : List (Addr × Str)) : Sp := fun vs H Q _ => vs = [] ∧ Tabs T H ∧ ∀ H', Q (.bl true) H'
theorem ok_law_by_hand (T : Tx K mg) (X : TxE P K mg) (U : TxH P K mg X) {cH PT : Addr} (TB : TabB base mg cH PT)
    (hcd : ∃ (oc : Value) (od : Option Addr) (nm qn : Str) (pr : Arguments) (bd : List Stmt) (sc : Scope) (dV kV doc pm : Value) (an : Option Addr) (ct : Value) (osl : Array (Option Value)), K.lookup T.law_by_hand.f = some ⟨oc, od, .func (PySem.W.fnOf nm qn pr bd sc dV kV doc pm an (.ref cH) ct), osl⟩) :
    FnG P w K mg base CX0 9 T.law_by_hand.f T.law_by_hand.fd [] (spHand [(PT, qH ++ "<lambda>")]) := by
  refine okGX T.law_by_hand.F sc_law_by_hand (fun vs H Q E h => ?_) (fun cdv A outer' s H vs Q E hr hgd e0 lk h => ?_)
  · obtain ⟨rfl, _⟩ := h
    rfl
  · obtain ⟨rfl, hT, k⟩ := h
    obtain ⟨oc, od, kV, doc, pm, an, ct, osl, lk⟩ := lk
    obtain ⟨oc2, od2, nm, qn, pr, bd, sc, dV2, kV2, doc2, pm2, an2, ct2, osl2, lk2⟩ := hcd
    have hcv : cdv = .ref cH := by
      have e := lk.symm.trans lk2
      injection e with e
      injection e with _ _ e _
      injection e with e
      injection e
    subst hcv
    have hcode : (cxOf CX0 P w K mg base N_law_by_hand "_law_by_hand" (defScope s_law_by_hand) T.law_by_hand.f (.ref cH) A outer' s H E).env.code = .ref cH := rfl
    have KR := kb_of T.relations (by intros; rfl)
    have KF := kb_of T.is_free_to (by intros; rfl)
    refine ⟨_, (pss_cons (ps_asg (pe_tup (pa_cons (pe_lit (ps := p_two) (pa_cons (pe_tup (pa_cons pe_int (pa_cons pe_int pa_nil))) (pa_cons (pe_tup (pa_cons pe_int (pa_cons pe_int pa_nil))) (pa_cons (pe_tup (pa_cons pe_int (pa_cons pe_int pa_nil))) pa_nil)))) (pa_cons (pe_lit (ps := p_three) (pa_cons (pe_tup (pa_cons pe_int (pa_cons pe_int pa_nil))) (pa_cons (pe_tup (pa_cons pe_int (pa_cons pe_int pa_nil))) (pa_cons (pe_tup (pa_cons pe_int (pa_cons pe_int pa_nil))) (pa_cons (pe_tup (pa_cons pe_int (pa_cons pe_int pa_nil))) pa_nil))))) (pa_cons (pe_tup (pa_cons (pe_tup (pa_cons pe_int (pa_cons pe_int pa_nil))) (pa_cons (pe_tup (pa_cons (pe_un un_neg pe_int) (pa_cons pe_int pa_nil))) pa_nil))) pa_nil)))) (pg_tup (by rfl) (pgs_cons (pg_name (i := 7) sc_law_by_hand.nd rfl (.inr rfl)) (pgs_cons (pg_name (i := 6) sc_law_by_hand.nd rfl (.inr rfl)) (pgs_cons (pg_name (i := 0) sc_law_by_hand.nd rfl (.inl rfl)) pgs_nil)))))
    (pss_cons (ps_set (i := 1) sc_law_by_hand.nd rfl (.inl rfl) (pe_lit (ps := p_more) (pa_cons (pe_tup (pa_cons pe_int (pa_cons pe_int pa_nil))) (pa_cons (pe_tup (pa_cons pe_int (pa_cons pe_int pa_nil))) (pa_cons (pe_tup (pa_cons pe_int (pa_cons pe_int pa_nil))) pa_nil)))))
    (pss_cons (ps_set (i := 2) sc_law_by_hand.nd rfl (.inl rfl) (pe_lst (pa_cons (pe_callK0 (ok_relations T X) (hr.mono (by decide)) (by rfl) T.relations.g T.relations.F.kp KR passL (pk_cons pe_int (pk_cons (pe_tup (pa_cons (pv 7) (pa_cons (pv 6) pa_nil))) pk_nil))) (pa_cons (pe_call (ok_relations T X) (hr.mono (by decide)) (by rfl) T.relations.g T.relations.F.kp T.relations.b .nil passL (pa_cons (pe_tup (pa_cons (pv 7) (pa_cons (pe_lit (ps := p_q) (pa_cons (pe_tup (pa_cons pe_int (pa_cons pe_int pa_nil))) (pa_cons (pe_tup (pa_cons pe_int (pa_cons pe_int pa_nil))) (pa_cons (pe_tup (pa_cons pe_int (pa_cons pe_int pa_nil))) pa_nil)))) pa_nil))) (pa_cons pe_int pa_nil))) pa_nil))))
    (pss_cons (ps_expr (pe_bm PySem.F.plainAttrs_list PySem.F.slot_list_append PySem.F.type_list_append mt_append (pv 2) (pa_cons (pe_call (ok_relations T X) (hr.mono (by decide)) (by rfl) T.relations.g T.relations.F.kp T.relations.b .nil passL (pa_cons (pe_tup (pa_cons (pv 7) (pa_cons (pv 0) (pa_cons (pv 1) pa_nil)))) (pa_cons pe_int pa_nil))) pa_nil)))
    (pss_cons (ps_set (i := 3) sc_law_by_hand.nd rfl (.inl rfl) (pe_dataL (ds := ds5) (pa_cons (pe_tup (pa_cons (pe_tup (pa_cons (pe_tup (pa_cons pe_int (pa_cons pe_int pa_nil))) (pa_cons (pe_tup (pa_cons pe_int (pa_cons pe_int pa_nil))) pa_nil))) pa_nil)) (pa_cons (pe_tup pa_nil) (pa_cons (pe_tup (pa_cons (pe_tup (pa_cons (pe_tup (pa_cons pe_int pa_nil)) (pa_cons (pe_tup (pa_cons pe_int (pa_cons pe_int pa_nil))) pa_nil))) (pa_cons (pe_tup (pa_cons (pe_tup (pa_cons pe_int pa_nil)) (pa_cons (pe_tup (pa_cons pe_int (pa_cons pe_int pa_nil))) pa_nil))) pa_nil))) pa_nil)))))
    (pss_cons (ps_if (PW.pt (pw_or (pt_not (pt_val (pe_callG (ok_law_like T) (hr.mono (by decide)) hgd (by rfl) T.law_like.g T.law_like.F.kp T.law_like.b pass0 (pa_cons (pv 2) (pa_cons (pv 3) pa_nil))))) (pw_or1 (pt_cmpR op_isnot_bl (pe_callK0 (ok_is_free_to T X) (hr.mono (by decide)) (by rfl) T.is_free_to.g T.is_free_to.F.kp KF passL (pk_cons pe_int (pk_cons (pe_tup (pa_cons (pv 7) (pa_cons (pv 0) pa_nil))) pk_nil))) pe_bl (nomark _)))))
      (pss_one (ps_ret pe_bl))
      pss_nil)
    (pss_cons (ps_set (i := 4) sc_law_by_hand.nd rfl (.inr rfl) (pe_op op_catA (pe_op op_repT (pe_tup (pa_cons (pe_tup (pa_cons pe_int (pa_cons pe_int pa_nil))) pa_nil)) pe_int) (pe_tup (pa_cons (pe_tup (pa_cons pe_int (pa_cons pe_int pa_nil))) pa_nil))))
    (pss_cons (ps_set (i := 2) sc_law_by_hand.nd rfl (.inl rfl) (pe_lst (pa_cons (pe_heard T X U (defScope s_law_by_hand) qH rfl TB hcode (k := 6) (hr.mono (by decide)) (fun A2 o2 s2 H2 E2 f2 c2 hr2 => pe_callS (ok_relations T X) hr2 (by rfl) T.relations.g T.relations.F.kp T.relations.b (fun σ => passAt (takes_of rfl rfl rfl rfl) σ) (pa_cons (pe_op (r := rRepT K) op_repT (pe_tup (pa_cons (pv 4) pa_nil)) pe_int) (pa_cons pe_int pa_nil)))) pa_nil)))
    (pss_cons (ps_expr (pe_bm PySem.F.plainAttrs_list PySem.F.slot_list_append PySem.F.type_list_append mt_append (pv 2) (pa_cons (pe_heard T X U (defScope s_law_by_hand) qH rfl TB hcode (k := 6) (hr.mono (by decide)) (fun A2 o2 s2 H2 E2 f2 c2 hr2 => pe_callS (ok_is_free_to T X) hr2 (by rfl) T.is_free_to.g T.is_free_to.F.kp T.is_free_to.b (fun σ => passAt (takes_of rfl rfl rfl rfl) σ) (pa_cons (pe_op (r := rRepT K) op_repT (pe_tup (pa_cons (pv 4) pa_nil)) pe_int) (pa_cons pe_int pa_nil)))) pa_nil)))
    (pss_cons (ps_if (PW.pt (pw_or (pt_cmpR op_isnot_bl (pe_call (ok_is_free_to T X) (hr.mono (by decide)) (by rfl) T.is_free_to.g T.is_free_to.F.kp T.is_free_to.b .nil passL (pa_cons (pe_tup (pa_cons (pv 7) pa_nil)) (pa_cons pe_int pa_nil))) pe_bl (nomark _)) (pw_or1 (pt_not (pt_val (pe_callG (ok_law_like T) (hr.mono (by decide)) hgd (by rfl) T.law_like.g T.law_like.F.kp T.law_like.b pass0 (pa_cons (pv 2) (pa_cons (pe_op op_rep (pe_lst (pa_cons (pe_tup (pa_cons pe_str (pa_cons pe_int (pa_cons pe_bl pa_nil)))) pa_nil)) pe_int) pa_nil))))))))
      (pss_one (ps_ret pe_bl))
      pss_nil)
    (pss_cons (ps_set (i := 2) sc_law_by_hand.nd rfl (.inl rfl) (pe_lst (pa_cons (pe_heard T X U (defScope s_law_by_hand) qH rfl TB hcode (k := 6) (hr.mono (by decide)) (fun A2 o2 s2 H2 E2 f2 c2 hr2 => pe_callS (ok_relations T X) hr2 (by rfl) T.relations.g T.relations.F.kp T.relations.b (fun σ => passAt (takes_of rfl rfl rfl rfl) σ) (pa_cons (pe_op (r := rRepT K) op_repT (pe_tup (pa_cons (pv 7) pa_nil)) pe_int) (pa_cons pe_int pa_nil)))) pa_nil)))
    (pss_cons (ps_expr (pe_bm PySem.F.plainAttrs_list PySem.F.slot_list_append PySem.F.type_list_append mt_append (pv 2) (pa_cons (pe_heard T X U (defScope s_law_by_hand) qH rfl TB hcode (k := 6) (hr.mono (by decide)) (fun A2 o2 s2 H2 E2 f2 c2 hr2 => pe_callS (ok_is_free_to T X) hr2 (by rfl) T.is_free_to.g T.is_free_to.F.kp T.is_free_to.b (fun σ => passAt (takes_of rfl rfl rfl rfl) σ) (pa_cons (pe_tup (pa_cons (pv 7) (pa_cons (pv 6) pa_nil))) (pa_cons pe_int pa_nil)))) pa_nil)))
    (pss_cons (ps_expr (pe_bm PySem.F.plainAttrs_list PySem.F.slot_list_append PySem.F.type_list_append mt_append (pv 2) (pa_cons (pe_heard T X U (defScope s_law_by_hand) qH rfl TB hcode (k := 6) (hr.mono (by decide)) (fun A2 o2 s2 H2 E2 f2 c2 hr2 => pe_callS (ok_relations T X) hr2 (by rfl) T.relations.g T.relations.F.kp T.relations.b (fun σ => passAt (takes_of rfl rfl rfl rfl) σ) (pa_cons (pe_tup (pa_cons (pv 7) (pa_cons pe_non pa_nil))) (pa_cons pe_int pa_nil)))) pa_nil)))
    (pss_cons (ps_for (passes_of rfl) rfl (pi_tup (pe_tup (pa_cons pe_int (pa_cons pe_int (pa_cons pe_bl (pa_cons pe_non pa_nil)))))) (pg_name (i := 5) sc_law_by_hand.nd rfl (.inr rfl))
      (pss_cons (ps_expr (pe_bm PySem.F.plainAttrs_list PySem.F.slot_list_append PySem.F.type_list_append mt_append (pv 2) (pa_cons (pe_heard T X U (defScope s_law_by_hand) qH rfl TB hcode (k := 6) (hr.mono (by decide)) (fun A2 o2 s2 H2 E2 f2 c2 hr2 => pe_callS (ok_relations T X) hr2 (by rfl) T.relations.g T.relations.F.kp T.relations.b (fun σ => passAt (takes_of rfl rfl rfl rfl) σ) (pa_cons (pe_tup (pa_cons (pv 7) pa_nil)) (pa_cons (pv 5) pa_nil)))) pa_nil)))
      (pss_cons (ps_expr (pe_bm PySem.F.plainAttrs_list PySem.F.slot_list_append PySem.F.type_list_append mt_append (pv 2) (pa_cons (pe_heard T X U (defScope s_law_by_hand) qH rfl TB hcode (k := 6) (hr.mono (by decide)) (fun A2 o2 s2 H2 E2 f2 c2 hr2 => pe_callS (ok_is_free_to T X) hr2 (by rfl) T.is_free_to.g T.is_free_to.F.kp T.is_free_to.b (fun σ => passAt (takes_of rfl rfl rfl rfl) σ) (pa_cons (pe_tup (pa_cons (pv 7) pa_nil)) (pa_cons (pv 5) pa_nil)))) pa_nil)))
      (pss_one (ps_if (pt_not (pt_val (pe_callG (ok_law_like T) (hr.mono (by decide)) hgd (by rfl) T.law_like.g T.law_like.F.kp T.law_like.b pass0 (pa_cons (pe_slice sl_list (pv 2) (po_some (pe_un un_neg pe_int)) po_none) (pa_cons (pe_op op_rep (pe_lst (pa_cons (pe_tup (pa_cons pe_str (pa_cons (pv 5) (pa_cons pe_bl pa_nil)))) pa_nil)) pe_int) pa_nil)))))
        (pss_one (ps_ret pe_bl))
        pss_nil)))))
    (pss_one (ps_ret (pe_callG (ok_law_like T) (hr.mono (by decide)) hgd (by rfl) T.law_like.g T.law_like.F.kp T.law_like.b pass0 (pa_cons (pe_slice sl_list (pv 2) po_none (po_some pe_int)) (pa_cons (pe_lst (pa_cons (pe_tup (pa_cons pe_str (pa_cons pe_int (pa_cons pe_bl pa_nil)))) (pa_cons (pe_tup (pa_cons pe_str (pa_cons pe_int (pa_cons pe_bl pa_nil)))) (pa_cons (pe_tup (pa_cons pe_str (pa_cons (pe_tup (pa_cons pe_int pa_nil)) (pa_cons pe_bl pa_nil)))) pa_nil)))) pa_nil))))))))))))))))))), ?_⟩
    -- the three written ones
    refine lit_step (K := K) p_two (can_of _ (by decide +kernel)) (by decide) _ _ _ fun x1 H1 s1 h1 => ?_
    refine lit_step (K := K) p_three (can_of _ (by decide +kernel)) (by decide) _ _ _ fun x2 H2 s2 h2 => ?_
    refine ⟨two_line, fun t1 n1 => ⟨1, rfl, two_line, fun t2 n2 => ⟨two_line, fun t3 n3 => ⟨three_line, fun t4 n4 => ?_⟩⟩⟩⟩
    refine ⟨t4, _, rfl, sqT upd_same, rfl, _, _, rfl, _, _, rfl, _, _, rfl, rfl, ?_⟩
    have s3 : Same H2 (L2.upd (L2.upd (L2.upd (L2.upd H2 t1 (.tup [.int 0, .int 1])) t2 (.tup [.int (-1), .int 1])) t3 (.tup [.ref t1, .ref t2])) t4 (.tup [x1, x2, .ref t3])) := (((same_new n1).trans (same_new n2)).trans (same_new n3)).trans (same_new n4)
    have hm : StV K (L2.upd (L2.upd (L2.upd (L2.upd H2 t1 (.tup [.int 0, .int 1])) t2 (.tup [.int (-1), .int 1])) t3 (.tup [.ref t1, .ref t2])) t4 (.tup [x1, x2, .ref t3])) (.ref t3) (lit p_minus) := by
      have c1 : CanP (0, 1) := can_of [(0, 1)] (by decide +kernel) _ List.mem_cons_self
      have c2 : CanP (-1, 1) := can_of [(-1, 1)] (by decide +kernel) _ List.mem_cons_self
      refine ⟨t3, _, rfl, (Tle.new n4).sq (sqT upd_same), .cons ⟨t1, rfl, (Tle.new n4).sq ((Tle.new n3).sq ((Tle.new n2).sq (sqT ?_)))⟩ (.cons ⟨t2, rfl, (Tle.new n4).sq ((Tle.new n3).sq (sqT ?_))⟩ .nil)⟩
      · rw [upd_same, c1.1, c1.2]
      · rw [upd_same, c2.1, c2.2]
    generalize (L2.upd (L2.upd (L2.upd (L2.upd H2 t1 (.tup [.int 0, .int 1])) t2 (.tup [.int (-1), .int 1])) t3 (.tup [.ref t1, .ref t2])) t4 (.tup [x1, x2, .ref t3])) = H3 at s3 hm ⊢
    have T0 := hT.ext fun b o e => ((s1.trans s2).trans s3) b o e
    -- more
    refine lit_step (K := K) p_more (can_of _ (by decide +kernel)) (by decide) _ _ _ fun x4 H4 s4 h4 => ?_
    have a1 : StV K H4 x1 (lit p_two) := h1.mono (((Tle.same s2).trans (Tle.same s3)).trans (Tle.same s4))
    have a2 : StV K H4 x2 (lit p_three) := h2.mono ((Tle.same s3).trans (Tle.same s4))
    have a3 : StV K H4 (.ref t3) (lit p_minus) := hm.mono (Tle.same s4)
    have T4 := T0.ext s4
    have row2 : ∀ {H : Hp} {t : Addr} {x y : V} {L M : List Rat}, H t = some (.tup [x, y]) → StV K H x L → StV K H y M → RwV K H (.ref t) [L, M] := fun e hx hy => ⟨_, _, rfl, sqT e, .cons hx (.cons hy .nil)⟩
    have ok2 : ∀ {L M : List Rat}, Ltr L → Ltr M → ∀ N ∈ [L, M], StepOk N := fun {L M} hL hM N hN => by
      rcases List.mem_cons.mp hN with rfl | hN
      · exact hL.step
      · rw [List.mem_singleton.mp hN]; exact hM.step
    have ws2 : ∀ {L M : List Rat} {m n : Nat}, 1 ≤ n → n ≤ 3 → n ^ m ≤ 256 → Ltr L → Ltr M → L.length ≤ n + 1 → M.length ≤ n + 1 → ∃ n, WSmall [L, M] m n := fun {L M m n} z1 z2 z3 hL hM k1 k2 => ⟨n, z1, z2, z3, fun N hN => by
      rcases List.mem_cons.mp hN with rfl | hN
      · exact ⟨hL, k1⟩
      · rw [List.mem_singleton.mp hN]; exact ⟨hM, k2⟩⟩
    -- got
    refine ⟨_, rfl, _, rfl, two_line, fun t5 n5 => ?_⟩
    refine ⟨_, _, rfl, .inr ⟨R1, row2 upd_same (a1.mono (.new n5)) (a2.mono (.new n5)), by decide, by decide, ok2 l_two l_three, .inr ⟨2, rfl, by decide, by decide, .inr (.inr ⟨by decide, ws2 (n := 3) (by decide) (by decide) (by decide) l_two l_three (by decide) (by decide), fun H5 r1 ys1 s5 q1 p1 => ?_⟩)⟩⟩⟩
    have b1 := a1.mono (((Tle.new n5)).trans (Tle.same s5))
    have b2 := a2.mono (((Tle.new n5)).trans (Tle.same s5))
    have b3 := a3.mono (((Tle.new n5)).trans (Tle.same s5))
    have b4 := h4.mono (((Tle.new n5)).trans (Tle.same s5))
    have T5 := T4.ext ((same_new (o := .tup [x1, x2]) n5).trans s5)
    have g1 : SD K H5 (.ref r1) (.tuple ((dueOf (wstep R1) (allw 2 2)).map dPr)) := .rel q1 p1
    rw [due1] at g1
    clear p1 q1
    refine ⟨_, rfl, ?_⟩
    refine lit_step (K := K) p_q (can_of _ (by decide +kernel)) (by decide) _ _ _ fun x6 H6 s6 h6 => ?_
    refine ⟨two_line, fun t6 n6 => ?_⟩
    have s6' := s6.trans (same_new (o := .tup [x1, x6]) n6)
    refine ⟨_, _, rfl, .inr ⟨R2, row2 upd_same (b1.mono (Tle.same s6')) (h6.mono (.new n6)), by decide, by decide, ok2 l_two l_q, .inr ⟨3, rfl, by decide, by decide, .inr (.inr ⟨by decide, ws2 (n := 2) (by decide) (by decide) (by decide) l_two l_q (by decide) (by decide), fun H7 r2 ys2 s7 q2 p2 => ?_⟩)⟩⟩⟩
    have g2 : SD K H7 (.ref r2) (.tuple ((dueOf (wstep R2) (allw 2 3)).map dPr)) := .rel q2 p2
    rw [due2] at g2
    clear p2 q2
    refine ⟨two_line, fun g ng => ?_⟩
    have s8 := (s6'.trans s7).trans (same_new (o := .lst [.ref r1, .ref r2]) ng)
    have c1 := b1.mono (Tle.same s8)
    have c2 := b2.mono (Tle.same s8)
    have c3 := b3.mono (Tle.same s8)
    have c4 := b4.mono (Tle.same s8)
    have T8 := T5.ext s8
    have eg8 : (L2.upd H7 g (.lst [.ref r1, .ref r2])) g = some (.lst [.ref r1, .ref r2]) := upd_same
    have d1 := g1.mono (Tle.same s8)
    have d2 := g2.mono (Tle.same (same_new (o := .lst [.ref r1, .ref r2]) ng))
    generalize (L2.upd H7 g (.lst [.ref r1, .ref r2])) = H8 at c1 c2 c3 c4 T8 eg8 d1 d2 ⊢
    clear s8 s7 s6 s6' s5 s4 s3 s2 s1
    -- the third
    refine ⟨_, rfl, .inl ⟨rfl, _, sqL eg8⟩, _, rfl, _, rfl, _, rfl, three_line, fun t7 n7 => ?_⟩
    have s9 : Same H8 (L2.upd H8 t7 (.tup [x1, .ref t3, x4])) := same_new n7
    have row3 : RwV K (L2.upd H8 t7 (.tup [x1, .ref t3, x4])) (.ref t7) R3 := ⟨_, _, rfl, sqT upd_same, .cons (c1.mono (Tle.same s9)) (.cons (c3.mono (Tle.same s9)) (.cons (c4.mono (Tle.same s9)) .nil))⟩
    have ok3 : ∀ N ∈ R3, StepOk N := fun N hN => by
      rcases List.mem_cons.mp hN with rfl | hN
      · exact l_two.step
      rcases List.mem_cons.mp hN with rfl | hN
      · exact l_minus.step
      · rw [List.mem_singleton.mp hN]; exact l_more.step
    have ws3 : WSmall R3 2 2 := ⟨by decide, by decide, by decide, fun N hN => by
      rcases List.mem_cons.mp hN with rfl | hN
      · exact ⟨l_two, by decide⟩
      rcases List.mem_cons.mp hN with rfl | hN
      · exact ⟨l_minus, by decide⟩
      · rw [List.mem_singleton.mp hN]; exact ⟨l_more, by decide⟩⟩
    refine ⟨_, _, rfl, .inr ⟨R3, row3, by decide, by decide, ok3, .inr ⟨2, rfl, by decide, by decide, .inr (.inr ⟨by decide, ⟨2, ws3⟩, fun H9 r3 ys3 s10 q3 p3 => ?_⟩)⟩⟩⟩
    have g3 : SD K H9 (.ref r3) (.tuple ((dueOf (wstep R3) (allw 3 2)).map dPr)) := .rel q3 p3
    rw [due3] at g3
    clear p3 q3
    have s11 := s9.trans s10
    have eg9 := s11 _ _ eg8
    have tA : Tle H9 (L2.upd H9 g (.lst ([.ref r1, .ref r2] ++ [.ref r3]))) := .lst eg9
    refine ⟨g, _, _, rfl, rfl, eg9, line_of (n := 2) (by decide), ?_⟩
    have tB := (Tle.same s11).trans tA
    have e1 := c1.mono tB
    have e2 := c2.mono tB
    have e3 := c3.mono tB
    have egA : (L2.upd H9 g (.lst ([.ref r1, .ref r2] ++ [.ref r3]))) g = some (.lst ([.ref r1, .ref r2] ++ [.ref r3])) := upd_same
    have f1 := d1.mono tB
    have f2 := d2.mono tB
    have f3 := g3.mono tA
    have TA : Tabs [(PT, qH ++ "<lambda>")] (L2.upd H9 g (.lst ([.ref r1, .ref r2] ++ [.ref r3]))) := tabs_lst (T8.ext s11) eg9
    generalize (L2.upd H9 g (.lst ([.ref r1, .ref r2] ++ [.ref r3]))) = HA at e1 e2 e3 egA f1 f2 f3 TA ⊢
    -- what is due
    refine teL_read (K := K) (by decide +kernel) _ _ _ fun du HB sB hdu => ?_
    have hds : (PyData.list ds5).showable = true ∧ (PyData.list ds5).hasDict = false ∧ (PyData.list ds5).depth ≤ 50 ∧ (PyData.list ds5).shown.length ≤ sizeLine := by
      refine ⟨by decide +kernel, by decide +kernel, by decide +kernel, ?_⟩
      rw [sizeLine_eq]; decide +kernel
    have k1 := e1.mono (Tle.same sB)
    have k2 := e2.mono (Tle.same sB)
    have k3 := e3.mono (Tle.same sB)
    have egB := sB _ _ egA
    have TB1 := TA.ext sB
    have gp : Dp K HB (.ref g) (.list ds5) := got_dp egB (.cons (f1.mono (Tle.same sB)) (.cons (f2.mono (Tle.same sB)) (.cons (f3.mono (Tle.same sB)) .nil)))
    refine ⟨_, rfl, _, rfl, g, du, _, rfl, gp, hdu _ (Same.refl _), hds.1, hds.2.1, hds.2.2.1, hds.2.2.2, _, rfl, iteF ?_⟩
    clear e1 e2 e3 f1 f2 f3 d1 d2 g1 g2 g3 c1 c2 c3 c4
    refine ⟨_, rfl, _, rfl, two_line, fun t8 n8 => ?_⟩
    have s12 : Same HB (L2.upd HB t8 (.tup [x1, .ref t3])) := same_new n8
    refine ⟨_, _, rfl, .inr ⟨R4, row2 upd_same (k1.mono (Tle.same s12)) (k3.mono (Tle.same s12)), by decide, by decide, ok2 l_two l_minus, .inr ⟨1, rfl, by decide, by decide, .inr (.inr ⟨by decide, ws2 (n := 2) (by decide) (by decide) (by decide) l_two l_minus (by decide) (by decide), fun HC bb sC hbb => ?_⟩)⟩⟩⟩
    have hbb1 : bb = true := hbb.mpr free4
    subst hbb1
    refine ⟨_, _, rfl, rfl, _, rfl, ?_⟩
    refine iteF ?_
    have sD := s12.trans sC
    have m1 := k1.mono (Tle.same sD)
    have m2 := k2.mono (Tle.same sD)
    have TD := TB1.ext sD
    clear k1 k2 k3 gp hdu sB sD egB egA TA TB1
    -- high
    refine ⟨two_line, fun a1 na1 => ⟨one_line, fun a2 na2 => ⟨a2, 64, _, rfl, rfl, sqT upd_same, by simp, by decide, by decide, Nat.le_of_ble_eq_true rfl, fun a3 na3 => ?_⟩⟩⟩
    have v1 := (same_new (o := .tup [.ref a1]) na2).trans (same_new (o := .tup (List.replicate (64 : Int).toNat [V.ref a1]).flatten) na3)
    have v0 := (same_new (o := .tup [.int 0, .int 1]) na1).trans v1
    have w1 := v1 _ _ (upd_same (H := HC) (a := a1))
    have w3 : (L2.upd (L2.upd (L2.upd HC a1 (.tup [.int 0, .int 1])) a2 (.tup [.ref a1])) a3 (.tup (List.replicate (64 : Int).toNat [V.ref a1]).flatten)) a3 = some (.tup (List.replicate (64 : Int).toNat [V.ref a1]).flatten) := upd_same
    generalize (L2.upd (L2.upd (L2.upd HC a1 (.tup [.int 0, .int 1])) a2 (.tup [.ref a1])) a3 (.tup (List.replicate (64 : Int).toNat [V.ref a1]).flatten)) = HC3 at v0 w1 w3 ⊢
    clear v1
    refine ⟨two_line, fun a4 na4 => ⟨one_line, fun a5 na5 => ?_⟩⟩
    have v2 := (same_new (o := .tup [.int 1, .int 1]) na4).trans (same_new (o := .tup [.ref a4]) na5)
    have w1' := v2 _ _ w1
    have w3' := v2 _ _ w3
    have w4 := (same_new (o := .tup [.ref a4]) na5) _ _ (upd_same (H := HC3) (a := a4))
    have w5 : (L2.upd (L2.upd HC3 a4 (.tup [.int 1, .int 1])) a5 (.tup [.ref a4])) a5 = some (.tup [.ref a4]) := upd_same
    have v3 := v0.trans v2
    generalize (L2.upd (L2.upd HC3 a4 (.tup [.int 1, .int 1])) a5 (.tup [.ref a4])) = HC5 at v3 w1' w3' w4 w5 ⊢
    refine ⟨a3, a5, _, _, rfl, rfl, sqT w3', sqT w5, ?_, fun z => absurd (congrArg List.length z) (by simp), fun _ z => absurd z (by simp), fun _ _ hg nhg => ?_⟩
    · rw [rep_one, List.length_replicate]; exact Nat.le_of_lt (line_of (n := 65) (by decide))
    have uF := same_new (o := .tup ((List.replicate (64 : Int).toNat [V.ref a1]).flatten ++ [V.ref a4])) nhg
    have uA := v3.trans uF
    have hhi : StV K (L2.upd HC5 hg (.tup ((List.replicate (64 : Int).toNat [V.ref a1]).flatten ++ [V.ref a4]))) (.ref hg) hiL := by
      refine ⟨hg, _, rfl, sqT upd_same, ?_⟩
      rw [rep_one]
      exact pApp (pRep ⟨a1, rfl, sqT (uF _ _ w1')⟩ 64) (.cons ⟨a4, rfl, sqT (uF _ _ w4)⟩ .nil)
    have o1 := m1.mono (Tle.same uA)
    have o2 := m2.mono (Tle.same uA)
    have TE := TD.ext uA
    generalize (L2.upd HC5 hg (.tup ((List.replicate (64 : Int).toNat [V.ref a1]).flatten ++ [V.ref a4]))) = HE at hhi o1 o2 TE ⊢
    clear uA uF v3 w5 w4 w3' w1' v2 w3 w1 v0
    clear m1 m2 TD sC s12
    have big8 : ∀ {good : List (List Rat) → Nat → Hp → VK → Prop} {H : Hp} {b : Addr} {x : V} {L : List Rat} {Q : VK} {E : XK}, H b = some (.tup (List.replicate (8 : Int).toNat [x]).flatten) → StV K H x L → StepOk L → Rz H X.cBig "most" (fun _ y => y = .int 400) E → spAsk K X good [.ref b, .int 3] H Q E := fun {good H b x L Q E} eb hx hL hz => by
      rw [rep_one] at eb
      refine ⟨_, _, rfl, .inr ⟨List.replicate 8 L, ⟨b, _, rfl, sqT eb, pRep hx 8⟩, by simp, by simp, fun N hN => (List.mem_replicate.mp hN).2 ▸ hL, .inr ⟨3, rfl, by decide, by decide, .inl ⟨by rw [List.length_replicate]; exact big83, hz⟩⟩⟩⟩
    have great : (("great" : Str), X.cBig, ("most" : Str)) ∈ three P X := List.mem_cons_of_mem _ (List.mem_cons_of_mem _ List.mem_cons_self)
    have param : (("parameter" : Str), X.cPar, ("value" : Str)) ∈ three P X := List.mem_cons_of_mem _ List.mem_cons_self
    have rowm : (("row" : Str), X.cRow, ("place" : Str)) ∈ three P X := List.mem_cons_self
    -- the first told of
    refine ⟨TE, fun HF xF TF Q' => ⟨_, rfl, one_line, fun b1 nb1 => ⟨b1, 8, _, rfl, rfl, sqT upd_same, by simp, by decide, by decide, Nat.le_of_ble_eq_true rfl, fun b2 nb2 => ?_⟩⟩⟩
    have tF := tle_extN xF
    have zF := (same_new (o := .tup [.ref hg]) nb1).trans (same_new (o := .tup (List.replicate (8 : Int).toNat [V.ref hg]).flatten) nb2)
    refine big8 upd_same ((hhi.mono tF).mono (Tle.same zF)) hi_ok ?_
    refine rz_heard great fun HG HH v t sm s2 ev et => ?_
    subst ev
    refine ⟨one_line, fun g2 ng2 => ?_⟩
    have zz := ((zF.trans sm).trans s2).trans (same_new (o := .lst [.ref t]) ng2)
    have tz := tF.trans (Tle.same zz)
    have TG := TF.ext zz
    have hhi2 := hhi.mono tz
    have o3 := o1.mono tz
    have o4 := o2.mono tz
    have y1 : SD K HH (.ref t) (.tuple [.str "great", .int 400, .bool true]) := .told et fun _ _ => .int _
    have y2 := y1.mono (Tle.new (o := .lst [.ref t]) ng2)
    have eg2 : (L2.upd HH g2 (.lst [.ref t])) g2 = some (.lst [.ref t]) := upd_same
    generalize (L2.upd HH g2 (.lst [.ref t])) = HJ at TG hhi2 o3 o4 y2 eg2 ⊢
    clear zz tz zF tF TF xF sm s2 et y1 o1 o2 hhi
    -- the second
    refine ⟨_, rfl, .inl ⟨rfl, _, sqL eg2⟩, TG, fun HF xF TF Q' => ⟨_, rfl, one_line, fun b1 nb1 => ⟨b1, 8, _, rfl, rfl, sqT upd_same, by simp, by decide, by decide, Nat.le_of_ble_eq_true rfl, fun b2 nb2 => ?_⟩⟩⟩
    have tF := tle_extN xF
    have zF := (same_new (o := .tup [.ref hg]) nb1).trans (same_new (o := .tup (List.replicate (8 : Int).toNat [V.ref hg]).flatten) nb2)
    refine big8 upd_same ((hhi2.mono tF).mono (Tle.same zF)) hi_ok ?_
    refine rz_heard great fun HG HH v t' sm s2 ev et => ?_
    subst ev
    have zz := (zF.trans sm).trans s2
    have tz := tF.trans (Tle.same zz)
    have egF := zz _ _ (xF _ _ eg2 fun _ z => by cases z)
    refine ⟨g2, _, _, rfl, rfl, egF, line_of (n := 1) (by decide), ?_⟩
    have ta := tz.trans (.lst (o := .lst ([.ref t] ++ [.ref t'])) egF)
    have TK := tabs_lst (ns := [.ref t] ++ [.ref t']) (TF.ext zz) egF
    have o5 := o3.mono ta
    have o6 := o4.mono ta
    have y3 : SD K HH (.ref t') (.tuple [.str "great", .int 400, .bool true]) := .told et fun _ _ => .int _
    have y4 := y2.mono ta
    have y5 := y3.mono (Tle.lst (o := .lst ([.ref t] ++ [.ref t'])) egF)
    have eg3 : (L2.upd HH g2 (.lst ([.ref t] ++ [.ref t']))) g2 = some (.lst ([.ref t] ++ [.ref t'])) := upd_same
    generalize (L2.upd HH g2 (.lst ([.ref t] ++ [.ref t']))) = HL at TK o5 o6 y4 y5 eg3 ⊢
    clear zz tz zF tF TF xF sm s2 et ta y2 y3 o3 o4 hhi2 egF TG eg2
    -- both as due
    refine ⟨_, rfl, one_line, fun t9 n9 => ?_⟩
    have s13 : Same HL (L2.upd HL t9 (.tup [x1])) := same_new n9
    refine ⟨_, _, rfl, .inr ⟨R5, ⟨t9, _, rfl, sqT upd_same, .cons (o5.mono (Tle.same s13)) .nil⟩, by decide, by decide, fun N hN => by rw [List.mem_singleton.mp hN]; exact l_two.step, .inr ⟨8, rfl, by decide, by decide, .inr (.inr ⟨by decide, ⟨2, ⟨by decide, by decide, by decide, fun N hN => by rw [List.mem_singleton.mp hN]; exact ⟨l_two, by decide⟩⟩⟩, fun HM bb sM hbb => ?_⟩)⟩⟩⟩
    have hbb1 : bb = true := hbb.mpr free5
    subst hbb1
    refine ⟨_, _, rfl, rfl, _, rfl, iteF ?_⟩
    refine ⟨_, rfl, three_line, fun ta nta => ⟨one_line, fun tb ntb => ⟨tb, 2, _, rfl, rfl, upd_same, by decide, by decide, Nat.le_of_lt (line_of (n := 2) (by decide)), fun tc ntc => ?_⟩⟩⟩
    have s14 := ((same_new (o := .tup [.str "great", .int 400, .bl true]) nta).trans (same_new (o := .lst [.ref ta]) ntb)).trans (same_new (o := .lst (List.replicate (2 : Int).toNat [V.ref ta]).flatten) ntc)
    have due2g : SD K (L2.upd HM ta (.tup [.str "great", .int 400, .bl true])) (.ref ta) (.tuple [.str "great", .int 400, .bool true]) := .told upd_same fun _ _ => .int _
    have due3g := due2g.mono (Tle.same ((same_new (o := .lst [.ref ta]) ntb).trans (same_new (o := .lst (List.replicate (2 : Int).toNat [V.ref ta]).flatten) ntc)))
    have tM := (Tle.same (s13.trans sM)).trans (Tle.same s14)
    have hgg : (PyData.list [.tuple [.str "great", .int 400, .bool true], .tuple [.str "great", .int 400, .bool true]]).showable = true ∧ (PyData.list [.tuple [.str "great", .int 400, .bool true], .tuple [.str "great", .int 400, .bool true]]).hasDict = false ∧ (PyData.list [.tuple [.str "great", .int 400, .bool true], .tuple [.str "great", .int 400, .bool true]]).depth ≤ 50 ∧ (PyData.list [.tuple [.str "great", .int 400, .bool true], .tuple [.str "great", .int 400, .bool true]]).shown.length ≤ sizeLine := by
      refine ⟨by decide +kernel, by decide +kernel, by decide +kernel, ?_⟩
      rw [sizeLine_eq]; decide +kernel
    refine ⟨g2, tc, _, rfl, got_dp (((s13.trans sM).trans s14) _ _ eg3) (.cons (y4.mono tM) (.cons (y5.mono tM) .nil)), got_dp upd_same (.cons due3g (.cons due3g .nil)), hgg.1, hgg.2.1, hgg.2.2.1, hgg.2.2.2, _, rfl, iteF ?_⟩
    have o7 := o5.mono tM
    have o8 := o6.mono tM
    have TM := TK.ext ((s13.trans sM).trans s14)
    generalize (L2.upd (L2.upd (L2.upd HM ta (.tup [.str "great", .int 400, .bl true])) tb (.lst [.ref ta])) tc (.lst (List.replicate (2 : Int).toNat [V.ref ta]).flatten)) = HP at o7 o8 TM ⊢
    clear due2g due3g tM s14 sM s13 hgg y4 y5 eg3 o5 o6 TK
    -- two to the eighth, too many
    refine ⟨TM, fun HF xF TF Q' => ⟨_, rfl, one_line, fun b1 nb1 => ⟨b1, 8, _, rfl, rfl, sqT upd_same, by simp, by decide, by decide, Nat.le_of_ble_eq_true rfl, fun b2 nb2 => ?_⟩⟩⟩
    have tF := tle_extN xF
    have zF := (same_new (o := .tup [x1]) nb1).trans (same_new (o := .tup (List.replicate (8 : Int).toNat [x1]).flatten) nb2)
    refine big8 upd_same ((o7.mono tF).mono (Tle.same zF)) l_two.step ?_
    refine rz_heard great fun HG HH v v1 sm s2 ev et => ?_
    subst ev
    refine ⟨one_line, fun g3 ng3 => ?_⟩
    have zz := ((zF.trans sm).trans s2).trans (same_new (o := .lst [.ref v1]) ng3)
    have tz := tF.trans (Tle.same zz)
    have TG := TF.ext zz
    have p1 := o7.mono tz
    have p2 := o8.mono tz
    have y1 : SD K HH (.ref v1) (.tuple [.str "great", .int 400, .bool true]) := .told et fun _ _ => .int _
    have q1 := y1.mono (Tle.new (o := .lst [.ref v1]) ng3)
    have eg3 : (L2.upd HH g3 (.lst [.ref v1])) g3 = some (.lst [.ref v1]) := upd_same
    generalize (L2.upd HH g3 (.lst [.ref v1])) = HR at TG p1 p2 q1 eg3 ⊢
    clear zz tz zF tF TF xF sm s2 et y1 o7 o8 TM
    -- three to the sixth
    refine ⟨_, rfl, .inl ⟨rfl, _, sqL eg3⟩, TG, fun HF xF TF Q' => ⟨_, rfl, _, rfl, two_line, fun b1 nb1 => ?_⟩⟩
    have tF := tle_extN xF
    have zF := same_new (o := .tup [x1, x2]) nb1
    refine ⟨_, _, rfl, .inr ⟨R1, row2 upd_same ((p1.mono tF).mono (Tle.same zF)) ((p2.mono tF).mono (Tle.same zF)), by decide, by decide, ok2 l_two l_three, .inr ⟨6, rfl, by decide, by decide, .inr (.inl ⟨small26, ⟨lit p_three, List.mem_cons_of_mem _ List.mem_cons_self, by decide⟩, ?_⟩)⟩⟩⟩
    refine rz_heard great fun HG HH v v2 sm s2 ev et => ?_
    subst ev
    have zz := (zF.trans sm).trans s2
    have tz := tF.trans (Tle.same zz)
    have egF := zz _ _ (xF _ _ eg3 fun _ z => by cases z)
    refine ⟨g3, _, _, rfl, rfl, egF, line_of (n := 1) (by decide), ?_⟩
    have ta := tz.trans (.lst (o := .lst ([.ref v1] ++ [.ref v2])) egF)
    have TK := tabs_lst (ns := [.ref v1] ++ [.ref v2]) (TF.ext zz) egF
    have p3 := p1.mono ta
    have y3 : SD K HH (.ref v2) (.tuple [.str "great", .int 256, .bool true]) := .told et fun _ _ => .int _
    have q2 := q1.mono ta
    have q3 := y3.mono (Tle.lst (o := .lst ([.ref v1] ++ [.ref v2])) egF)
    have eg4 : (L2.upd HH g3 (.lst ([.ref v1] ++ [.ref v2]))) g3 = some (.lst ([.ref v1] ++ [.ref v2])) := upd_same
    generalize (L2.upd HH g3 (.lst ([.ref v1] ++ [.ref v2]))) = HS at TK p3 q2 q3 eg4 ⊢
    clear zz tz zF tF TF xF sm s2 et ta y3 q1 p1 p2 egF TG eg3
    -- no row
    refine ⟨_, rfl, .inl ⟨rfl, _, sqL eg4⟩, TK, fun HF xF TF Q' => ⟨_, rfl, two_line, fun b1 nb1 => ?_⟩⟩
    have tF := tle_extN xF
    have zF := same_new (o := .tup [x1, .non]) nb1
    refine ⟨_, _, rfl, .inl ⟨b1, x1, lit p_two, rfl, sqT upd_same, (p3.mono tF).mono (Tle.same zF), l_two.step, ?_⟩⟩
    refine rz_heard rowm fun HG HH v v3 sm s2 ev et => ?_
    obtain ⟨tp, rfl, hp⟩ := ev
    have zz := (zF.trans sm).trans s2
    have tz := tF.trans (Tle.same zz)
    have egF := zz _ _ (xF _ _ eg4 fun _ z => by cases z)
    refine ⟨g3, _, _, rfl, rfl, egF, line_of (n := 2) (by decide), ?_⟩
    have ta := tz.trans (.lst (o := .lst ([.ref v1] ++ [.ref v2] ++ [.ref v3])) egF)
    have TL := tabs_lst (ns := [.ref v1] ++ [.ref v2] ++ [.ref v3]) (TF.ext zz) egF
    have p4 := p3.mono ta
    have y3 : SD K HH (.ref v3) (.tuple [.str "row", .tuple [.int 1], .bool true]) := .told et fun _ tl => .tup (tl.sq ((Tle.same s2).sq hp)) (.cons (.int _) .nil)
    have q4 := q2.mono ta
    have q5 := q3.mono ta
    have q6 := y3.mono (Tle.lst (o := .lst ([.ref v1] ++ [.ref v2] ++ [.ref v3])) egF)
    have eg5 : (L2.upd HH g3 (.lst ([.ref v1] ++ [.ref v2] ++ [.ref v3]))) g3 = some (.lst ([.ref v1] ++ [.ref v2] ++ [.ref v3])) := upd_same
    generalize (L2.upd HH g3 (.lst ([.ref v1] ++ [.ref v2] ++ [.ref v3]))) = HU at TL p4 q4 q5 q6 eg5 ⊢
    clear zz tz zF tF TF xF sm s2 et ta y3 q2 q3 p3 egF TK eg4 hp
    -- the odd ones
    refine ⟨four_line, fun ot no => ?_⟩
    have s15 := same_new (o := .tup [.int 0, .int 9, .bl true, .non]) no
    have eo : (L2.upd HU ot (.tup [.int 0, .int 9, .bl true, .non])) ot = some (.tup [.int 0, .int 9, .bl true, .non]) := upd_same
    refine ⟨ot, rfl, ⟨_, sqT upd_same⟩, ?_⟩
    refine for_tup (xs := [.int 0, .int 9, .bl true, .non]) (fun i σ H' => ∃ y vs, σ = [some (.ref t3), some x4, some (.ref g3), some (.ref du), some (.ref hg), y, some x2, some x1] ∧ Tle HU H' ∧ SqT K H' ot [.int 0, .int 9, .bl true, .non] ∧ H' g3 = some (.lst ([.ref v1] ++ [.ref v2] ++ [.ref v3] ++ vs)) ∧ vs.length = 2 * i ∧ i ≤ 4 ∧ Tabs [(PT, qH ++ "<lambda>")] H')
      ⟨none, [], rfl, Tle.same s15, sqT upd_same, s15 _ _ eg5, rfl, by decide, TL.ext s15⟩ (fun i σ H' hi hP => ?_) (fun i x σ H' hx hP => ?_) (fun σ H' hP => ?_)
    · obtain ⟨y, vs, rfl, _, h, _⟩ := hP
      exact h
    · obtain ⟨y, vs, rfl, tU, hot, egi, lvs, hi4, Ti⟩ := hP
      obtain ⟨dx, hdx, hxx, hi3, L4⟩ := odd_of (K := K) hx
      have pi := p4.mono tU
      have askOdd : ∀ {good : List (List Rat) → Nat → Hp → VK → Prop} {H : Hp} {b : Addr} {Q : VK} {E : XK}, H b = some (.tup [x1]) → StV K H x1 (lit p_two) → Rz H X.cPar "value" (fun _ y => y = x) E → spAsk K X good [.ref b, x] H Q E := fun {good H b Q E} eb hb hz =>
        ⟨_, _, rfl, .inr ⟨R5, ⟨b, _, rfl, sqT eb, .cons hb .nil⟩, by decide, by decide, fun N hN => by rw [List.mem_singleton.mp hN]; exact l_two.step, .inl ⟨hxx, hz⟩⟩⟩
      -- the one
      refine ⟨_, rfl, .inl ⟨rfl, _, sqL egi⟩, Ti, fun HF xF TF Q' => ⟨_, rfl, one_line, fun b1 nb1 => ⟨_, rfl, ?_⟩⟩⟩
      have tF := tle_extN xF
      have zF := same_new (o := .tup [x1]) nb1
      refine askOdd upd_same ((pi.mono tF).mono (Tle.same zF)) ?_
      refine rz_heard param fun HG HH v w1 sm s2 ev et => ?_
      rw [ev] at et
      have zz := (zF.trans sm).trans s2
      have tz := tF.trans (Tle.same zz)
      have egF := zz _ _ (xF _ _ egi fun _ z => by cases z)
      refine ⟨g3, _, _, rfl, rfl, egF, line_of (by simp only [List.length_append, List.length_singleton]; omega), ?_⟩
      have ta := tz.trans (.lst (o := .lst ([.ref v1] ++ [.ref v2] ++ [.ref v3] ++ vs ++ [.ref w1])) egF)
      have Tj := tabs_lst (ns := [.ref v1] ++ [.ref v2] ++ [.ref v3] ++ vs ++ [.ref w1]) (TF.ext zz) egF
      have y3 : SD K HH (.ref w1) (.tuple [.str "parameter", dx, .bool true]) := .told et (hdx _)
      have r1 := y3.mono (Tle.lst (o := .lst ([.ref v1] ++ [.ref v2] ++ [.ref v3] ++ vs ++ [.ref w1])) egF)
      have hot2 := ta.sq hot
      have pj := pi.mono ta
      have egj : (L2.upd HH g3 (.lst ([.ref v1] ++ [.ref v2] ++ [.ref v3] ++ vs ++ [.ref w1]))) g3 = some (.lst ([.ref v1] ++ [.ref v2] ++ [.ref v3] ++ vs ++ [.ref w1])) := upd_same
      have tUj := tU.trans ta
      generalize (L2.upd HH g3 (.lst ([.ref v1] ++ [.ref v2] ++ [.ref v3] ++ vs ++ [.ref w1]))) = HV at Tj r1 hot2 pj egj tUj ⊢
      clear zz tz zF tF TF xF sm s2 et ta y3 egF egi hot pi Ti
      -- the other
      refine ⟨_, rfl, .inl ⟨rfl, _, sqL egj⟩, Tj, fun HF xF TF Q' => ⟨_, rfl, one_line, fun b1 nb1 => ⟨_, rfl, ?_⟩⟩⟩
      have tF := tle_extN xF
      have zF := same_new (o := .tup [x1]) nb1
      refine askOdd upd_same ((pj.mono tF).mono (Tle.same zF)) ?_
      refine rz_heard param fun HG HH v w2 sm s2 ev et => ?_
      rw [ev] at et
      have zz := (zF.trans sm).trans s2
      have tz := tF.trans (Tle.same zz)
      have egF := zz _ _ (xF _ _ egj fun _ z => by cases z)
      refine ⟨g3, _, _, rfl, rfl, egF, line_of (by simp only [List.length_append, List.length_singleton]; omega), ?_⟩
      have ta := tz.trans (.lst (o := .lst ([.ref v1] ++ [.ref v2] ++ [.ref v3] ++ vs ++ [.ref w1] ++ [.ref w2])) egF)
      have Tk := tabs_lst (ns := [.ref v1] ++ [.ref v2] ++ [.ref v3] ++ vs ++ [.ref w1] ++ [.ref w2]) (TF.ext zz) egF
      have y3 : SD K HH (.ref w2) (.tuple [.str "parameter", dx, .bool true]) := .told et (hdx _)
      have r2 := y3.mono (Tle.lst (o := .lst ([.ref v1] ++ [.ref v2] ++ [.ref v3] ++ vs ++ [.ref w1] ++ [.ref w2])) egF)
      have r1' := r1.mono ta
      have hot3 := ta.sq hot2
      have egk : (L2.upd HH g3 (.lst ([.ref v1] ++ [.ref v2] ++ [.ref v3] ++ vs ++ [.ref w1] ++ [.ref w2]))) g3 = some (.lst ([.ref v1] ++ [.ref v2] ++ [.ref v3] ++ vs ++ [.ref w1] ++ [.ref w2])) := upd_same
      have tUk := tUj.trans ta
      generalize (L2.upd HH g3 (.lst ([.ref v1] ++ [.ref v2] ++ [.ref v3] ++ vs ++ [.ref w1] ++ [.ref w2]))) = HW at Tk r1' r2 hot3 egk tUk ⊢
      clear zz tz zF tF TF xF sm s2 et ta y3 egF egj hot2 r1 Tj pj tUj
      -- both as due
      refine ⟨_, rfl, 2, rfl, _, rfl, _, _, rfl, sqL egk, fun cu ncu => ?_⟩
      rw [cutLast2]
      refine ⟨_, rfl, three_line, fun ta nta => ⟨one_line, fun tb ntb => ⟨tb, 2, _, rfl, rfl, upd_same, by decide, by decide, Nat.le_of_lt (line_of (n := 2) (by decide)), fun tc ntc => ?_⟩⟩⟩
      have sa := (same_new (o := .lst [.ref ta]) ntb).trans (same_new (o := .lst (List.replicate (2 : Int).toNat [V.ref ta]).flatten) ntc)
      have sb := (same_new (o := .tup [.str "parameter", x, .bl true]) nta).trans sa
      have sc := (same_new (o := .lst [.ref w1, .ref w2]) ncu).trans sb
      have dg : SD K (L2.upd (L2.upd HW cu (.lst [.ref w1, .ref w2])) ta (.tup [.str "parameter", x, .bl true])) (.ref ta) (.tuple [.str "parameter", dx, .bool true]) := .told upd_same (hdx _)
      have dg2 := dg.mono (Tle.same sa)
      have tc2 := Tle.same sc
      refine ⟨cu, tc, _, rfl, got_dp (sb _ _ upd_same) (.cons (r1'.mono tc2) (.cons (r2.mono tc2) .nil)), got_dp upd_same (.cons dg2 (.cons dg2 .nil)), L4.1, L4.2.1, L4.2.2.1, L4.2.2.2, _, rfl, iteF ?_⟩
      refine ⟨_, vs ++ [.ref w1] ++ [.ref w2], rfl, tUk.trans tc2, tc2.sq hot3, ?_, by rw [List.length_append, List.length_append, List.length_singleton, List.length_singleton]; omega, by omega, Tk.ext sc⟩
      rw [← List.append_assoc, ← List.append_assoc]
      exact sc _ _ egk
    · obtain ⟨y, vs, rfl, tU, hot, egi, lvs, hi4, Ti⟩ := hP
      refine ⟨_, rfl, _, rfl, _, _, rfl, sqL egi, fun cu ncu => ?_⟩
      have ecut : cutV ([.ref v1] ++ [.ref v2] ++ [.ref v3] ++ vs) none (some 3) = [.ref v1, .ref v2, .ref v3] := cutTo _ 3
      rw [ecut]
      refine ⟨three_line, fun ta nta => ⟨three_line, fun tb ntb => ⟨one_line, fun tp ntp => ⟨three_line, fun tc ntc => ⟨three_line, fun td ntd => ?_⟩⟩⟩⟩⟩
      have l4 := same_new (o := .lst [.ref ta, .ref tb, .ref tc]) ntd
      have l3 := (same_new (o := .tup [.str "row", .ref tp, .bl true]) ntc).trans l4
      have l2 := (same_new (o := .tup [.int 1]) ntp).trans l3
      have l1 := (same_new (o := .tup [.str "great", .int 256, .bl true]) ntb).trans l2
      have l0 := (same_new (o := .tup [.str "great", .int 400, .bl true]) nta).trans l1
      have lU := tU.trans (Tle.same ((same_new (o := .lst [.ref v1, .ref v2, .ref v3]) ncu).trans l0))
      have L5 : likeL (.list [.tuple [.str "great", .int 400, .bool true], .tuple [.str "great", .int 256, .bool true], .tuple [.str "row", .tuple [.int 1], .bool true]]) := like_of (by decide +kernel)
      refine ⟨cu, td, _, rfl, got_dp (l0 _ _ upd_same) (.cons (q4.mono lU) (.cons (q5.mono lU) (.cons (q6.mono lU) .nil))), got_dp upd_same (.cons (.told (l1 _ _ upd_same) fun _ _ => .int _) (.cons (.told (l2 _ _ upd_same) fun _ _ => .int _) (.cons (.told (l4 _ _ upd_same) fun _ tl => .tup (tl.sq (sqT (l3 _ _ upd_same))) (.cons (.int _) .nil)) .nil))), L5.1, L5.2.1, L5.2.2.1, L5.2.2.2, k _⟩
end
/-! ### law -/
section
variable {P : Program} {w : World} {K : PySem.W.Frag} {mg : Str → Option Value} {base : Heap}
theorem far_tab {d c l PT : Addr} {n : Nat} {H H' : Hp} (st : StA H d c l n) (b : But d l H H') (h : H PT = some (.tbl #[])) : H' PT = some (.tbl #[]) := by
  refine b _ _ (fun z => ?_) (fun z => ?_) h
  · subst z
    obtain ⟨_, _⟩ := st
    simp_all
  · subst z
    obtain ⟨_, _⟩ := st
    simp_all
def spLaw (K : PySem.W.Frag) (PT : Addr) : Sp := fun vs H Q _ => ∃ (a : Addr) (ns : List Int), vs = [.ref a] ∧ SqL K H a (ns.map V.int) ∧ ns.length ≤ 63 ∧ H PT = some (.tbl #[]) ∧ ∀ H', Q (.bl true) H'
theorem ok_law (T : Tx K mg) (X : TxE P K mg) (U : TxH P K mg X) (L : DF K mg "law" s_law ["_law_script"]) {cH PT : Addr} (TB : TabB base mg cH PT)
    (hcd : ∃ (oc : Value) (od : Option Addr) (nm qn : Str) (pr : Arguments) (bd : List Stmt) (sc : Scope) (dV kV doc pm : Value) (an : Option Addr) (ct : Value) (osl : Array (Option Value)), K.lookup T.law_by_hand.f = some ⟨oc, od, .func (PySem.W.fnOf nm qn pr bd sc dV kV doc pm an (.ref cH) ct), osl⟩) :
    FnG P w K mg base CX0 10 L.f L.fd ["_law_script"] (spLaw K PT) := by
  refine L.F.okG sc_law (fun vs H Q E h => ?_) (fun cdv A outer' s H vs Q E hr hgd h => ?_)
  · obtain ⟨a, ns, rfl, _⟩ := h
    rfl
  · obtain ⟨a, ns, rfl, hS, hl, hp, k⟩ := h
    refine ⟨_, (pss_cons (ps_set (i := 1) sc_law.nd rfl (.inl rfl) (pe_call (ok_law_begin T) (hr.mono (by decide)) (by rfl) T.law_begin.g T.law_begin.F.kp T.law_begin.b .nil pass0 (pa_cons (pv 0) pa_nil)))
    (pss_one (ps_ret (pe_and (pe_callG (ok_law_right T X) (hr.mono (by decide)) hgd (by rfl) T.law_right.g T.law_right.F.kp T.law_right.b pass0 (pa_cons (pv 1) pa_nil)) (pe_and (pe_callG (ok_law_right T X) (hr.mono (by decide)) hgd (by rfl) T.law_right.g T.law_right.F.kp T.law_right.b pass0 (pa_cons (pv 1) pa_nil)) (pe_one (pe_callG0 (ok_law_by_hand T X U TB hcd) (hr.mono (by decide)) hgd (by rfl) T.law_by_hand.g T.law_by_hand.F.kp T.law_by_hand.b pass0))))))), ?_⟩
    refine ⟨_, rfl, a, ns, rfl, hS, hl, fun H1 d c l s1 st1 => ?_⟩
    have t1 := s1 _ _ hp
    refine ⟨_, rfl, d, c, l, 0, rfl, st1, by decide, fun H2 b2 st2 => ?_⟩
    have t2 := far_tab st1 b2 t1
    refine ⟨_, rfl, iteT ?_⟩
    refine ⟨_, rfl, d, c, l, _, rfl, st2, by decide, fun H3 b3 st3 => ?_⟩
    have t3 := far_tab st2 b3 t2
    refine ⟨_, rfl, iteT ?_⟩
    exact ⟨rfl, fun p hp' => by rw [List.mem_singleton.mp hp']; exact TabS.nil t3, k⟩
end
/-! ### the end: the law is called, one table of code objects beside it -/
/-- what is tracked at the start: the table, and the script where it is none of the known objects -/
def H0 (K : PySem.W.Frag) (PT a : Addr) (vs : List Value) (ns : List Int) : Hp := fun b => if b = PT then some (.tbl #[]) else if b = a ∧ K.lookup a = none then some (.frz { cls := .type "list", data := .seq vs.toArray } (.lst (ns.map V.int))) else none
section
variable {K : PySem.W.Frag} {PT a : Addr} {vs : List Value} {ns : List Int}
theorem h0_tab : H0 K PT a vs ns PT = some (.tbl #[]) := if_pos rfl
theorem h0_far {b : Addr} (h1 : b ≠ PT) (h2 : b ≠ a) : H0 K PT a vs ns b = none := (if_neg h1).trans (if_neg fun z => h2 z.1)
theorem h0_old {b : Addr} {o : Obj} (hb : K.lookup b = some o) (h1 : b ≠ PT) : H0 K PT a vs ns b = none := (if_neg h1).trans (if_neg fun z => by
  rw [z.1, z.2] at hb
  cases hb)
theorem h0_new (h1 : a ≠ PT) (hk : K.lookup a = none) : H0 K PT a vs ns a = some (.frz { cls := .type "list", data := .seq vs.toArray } (.lst (ns.map V.int))) := (if_neg h1).trans (if_pos ⟨rfl, hk⟩)
theorem h0_some {b : Addr} {o : HO} (h : H0 K PT a vs ns b = some o) : (b = PT ∧ o = .tbl #[]) ∨ (b = a ∧ a ≠ PT ∧ K.lookup a = none ∧ o = .frz { cls := .type "list", data := .seq vs.toArray } (.lst (ns.map V.int))) := by
  unfold H0 at h
  by_cases h1 : b = PT
  · rw [if_pos h1] at h
    exact .inl ⟨h1, (Option.some.inj h).symm⟩
  · rw [if_neg h1] at h
    by_cases h2 : b = a ∧ K.lookup a = none
    · rw [if_pos h2] at h
      exact .inr ⟨h2.1, fun z => h1 (h2.1.trans z), h2.2, (Option.some.inj h).symm⟩
    · rw [if_neg h2] at h
      cases h
end
/-- what the head tells of the heap -/
structure HeapG (K : PySem.W.Frag) (mg mb : Str → Option Value) (cH PT : Addr) (h : Heap) : Prop where
  kin : K.In h
  glo : h.Ns mainGlobals mg
  bui : h.Ns builtinsNs mb
  boot : ∀ x : Str, x ≠ "__name__" → mb x = bootBuiltins x
  lim : h.NoLimit
  tab : h.get? PT = some { cls := .none, data := .fields #[] }
  off : K.lookup PT = none
  code : PySem.W.CodeHd h cH PT
  bm : ∃ (bm : Addr) (ob : Obj), mg "__builtins__" = some (.ref bm) ∧ bm ≠ builtinsNs ∧ h.get? bm = some ob ∧ ob.cls = .type "module" ∧ ob.dict = some builtinsNs ∧ ob.data = .plain
section
variable {P : Program} {w : World} {K : PySem.W.Frag} {mg mb : Str → Option Value} {cH PT a : Addr} {vs : List Value} {ns : List Int} {s : Shared}
/-- an object that is neither the table nor a list stands in the base -/
theorem HeapG.seen {h : Heap} (G : HeapG K mg mb cH PT h) (ha : h.get? a = some { cls := .type "list", data := .seq vs.toArray }) {b : Addr} {o : Obj} (e : h.get? b = some o) (n1 : ∀ us n, o.data ≠ .seq us n) (n2 : o.data ≠ .fields #[]) : (hidT h (H0 K PT a vs ns)).get? b = some o := by
  refine hidT_get e (h0_far (fun z => ?_) fun z => ?_)
  · rw [z, G.tab] at e
    cases e
    exact n2 rfl
  · rw [z, ha] at e
    cases e
    exact n1 _ _ rfl
theorem HeapG.names {h : Heap} (G : HeapG K mg mb cH PT h) (ha : h.get? a = some { cls := .type "list", data := .seq vs.toArray }) {b : Addr} {m : Str → Option Value} (x : h.Ns b m) : (hidT h (H0 K PT a vs ns)).Ns b m := by
  obtain ⟨o, es, ep, e, d, r⟩ := x
  refine ⟨o, es, ep, G.seen ha e (fun us n z => ?_) (fun z => ?_), d, r⟩
  · rw [d] at z; cases z
  · rw [d] at z; cases z
theorem HeapG.env {h : Heap} (G : HeapG K mg mb cH PT h) (ha : h.get? a = some { cls := .type "list", data := .seq vs.toArray }) : L2.Mod K mg (hidT h (H0 K PT a vs ns)) := by
  refine ⟨fun b o e => hidT_get (G.kin b o e) (h0_old e fun z => ?_), G.names ha G.glo, ⟨mb, G.names ha G.bui, G.boot⟩, ?_⟩
  · rw [z, G.off] at e; cases e
  · obtain ⟨mc, l1, l2⟩ := G.lim
    exact ⟨mc, G.names ha l1, l2⟩
theorem HeapG.tabB {h : Heap} (G : HeapG K mg mb cH PT h) (ha : h.get? a = some { cls := .type "list", data := .seq vs.toArray }) : TabB (hidT h (H0 K PT a vs ns)) mg cH PT := by
  obtain ⟨go, ges, gep, ge, gd, _⟩ := G.glo
  refine ⟨?_, ?_, fun z => ?_⟩
  · obtain ⟨o, us, file, tf, flags, tg, inF, text, tt, e, r1, r2, r3, r⟩ := G.code
    refine ⟨o, us, file, tf, flags, tg, inF, text, tt, G.seen ha e (fun us n z => ?_) (fun z => ?_), r1, r2, r3, r⟩
    · rw [r2] at z; cases z
    · rw [r2] at z
      have q := Data.fields.inj z
      rw [q] at r3
      cases r3
  · obtain ⟨bm, ob, b1, b2, b3, b4, b5, b6⟩ := G.bm
    refine ⟨bm, ob, b1, b2, fun q => ?_, fun q => ?_, G.seen ha b3 (fun us n z => ?_) (fun z => ?_), b4, b5, b6⟩
    · rw [q, ge] at b3
      cases b3
      rw [gd] at b6
      cases b6
    · rw [q, G.tab] at b3
      cases b3
      cases b6
    · rw [b6] at z; cases z
    · rw [b6] at z; cases z
  · rw [z, G.tab] at ge
    cases ge
    cases gd
theorem call_g {k : Nat} {fa : Addr} {fd : FuncData} {x : Str} {sp : Sp} (G : HeapG K mg mb cH PT s.heap) (hg : s.gens = #[]) (ha : s.heap.get? a = some { cls := .type "list", data := .seq vs.toArray }) (hi : IntsAre vs ns) (hl : ns.length ≤ sizeLine) (hr : Room k callerA)
    (F : ∀ base : Heap, TabB base mg cH PT → FnG P w K mg base CX0 k fa fd [x] sp) (hb : ∀ (s : Shared) (u : Value), BindsTo s fd ⟨[u], []⟩ [(x, u)])
    (hsp : ∀ H : Hp, H PT = some (.tbl #[]) → SqL K H a (ns.map V.int) → sp [.ref a] H (fun v _ => v = .bl true) fun _ _ _ => False) :
    codeAny (model P w) callerA (.call (.ref fa) ⟨[.ref a], []⟩) (fun r s' => r = .ok (.ret (.bool true)) ∧ OldK s.heap s'.heap ∧ s'.os = s.os ∧ AllBare s'.gens) s := by
  have rv := vals_ints hi
  have na : a ≠ PT := fun z => by
    have q := G.tab
    rw [← z, ha] at q
    have := congrArg Obj.data (Option.some.inj q)
    cases this
  have hS : SqL K (H0 K PT a vs ns) a (ns.map V.int) := by
    cases hk : K.lookup a with
    | none => exact .inl (.inr ⟨_, h0_new na hk⟩)
    | some o =>
      have e := G.kin a o hk
      rw [ha] at e
      cases e
      exact .inr ⟨_, vs.toArray, _, hk, rfl, rfl, rfl, by rw [List.size_toArray, hi.length]; exact hl, by simpa using rv⟩
  have hok : HOk P w (H0 K PT a vs ns) s.heap := fun b o e => by
    rcases h0_some e with ⟨rfl, rfl⟩ | ⟨rfl, _, _, rfl⟩
    · exact G.tab
    · exact ⟨ha, by rw [List.length_map]; exact hl, vs, _, rv, ha⟩
  have e0 : Env0 P w K mg (hidT s.heap (H0 K PT a vs ns)) callerA [] s (H0 K PT a vs ns) := ⟨rfl, G.env ha, fun b o e => of_hidT e, Nat.le_of_eq (hidT_size _ _), trivial, fun b z => (nomatch z), hok, .of_eq hg⟩
  refine codeAny_mono ((F _ (G.tabB ha)).gives (us := [.ref a]) (vs := [.ref a]) ⟨hr, rfl, e0, hb s (.ref a), .cons rfl .nil⟩ (hsp _ h0_tab hS)) ?_
  rintro (er | _ | _ | _ | u) s' done
  · exact False.elim done
  · exact False.elim done
  · exact False.elim done
  · exact False.elim done
  obtain ⟨_, H', os, bare, un, held, is, rfl⟩ := done
  cases is
  have stays : ∀ b o, b ≠ PT → s.heap.get? b = some o → s'.heap.get? b = some o := fun b o n e => by
    cases q : H0 K PT a vs ns b with
    | none => exact un.keep b o e q (fun z => nomatch (show b ∈ ([] : List Addr) from z)) List.not_mem_nil
    | some u =>
      rcases h0_some q with ⟨z, _⟩ | ⟨rfl, _, _, rfl⟩
      · exact absurd z n
      · cases e.symm.trans (hok _ _ q).1
        exact (held _ _ (un.frzs _ _ _ q)).1
  obtain ⟨more, hm⟩ := un.tbls PT #[] h0_tab
  have grown : s'.heap.get? PT = some { cls := .none, data := .fields (#[] ++ more) } := held PT _ hm
  have tabOrNot : ∀ b o, s.heap.get? b = some o → b = PT ∧ o = { cls := .none, data := .fields #[] } ∨ s'.heap.get? b = some o := fun b o e => by
    by_cases z : b = PT
    · exact .inl ⟨z, Option.some.inj (e.symm.trans (z ▸ G.tab))⟩
    · exact .inr (stays b o z e)
  refine ⟨rfl, ⟨fun b o e => (tabOrNot b o e).elim ?_ .inl, fun b o e => (tabOrNot b o e).elim ?_ fun z => ⟨o, z⟩⟩, os, bare⟩
  · rintro ⟨rfl, rfl⟩
    exact .inr (.inl ⟨(G.code.tab G.tab).isCodeTable, rfl, #[], more, rfl, grown⟩)
  · rintro ⟨rfl, rfl⟩
    exact ⟨_, grown⟩
end
/-- what is known of the law at the head's heap -/
def LawG (l : PySem.W.OpenLaw) (w : World) (K : PySem.W.Frag) (k n : Nat) (x : Str) (mg : Str → Option Value) (fa : Addr) (h : Heap) : Prop :=
  ∃ (fd : FuncData) (cH PT : Addr) (sp : Sp), h.get? PT = some { cls := .none, data := .fields #[] } ∧ K.lookup PT = none ∧ PySem.W.CodeHd h cH PT ∧ (∀ (s : Shared) (u : Value), BindsTo s fd ⟨[u], []⟩ [(x, u)]) ∧
    (∀ (H : Hp) (a : Addr) (ns : List Int), ns.length ≤ n → H PT = some (.tbl #[]) → SqL K H a (ns.map V.int) → sp [.ref a] H (fun v _ => v = .bl true) fun _ _ _ => False) ∧ ∀ base : Heap, TabB base mg cH PT → FnG l.prog w K mg base CX0 k fa fd [x] sp
theorem walk_g {l : PySem.W.OpenLaw} {n k : Nat} {q : Program} {loose : List Str} {XP : (Str → Option Value) → Heap → Prop} {YP : World → Heap → Prop} {d : DefRec} {K : Params → PySem.W.Frag} {x : Str} (room : Room k callerA) (few : n ≤ sizeLine) (most : l.most = some n) (plain : d.params.defaults = [])
    (known : ∀ w h, YP w h → (K w.params).In h) (F : ∀ w mg fa h, YP w h → XP mg h → (K w.params).In h → h.Ns mainGlobals mg → mg d.name = some (.ref fa) → LawG l w (K w.params) k n x mg fa h) : PySem.W.WalkO q loose XP YP l.row.toRowW d [] fun f vs => PySem.call f vs :=
  Att.attach_callB most plain fun w _ _ mg mb fa _ _ _ _ a vs ns G Y _ _ _ hmg obj whole len _ gens =>
    let ⟨_, _, _, _, tab, off, code, binds, sp, F'⟩ := F w mg fa _ Y G.X (known w _ Y) G.T.g hmg
    call_g ⟨known w _ Y, G.T.g, G.T.b, G.T.builtins, G.T.nolimit, tab, off, code, G.T.bmain⟩ gens obj whole (Nat.le_trans len few) room F' binds fun H hH hS => sp H a ns len hH hS
section
variable {K : PySem.W.Frag} {mg : Str → Option Value} {h : Heap}
def df_mk {x : Str} {st : Stmt} {ps : List Str} {f : Addr} {oc : Value} {od an : Option Addr} {osl : Array (Option Value)} {kV doc pm cdv ct : Value} (X : K.In h) (G : h.Ns mainGlobals mg) (n : PySem.W.nsIn K mainGlobals x = some (some (.ref f)))
    (l : K.lookup f = some ⟨oc, od, .func (PySem.W.fnOf x x (defArgs st) (defBody st) (defScope st) .none kV doc pm an cdv ct), osl⟩) (c : PySem.W.codeIn K cdv x = true) (k : PySem.W.keepIn K (.ref f) = true)
    (b : ∀ (kV doc pm : Value) (an : Option Addr) (cdv ct : Value) (us : List Value), us.length = ps.length → bindArgs (PySem.W.fnOf x x (defArgs st) (defBody st) (defScope st) .none kV doc pm an cdv ct) ⟨us, []⟩ = pure (ps.zip us)) : DF K mg x st ps :=
  ⟨f, _, fun_mk l c k, PySem.W.mg_of X G n, (fun_mk l c k).binds b⟩
theorem int_mk {x : Str} {i : Int} {t : Tok} (X : K.In h) (G : h.Ns mainGlobals mg) (n : PySem.W.nsIn K mainGlobals x = some (some (.int i t))) : ∃ t, mg x = some (.int i t) := ⟨t, PySem.W.mg_of X G n⟩
theorem dfc_mk {x : Str} {st : Stmt} {ps : List Str} {f cH : Addr} {oc : Value} {od an : Option Addr} {osl : Array (Option Value)} {kV doc pm ct : Value} (X : K.In h) (G : h.Ns mainGlobals mg) (n : PySem.W.nsIn K mainGlobals x = some (some (.ref f)))
    (l : K.lookup f = some ⟨oc, od, .func (PySem.W.fnOf x x (defArgs st) (defBody st) (defScope st) .none kV doc pm an (.ref cH) ct), osl⟩) (c : PySem.W.codeIn K (.ref cH) x = true) (k : PySem.W.keepIn K (.ref f) = true)
    (b : ∀ (kV doc pm : Value) (an : Option Addr) (cdv ct : Value) (us : List Value), us.length = ps.length → bindArgs (PySem.W.fnOf x x (defArgs st) (defBody st) (defScope st) .none kV doc pm an cdv ct) ⟨us, []⟩ = pure (ps.zip us)) :
    ∃ D : DF K mg x st ps, ∃ (oc : Value) (od : Option Addr) (nm qn : Str) (pr : Arguments) (bd : List Stmt) (sc : Scope) (dV kV doc pm : Value) (an : Option Addr) (ct : Value) (osl : Array (Option Value)), K.lookup D.f = some ⟨oc, od, .func (PySem.W.fnOf nm qn pr bd sc dV kV doc pm an (.ref cH) ct), osl⟩ :=
  ⟨df_mk X G n l c k b, _, _, _, _, _, _, _, _, _, _, _, _, _, _, l⟩
theorem err_mk {P : Program} {n f txt : Str} {C fI : Addr} {nm qc : Str} {N : Addr} {bs bm : List Value} {sn : List Str} {sub : List Value} {ab : Bool} {col : Option Bool} {dd : Option Addr} {k0 k1 k2 k3 k5 : Option Value}
    {oc : Value} {od an : Option Addr} {doc pm ct : Value} {cda cc : Addr} {osl : Array (Option Value)} {q : Str} (p1 p2 : Pos) (p : Fin 11 → Pos) {ccl : Value} {cdd : Option Addr} {us : Array Value} {ccs : Array (Option Value)} {file : Str} {tf : Tok} {cl : Value} {cld : Option Addr} {csl : Array (Option Value)}
    (X : K.In h) (G : h.Ns mainGlobals mg) (a : PySem.W.nsIn K mainGlobals n = some (some (.ref C)))
    (xL : K.lookup C = some (excClassObj nm qc C N bs bm true sn sub ab col dd k0 k1 k2 k3 k5 "ValueError.__new__")) (rv : PySem.HandSPX.refsVE bm = true)
    (sa : PySem.W.findIn K (.ref C) "__setattr__" = some (some (.builtin "object.__setattr__"))) (nb : PySem.W.findIn K (.ref C) f = some none) (a1 : PySem.W.findIn K (.ref C) "__init__" = some (some (.ref fI))) (t1 : PySem.W.typeIn K (.ref fI) = some (.type "function"))
    (kC : PySem.W.keepIn K (.ref C) = true) (eC : PySem.W.subIn K (.ref C) (.type "BaseException") = some true) (vC : PySem.W.subIn K (.ref C) (.type "ValueError") = some true) (tC : PySem.W.typeIn K (.ref C) = some (.type "type"))
    (own : PySem.W.mroIn K C (.ref C) = some true) (sup : PySem.W.ks_superIn K C C "__init__" = some (some (.builtin "ValueError.__init__"))) (opq : PySem.W.nsIn K cStatics "thirdparty.any" = some none) (noS : PySem.W.nsIn K mainGlobals "super" = some none) (top : (P.main.scope.names.lookup ("super" : Str)).isSome = false)
    (l1 : K.lookup fI = some ⟨oc, od, .func (PySem.W.ksFn "__init__" q (eA f p1 p2) (eB f txt p) (eS f) .none .none doc pm an (.ref cda) ct cc), osl⟩) (c1 : PySem.W.codeIn K (.ref cda) q = true) (ln : ((p 2).endLine == (p 5).line) = true)
    (lc : K.lookup cda = some ⟨ccl, cdd, .fields us, ccs⟩) (hv : us[2]? = some (.str file tf)) (hf : ((P.main.file : Str) == file) = true) (lz : K.lookup cc = some ⟨cl, cld, .cell (some (.ref C)), csl⟩) : ErrT P K mg n f txt C fI :=
  { gC := PySem.W.mg_of X G a, cls := ⟨nm, qc, N, bs, bm, sn, sub, ab, col, dd, k0, k1, k2, k3, k5, xL, rv⟩, sa := sa, noN := nb, iC := a1, tC := t1, kC := kC, exC := eC, veC := vC, tyC := tC, own := own, sup := sup, opq := opq, noS := PySem.W.mg_none_of X G noS, top := top,
    fn := ⟨oc, od, doc, pm, an, cda, ct, cc, osl, q, p1, p2, p, l1, c1, ln, ⟨ccl, cdd, us, ccs, file, tf, lc, hv, hf⟩, cl, cld, csl, lz⟩ }
def txh_mk {P : Program} {XE : TxE P K mg} {C1 C2 C3 c1 c2 c3 c4 : Addr} (X : K.In h) (G : h.Ns mainGlobals mg) (z1 : XE.cRow = C1) (z2 : XE.cPar = C2) (z3 : XE.cBig = C3)
    (s : PySem.W.nsIn K mainGlobals "BadStep" = some (some (.ref c1))) (n : PySem.W.nsIn K mainGlobals "BadNumber" = some (some (.ref c2))) (o : PySem.W.nsIn K mainGlobals "NoRow" = some (some (.ref c3))) (e : PySem.W.nsIn K mainGlobals "StepError" = some (some (.ref c4)))
    (f1 : PySem.W.exmOne K (.ref C1) (.ref C1) = some true) (f2 : PySem.W.exmOne K (.ref C2) (.ref C1) = some false) (f3 : PySem.W.exmOne K (.ref C2) (.ref c1) = some false) (f4 : PySem.W.exmOne K (.ref C2) (.ref c2) = some false) (f5 : PySem.W.exmOne K (.ref C2) (.ref C2) = some true)
    (f6 : PySem.W.exmOne K (.ref C3) (.ref C1) = some false) (f7 : PySem.W.exmOne K (.ref C3) (.ref c1) = some false) (f8 : PySem.W.exmOne K (.ref C3) (.ref c2) = some false) (f9 : PySem.W.exmOne K (.ref C3) (.ref C2) = some false) (f10 : PySem.W.exmOne K (.ref C3) (.ref C3) = some true)
    (i1 : IsC K C1 c4) (i2 : IsC K C2 c4) (i3 : IsC K C3 c4) (x1 : XfC K C1) (x2 : XfC K C2) (x3 : XfC K C3) : TxH P K mg XE := by
  subst z1 z2 z3
  exact ⟨c1, c2, c3, c4, PySem.W.mg_of X G s, PySem.W.mg_of X G n, PySem.W.mg_of X G o, PySem.W.mg_of X G e, f1, f2, f3, f4, f5, f6, f7, f8, f9, f10, i1, i2, i3, x1, x2, x3⟩
theorem law_mk {x y : Str} {st : Stmt} {f : Addr} {oc : Value} {od an : Option Addr} {osl : Array (Option Value)} {kV doc pm cdv ct : Value} (X : K.In h) (G : h.Ns mainGlobals mg) (n : PySem.W.nsIn K mainGlobals x = some (some (.ref f)))
    (l : K.lookup f = some ⟨oc, od, .func (PySem.W.fnOf x x (defArgs st) (defBody st) (defScope st) .none kV doc pm an cdv ct), osl⟩) (c : PySem.W.codeIn K cdv x = true) (k : PySem.W.keepIn K (.ref f) = true)
    (b : ∀ (kV doc pm : Value) (an : Option Addr) (cdv ct : Value) (us : List Value), us.length = 1 → bindArgs (PySem.W.fnOf x x (defArgs st) (defBody st) (defScope st) .none kV doc pm an cdv ct) ⟨us, []⟩ = pure ([y].zip us)) :
    ∃ D : DF K mg x st [y], ∀ (s : Shared) (u : Value), BindsTo s D.fd ⟨[u], []⟩ [(y, u)] :=
  ⟨df_mk X G n l c k b, fun _ u => .of_eq (b _ _ _ _ _ _ [u] rfl)⟩
theorem part_mk {q : Program} {x : Str} {i : Int} (z : PySem.W.XL q [(x, .int i)] mg h) : ∃ t, mg x = some (.int i t) := by
  obtain ⟨v, h1, h2⟩ := z.2.val _ (List.mem_singleton.mpr rfl)
  cases h2 with
  | int _ t => exact ⟨t, h1⟩
theorem law_end {l : PySem.W.OpenLaw} {w : World} {fa : Addr} (T : Tx K mg) (XE : TxE l.prog K mg) (U : TxH l.prog K mg XE) (L : DF K mg "law" s_law ["_law_script"]) (hb : ∀ (s : Shared) (u : Value), BindsTo s L.fd ⟨[u], []⟩ [(("_law_script" : Str), u)]) (hmg : mg "law" = some (.ref fa)) {cH PT : Addr}
    (hcd : ∃ (oc : Value) (od : Option Addr) (nm qn : Str) (pr : Arguments) (bd : List Stmt) (sc : Scope) (dV kV doc pm : Value) (an : Option Addr) (ct : Value) (osl : Array (Option Value)), K.lookup T.law_by_hand.f = some ⟨oc, od, .func (PySem.W.fnOf nm qn pr bd sc dV kV doc pm an (.ref cH) ct), osl⟩)
    (t1 : h.get? PT = some { cls := .none, data := .fields #[] }) (t2 : K.lookup PT = none) (t3 : PySem.W.CodeHd h cH PT) : LawG l w K 10 63 "_law_script" mg fa h := by
  have e := L.g.symm.trans hmg
  have e2 : L.f = fa := Value.ref.inj (Option.some.inj e)
  subst e2
  exact ⟨L.fd, cH, PT, spLaw K PT, t1, t2, t3, hb, fun H a ns hl hp hS => ⟨a, ns, rfl, hS, hl, hp, fun _ => rfl⟩, fun base TB => ok_law T XE U L TB hcd⟩
end
end K65
open PySem PySem.W PyProof.Rows L2
set_option maxHeartbeats 0 in
theorem PySem.Challenge.cw_stepswithin_k65_whole_relations_of_words_holds : PySem.Challenge.rw_stepswithin_k65_whole_relations_of_words.Holds := by
  w_on; o_law; k_head; (case hw => w_witness2)
  k_fill
  refine K65.walk_g (l := PySem.Challenge.rw_stepswithin_k65_whole_relations_of_words) (n := 63) (k := 10) (x := "_law_script") ⟨rfl, by decide, by decide⟩ (by decide) rfl (by kernel_rfl) (fun w h Y => PySem.W.km_in_of Y) ?F
  case F =>
    intro w mg fa h Y XP X G hmg
    have c_MOST_PART := K65.part_mk XP
    have t1 := PySem.W.km_tabs_of Y 449 (List.mem_singleton.mpr rfl)
    have d_is_from : K65.DF (PySem.Challenge.cw_stepswithin_k65_whole_relations_of_words_holds.heap_39 w.params) mg "is_from" K65.s_is_from ["value", "low", "high"] := by
      refine' K65.df_mk X G ?n ?l ?c ?k ?b
      (case n => k_is); (case l => k_is); (case c => k_is); (case k => k_is)
      (case b => exact fun _ _ _ _ _ _ us hl => match us, hl with | [_, _, _], _ => rfl)
    have d_is_number : K65.DF (PySem.Challenge.cw_stepswithin_k65_whole_relations_of_words_holds.heap_39 w.params) mg "is_number" K65.s_is_number ["value"] := by
      refine' K65.df_mk X G ?n ?l ?c ?k ?b
      (case n => k_is); (case l => k_is); (case c => k_is); (case k => k_is)
      (case b => exact fun _ _ _ _ _ _ us hl => match us, hl with | [_], _ => rfl)
    have d_is_step : K65.DF (PySem.Challenge.cw_stepswithin_k65_whole_relations_of_words_holds.heap_39 w.params) mg "is_step" K65.s_is_step ["value"] := by
      refine' K65.df_mk X G ?n ?l ?c ?k ?b
      (case n => k_is); (case l => k_is); (case c => k_is); (case k => k_is)
      (case b => exact fun _ _ _ _ _ _ us hl => match us, hl with | [_], _ => rfl)
    have d_need_row : K65.DF (PySem.Challenge.cw_stepswithin_k65_whole_relations_of_words_holds.heap_39 w.params) mg "need_row" K65.s_need_row ["value"] := by
      refine' K65.df_mk X G ?n ?l ?c ?k ?b
      (case n => k_is); (case l => k_is); (case c => k_is); (case k => k_is)
      (case b => exact fun _ _ _ _ _ _ us hl => match us, hl with | [_], _ => rfl)
    have d_number_of : K65.DF (PySem.Challenge.cw_stepswithin_k65_whole_relations_of_words_holds.heap_39 w.params) mg "number_of" K65.s_number_of ["above", "below"] := by
      refine' K65.df_mk X G ?n ?l ?c ?k ?b
      (case n => k_is); (case l => k_is); (case c => k_is); (case k => k_is)
      (case b => exact fun _ _ _ _ _ _ us hl => match us, hl with | [_, _], _ => rfl)
    have d_reduced : K65.DF (PySem.Challenge.cw_stepswithin_k65_whole_relations_of_words_holds.heap_39 w.params) mg "reduced" K65.s_reduced ["numbers", "below"] := by
      refine' K65.df_mk X G ?n ?l ?c ?k ?b
      (case n => k_is); (case l => k_is); (case c => k_is); (case k => k_is)
      (case b => exact fun _ _ _ _ _ _ us hl => match us, hl with | [_, _], _ => rfl)
    have d_as_poly : K65.DF (PySem.Challenge.cw_stepswithin_k65_whole_relations_of_words_holds.heap_39 w.params) mg "as_poly" K65.s_as_poly ["step"] := by
      refine' K65.df_mk X G ?n ?l ?c ?k ?b
      (case n => k_is); (case l => k_is); (case c => k_is); (case k => k_is)
      (case b => exact fun _ _ _ _ _ _ us hl => match us, hl with | [_], _ => rfl)
    have d_as_step : K65.DF (PySem.Challenge.cw_stepswithin_k65_whole_relations_of_words_holds.heap_39 w.params) mg "as_step" K65.s_as_step ["poly"] := by
      refine' K65.df_mk X G ?n ?l ?c ?k ?b
      (case n => k_is); (case l => k_is); (case c => k_is); (case k => k_is)
      (case b => exact fun _ _ _ _ _ _ us hl => match us, hl with | [_], _ => rfl)
    have d_times_so : K65.DF (PySem.Challenge.cw_stepswithin_k65_whole_relations_of_words_holds.heap_39 w.params) mg "times_so" K65.s_times_so ["one", "other"] := by
      refine' K65.df_mk X G ?n ?l ?c ?k ?b
      (case n => k_is); (case l => k_is); (case c => k_is); (case k => k_is)
      (case b => exact fun _ _ _ _ _ _ us hl => match us, hl with | [_, _], _ => rfl)
    have d_put_in : K65.DF (PySem.Challenge.cw_stepswithin_k65_whole_relations_of_words_holds.heap_39 w.params) mg "put_in" K65.s_put_in ["outer", "inner"] := by
      refine' K65.df_mk X G ?n ?l ?c ?k ?b
      (case n => k_is); (case l => k_is); (case c => k_is); (case k => k_is)
      (case b => exact fun _ _ _ _ _ _ us hl => match us, hl with | [_, _], _ => rfl)
    have d_check_degree : K65.DF (PySem.Challenge.cw_stepswithin_k65_whole_relations_of_words_holds.heap_39 w.params) mg "check_degree" K65.s_check_degree ["degree"] := by
      refine' K65.df_mk X G ?n ?l ?c ?k ?b
      (case n => k_is); (case l => k_is); (case c => k_is); (case k => k_is)
      (case b => exact fun _ _ _ _ _ _ us hl => match us, hl with | [_], _ => rfl)
    have d_whole_of : K65.DF (PySem.Challenge.cw_stepswithin_k65_whole_relations_of_words_holds.heap_39 w.params) mg "whole_of" K65.s_whole_of ["polys"] := by
      refine' K65.df_mk X G ?n ?l ?c ?k ?b
      (case n => k_is); (case l => k_is); (case c => k_is); (case k => k_is)
      (case b => exact fun _ _ _ _ _ _ us hl => match us, hl with | [_], _ => rfl)
    have d_degree_of_word : K65.DF (PySem.Challenge.cw_stepswithin_k65_whole_relations_of_words_holds.heap_39 w.params) mg "degree_of_word" K65.s_degree_of_word ["steps", "word"] := by
      refine' K65.df_mk X G ?n ?l ?c ?k ?b
      (case n => k_is); (case l => k_is); (case c => k_is); (case k => k_is)
      (case b => exact fun _ _ _ _ _ _ us hl => match us, hl with | [_, _], _ => rfl)
    have d_word_poly : K65.DF (PySem.Challenge.cw_stepswithin_k65_whole_relations_of_words_holds.heap_39 w.params) mg "word_poly" K65.s_word_poly ["steps", "word"] := by
      refine' K65.df_mk X G ?n ?l ?c ?k ?b
      (case n => k_is); (case l => k_is); (case c => k_is); (case k => k_is)
      (case b => exact fun _ _ _ _ _ _ us hl => match us, hl with | [_, _], _ => rfl)
    have d_need_most : K65.DF (PySem.Challenge.cw_stepswithin_k65_whole_relations_of_words_holds.heap_39 w.params) mg "need_most" K65.s_need_most ["value"] := by
      refine' K65.df_mk X G ?n ?l ?c ?k ?b
      (case n => k_is); (case l => k_is); (case c => k_is); (case k => k_is)
      (case b => exact fun _ _ _ _ _ _ us hl => match us, hl with | [_], _ => rfl)
    have d_words_to : K65.DF (PySem.Challenge.cw_stepswithin_k65_whole_relations_of_words_holds.heap_39 w.params) mg "words_to" K65.s_words_to ["steps", "most"] := by
      refine' K65.df_mk X G ?n ?l ?c ?k ?b
      (case n => k_is); (case l => k_is); (case c => k_is); (case k => k_is)
      (case b => exact fun _ _ _ _ _ _ us hl => match us, hl with | [_, _], _ => rfl)
    have d_classes_so : K65.DF (PySem.Challenge.cw_stepswithin_k65_whole_relations_of_words_holds.heap_39 w.params) mg "classes_so" K65.s_classes_so ["steps", "most"] := by
      refine' K65.df_mk X G ?n ?l ?c ?k ?b
      (case n => k_is); (case l => k_is); (case c => k_is); (case k => k_is)
      (case b => exact fun _ _ _ _ _ _ us hl => match us, hl with | [_, _], _ => rfl)
    have d_word_key : K65.DF (PySem.Challenge.cw_stepswithin_k65_whole_relations_of_words_holds.heap_39 w.params) mg "word_key" K65.s_word_key ["word"] := by
      refine' K65.df_mk X G ?n ?l ?c ?k ?b
      (case n => k_is); (case l => k_is); (case c => k_is); (case k => k_is)
      (case b => exact fun _ _ _ _ _ _ us hl => match us, hl with | [_], _ => rfl)
    have d_relation_key : K65.DF (PySem.Challenge.cw_stepswithin_k65_whole_relations_of_words_holds.heap_39 w.params) mg "relation_key" K65.s_relation_key ["pair"] := by
      refine' K65.df_mk X G ?n ?l ?c ?k ?b
      (case n => k_is); (case l => k_is); (case c => k_is); (case k => k_is)
      (case b => exact fun _ _ _ _ _ _ us hl => match us, hl with | [_], _ => rfl)
    have d_relations : K65.DF (PySem.Challenge.cw_stepswithin_k65_whole_relations_of_words_holds.heap_39 w.params) mg "relations" K65.s_relations ["steps", "most"] := by
      refine' K65.df_mk X G ?n ?l ?c ?k ?b
      (case n => k_is); (case l => k_is); (case c => k_is); (case k => k_is)
      (case b => exact fun _ _ _ _ _ _ us hl => match us, hl with | [_, _], _ => rfl)
    have d_is_free_to : K65.DF (PySem.Challenge.cw_stepswithin_k65_whole_relations_of_words_holds.heap_39 w.params) mg "is_free_to" K65.s_is_free_to ["steps", "most"] := by
      refine' K65.df_mk X G ?n ?l ?c ?k ?b
      (case n => k_is); (case l => k_is); (case c => k_is); (case k => k_is)
      (case b => exact fun _ _ _ _ _ _ us hl => match us, hl with | [_, _], _ => rfl)
    have d_law_mixed : K65.DF (PySem.Challenge.cw_stepswithin_k65_whole_relations_of_words_holds.heap_39 w.params) mg "_law_mixed" K65.s_law_mixed ["_law_cell", "_law_k"] := by
      refine' K65.df_mk X G ?n ?l ?c ?k ?b
      (case n => k_is); (case l => k_is); (case c => k_is); (case k => k_is)
      (case b => exact fun _ _ _ _ _ _ us hl => match us, hl with | [_, _], _ => rfl)
    have d_law_begin : K65.DF (PySem.Challenge.cw_stepswithin_k65_whole_relations_of_words_holds.heap_39 w.params) mg "_law_begin" K65.s_law_begin ["_law_script"] := by
      refine' K65.df_mk X G ?n ?l ?c ?k ?b
      (case n => k_is); (case l => k_is); (case c => k_is); (case k => k_is)
      (case b => exact fun _ _ _ _ _ _ us hl => match us, hl with | [_], _ => rfl)
    have d_law_draw : K65.DF (PySem.Challenge.cw_stepswithin_k65_whole_relations_of_words_holds.heap_39 w.params) mg "_law_draw" K65.s_law_draw ["_law_state", "_law_limit"] := by
      refine' K65.df_mk X G ?n ?l ?c ?k ?b
      (case n => k_is); (case l => k_is); (case c => k_is); (case k => k_is)
      (case b => exact fun _ _ _ _ _ _ us hl => match us, hl with | [_, _], _ => rfl)
    have d_law_number : K65.DF (PySem.Challenge.cw_stepswithin_k65_whole_relations_of_words_holds.heap_39 w.params) mg "_law_number" K65.s_law_number ["_law_state", "_law_most_to", "_law_below"] := by
      refine' K65.df_mk X G ?n ?l ?c ?k ?b
      (case n => k_is); (case l => k_is); (case c => k_is); (case k => k_is)
      (case b => exact fun _ _ _ _ _ _ us hl => match us, hl with | [_, _, _], _ => rfl)
    have d_law_step : K65.DF (PySem.Challenge.cw_stepswithin_k65_whole_relations_of_words_holds.heap_39 w.params) mg "_law_step" K65.s_law_step ["_law_state", "_law_size", "_law_most_to", "_law_below"] := by
      refine' K65.df_mk X G ?n ?l ?c ?k ?b
      (case n => k_is); (case l => k_is); (case c => k_is); (case k => k_is)
      (case b => exact fun _ _ _ _ _ _ us hl => match us, hl with | [_, _, _, _], _ => rfl)
    have d_law_row : K65.DF (PySem.Challenge.cw_stepswithin_k65_whole_relations_of_words_holds.heap_39 w.params) mg "_law_row" K65.s_law_row ["_law_state", "_law_sizes_so", "_law_most_to", "_law_below"] := by
      refine' K65.df_mk X G ?n ?l ?c ?k ?b
      (case n => k_is); (case l => k_is); (case c => k_is); (case k => k_is)
      (case b => exact fun _ _ _ _ _ _ us hl => match us, hl with | [_, _, _, _], _ => rfl)
    have d_law_divisor : K65.DF (PySem.Challenge.cw_stepswithin_k65_whole_relations_of_words_holds.heap_39 w.params) mg "_law_divisor" K65.s_law_divisor ["_law_one", "_law_other"] := by
      refine' K65.df_mk X G ?n ?l ?c ?k ?b
      (case n => k_is); (case l => k_is); (case c => k_is); (case k => k_is)
      (case b => exact fun _ _ _ _ _ _ us hl => match us, hl with | [_, _], _ => rfl)
    have d_law_frac : K65.DF (PySem.Challenge.cw_stepswithin_k65_whole_relations_of_words_holds.heap_39 w.params) mg "_law_frac" K65.s_law_frac ["_law_above", "_law_below"] := by
      refine' K65.df_mk X G ?n ?l ?c ?k ?b
      (case n => k_is); (case l => k_is); (case c => k_is); (case k => k_is)
      (case b => exact fun _ _ _ _ _ _ us hl => match us, hl with | [_, _], _ => rfl)
    have d_law_add : K65.DF (PySem.Challenge.cw_stepswithin_k65_whole_relations_of_words_holds.heap_39 w.params) mg "_law_add" K65.s_law_add ["_law_one", "_law_other"] := by
      refine' K65.df_mk X G ?n ?l ?c ?k ?b
      (case n => k_is); (case l => k_is); (case c => k_is); (case k => k_is)
      (case b => exact fun _ _ _ _ _ _ us hl => match us, hl with | [_, _], _ => rfl)
    have d_law_mul : K65.DF (PySem.Challenge.cw_stepswithin_k65_whole_relations_of_words_holds.heap_39 w.params) mg "_law_mul" K65.s_law_mul ["_law_one", "_law_other"] := by
      refine' K65.df_mk X G ?n ?l ?c ?k ?b
      (case n => k_is); (case l => k_is); (case c => k_is); (case k => k_is)
      (case b => exact fun _ _ _ _ _ _ us hl => match us, hl with | [_, _], _ => rfl)
    have d_law_trim : K65.DF (PySem.Challenge.cw_stepswithin_k65_whole_relations_of_words_holds.heap_39 w.params) mg "_law_trim" K65.s_law_trim ["_law_told"] := by
      refine' K65.df_mk X G ?n ?l ?c ?k ?b
      (case n => k_is); (case l => k_is); (case c => k_is); (case k => k_is)
      (case b => exact fun _ _ _ _ _ _ us hl => match us, hl with | [_], _ => rfl)
    have d_law_sum : K65.DF (PySem.Challenge.cw_stepswithin_k65_whole_relations_of_words_holds.heap_39 w.params) mg "_law_sum" K65.s_law_sum ["_law_one", "_law_other"] := by
      refine' K65.df_mk X G ?n ?l ?c ?k ?b
      (case n => k_is); (case l => k_is); (case c => k_is); (case k => k_is)
      (case b => exact fun _ _ _ _ _ _ us hl => match us, hl with | [_, _], _ => rfl)
    have d_law_product : K65.DF (PySem.Challenge.cw_stepswithin_k65_whole_relations_of_words_holds.heap_39 w.params) mg "_law_product" K65.s_law_product ["_law_one", "_law_other"] := by
      refine' K65.df_mk X G ?n ?l ?c ?k ?b
      (case n => k_is); (case l => k_is); (case c => k_is); (case k => k_is)
      (case b => exact fun _ _ _ _ _ _ us hl => match us, hl with | [_, _], _ => rfl)
    have d_law_within : K65.DF (PySem.Challenge.cw_stepswithin_k65_whole_relations_of_words_holds.heap_39 w.params) mg "_law_within" K65.s_law_within ["_law_inner", "_law_outer"] := by
      refine' K65.df_mk X G ?n ?l ?c ?k ?b
      (case n => k_is); (case l => k_is); (case c => k_is); (case k => k_is)
      (case b => exact fun _ _ _ _ _ _ us hl => match us, hl with | [_, _], _ => rfl)
    have d_law_whole : K65.DF (PySem.Challenge.cw_stepswithin_k65_whole_relations_of_words_holds.heap_39 w.params) mg "_law_whole" K65.s_law_whole ["_law_rows_so"] := by
      refine' K65.df_mk X G ?n ?l ?c ?k ?b
      (case n => k_is); (case l => k_is); (case c => k_is); (case k => k_is)
      (case b => exact fun _ _ _ _ _ _ us hl => match us, hl with | [_], _ => rfl)
    have d_law_word_step : K65.DF (PySem.Challenge.cw_stepswithin_k65_whole_relations_of_words_holds.heap_39 w.params) mg "_law_word_step" K65.s_law_word_step ["_law_rows_so", "_law_letters_so"] := by
      refine' K65.df_mk X G ?n ?l ?c ?k ?b
      (case n => k_is); (case l => k_is); (case c => k_is); (case k => k_is)
      (case b => exact fun _ _ _ _ _ _ us hl => match us, hl with | [_, _], _ => rfl)
    have d_law_words : K65.DF (PySem.Challenge.cw_stepswithin_k65_whole_relations_of_words_holds.heap_39 w.params) mg "_law_words" K65.s_law_words ["_law_many_so", "_law_most_so"] := by
      refine' K65.df_mk X G ?n ?l ?c ?k ?b
      (case n => k_is); (case l => k_is); (case c => k_is); (case k => k_is)
      (case b => exact fun _ _ _ _ _ _ us hl => match us, hl with | [_, _], _ => rfl)
    have d_law_heard : K65.DF (PySem.Challenge.cw_stepswithin_k65_whole_relations_of_words_holds.heap_39 w.params) mg "_law_heard" K65.s_law_heard ["_law_call"] := by
      refine' K65.df_mk X G ?n ?l ?c ?k ?b
      (case n => k_is); (case l => k_is); (case c => k_is); (case k => k_is)
      (case b => exact fun _ _ _ _ _ _ us hl => match us, hl with | [_], _ => rfl)
    have d_law_like : K65.DF (PySem.Challenge.cw_stepswithin_k65_whole_relations_of_words_holds.heap_39 w.params) mg "_law_like" K65.s_law_like ["_law_got", "_law_due"] := by
      refine' K65.df_mk X G ?n ?l ?c ?k ?b
      (case n => k_is); (case l => k_is); (case c => k_is); (case k => k_is)
      (case b => exact fun _ _ _ _ _ _ us hl => match us, hl with | [_, _], _ => rfl)
    have d_law_some_steps : K65.DF (PySem.Challenge.cw_stepswithin_k65_whole_relations_of_words_holds.heap_39 w.params) mg "_law_some_steps" K65.s_law_some_steps ["_law_state"] := by
      refine' K65.df_mk X G ?n ?l ?c ?k ?b
      (case n => k_is); (case l => k_is); (case c => k_is); (case k => k_is)
      (case b => exact fun _ _ _ _ _ _ us hl => match us, hl with | [_], _ => rfl)
    have d_law_right : K65.DF (PySem.Challenge.cw_stepswithin_k65_whole_relations_of_words_holds.heap_39 w.params) mg "_law_right" K65.s_law_right ["_law_state"] := by
      refine' K65.df_mk X G ?n ?l ?c ?k ?b
      (case n => k_is); (case l => k_is); (case c => k_is); (case k => k_is)
      (case b => exact fun _ _ _ _ _ _ us hl => match us, hl with | [_], _ => rfl)
    obtain ⟨d_law_by_hand, hcd⟩ := (by
      refine' K65.dfc_mk (x := "_law_by_hand") (st := K65.s_law_by_hand) (ps := []) X G ?n ?l ?c ?k ?b
      (case n => k_is); (case l => k_is); (case c => k_is); (case k => k_is)
      (case b => exact fun _ _ _ _ _ _ us hl => match us, hl with | [], _ => rfl) : ∃ D : K65.DF (PySem.Challenge.cw_stepswithin_k65_whole_relations_of_words_holds.heap_39 w.params) mg "_law_by_hand" K65.s_law_by_hand [], ∃ (oc : PySem.Value) (od : Option PySem.Addr) (nm qn : PySem.Str) (pr : PySem.Arguments) (bd : List PySem.Stmt) (sc : PySem.Scope) (dV kV doc pm : PySem.Value) (an : Option PySem.Addr) (ct : PySem.Value) (osl : Array (Option PySem.Value)), List.lookup D.f (PySem.Challenge.cw_stepswithin_k65_whole_relations_of_words_holds.heap_39 w.params) = some ⟨oc, od, .func (PySem.W.fnOf nm qn pr bd sc dV kV doc pm an (.ref 453) ct), osl⟩)
    obtain ⟨d_law, hbL⟩ := (by
      refine' K65.law_mk (x := "law") (y := "_law_script") (st := K65.s_law) X G ?n ?l ?c ?k ?b
      (case n => k_is); (case l => k_is); (case c => k_is); (case k => k_is)
      (case b => exact fun _ _ _ _ _ _ us hl => match us, hl with | [_], _ => rfl) : ∃ D : K65.DF (PySem.Challenge.cw_stepswithin_k65_whole_relations_of_words_holds.heap_39 w.params) mg "law" K65.s_law ["_law_script"], ∀ (s : PySem.Shared) (u : PySem.Value), BindsTo s D.fd ⟨[u], []⟩ [(("_law_script" : PySem.Str), u)])
    have m_isinstance : mg "isinstance" = none := by
      refine' PySem.W.mg_none_of X G ?e
      (case e => k_is)
    have m_int : mg "int" = none := by
      refine' PySem.W.mg_none_of X G ?e
      (case e => k_is)
    have m_bool : mg "bool" = none := by
      refine' PySem.W.mg_none_of X G ?e
      (case e => k_is)
    have m_tuple : mg "tuple" = none := by
      refine' PySem.W.mg_none_of X G ?e
      (case e => k_is)
    have m_len : mg "len" = none := by
      refine' PySem.W.mg_none_of X G ?e
      (case e => k_is)
    have m_enumerate : mg "enumerate" = none := by
      refine' PySem.W.mg_none_of X G ?e
      (case e => k_is)
    have m_reversed : mg "reversed" = none := by
      refine' PySem.W.mg_none_of X G ?e
      (case e => k_is)
    have m_range : mg "range" = none := by
      refine' PySem.W.mg_none_of X G ?e
      (case e => k_is)
    have m_max : mg "max" = none := by
      refine' PySem.W.mg_none_of X G ?e
      (case e => k_is)
    have m_list : mg "list" = none := by
      refine' PySem.W.mg_none_of X G ?e
      (case e => k_is)
    have m_sorted : mg "sorted" = none := by
      refine' PySem.W.mg_none_of X G ?e
      (case e => k_is)
    have m_repr : mg "repr" = none := by
      refine' PySem.W.mg_none_of X G ?e
      (case e => k_is)
    have m_super : mg "super" = none := by
      refine' PySem.W.mg_none_of X G ?e
      (case e => k_is)
    have m_gcd : mg "gcd" = some (.builtin "math.gcd") := by
      refine' PySem.W.mg_of X G ?e
      (case e => k_is)
    have c_MOST_DEGREE : ∃ t, mg "MOST_DEGREE" = some (.int 64 t) := by
      refine' K65.int_mk X G ?e
      (case e => k_is)
    have c_MOST_ROW : ∃ t, mg "MOST_ROW" = some (.int 8 t) := by
      refine' K65.int_mk X G ?e
      (case e => k_is)
    have c_MOST_WHOLE : ∃ t, mg "MOST_WHOLE" = some (.int 256 t) := by
      refine' K65.int_mk X G ?e
      (case e => k_is)
    have c_MOST_LETTERS : ∃ t, mg "MOST_LETTERS" = some (.int 8 t) := by
      refine' K65.int_mk X G ?e
      (case e => k_is)
    have c_MOST_WORDS : ∃ t, mg "MOST_WORDS" = some (.int 400 t) := by
      refine' K65.int_mk X G ?e
      (case e => k_is)
    have c_MOST_DEGREE_OF_WORD : ∃ t, mg "MOST_DEGREE_OF_WORD" = some (.int 256 t) := by
      refine' K65.int_mk X G ?e
      (case e => k_is)
    let T : K65.Tx (PySem.Challenge.cw_stepswithin_k65_whole_relations_of_words_holds.heap_39 w.params) mg := { is_from := d_is_from, is_number := d_is_number, is_step := d_is_step, need_row := d_need_row, number_of := d_number_of, reduced := d_reduced, as_poly := d_as_poly, as_step := d_as_step, times_so := d_times_so, put_in := d_put_in, check_degree := d_check_degree, whole_of := d_whole_of, degree_of_word := d_degree_of_word, word_poly := d_word_poly, need_most := d_need_most, words_to := d_words_to, classes_so := d_classes_so, word_key := d_word_key, relation_key := d_relation_key, relations := d_relations, is_free_to := d_is_free_to, law_mixed := d_law_mixed, law_begin := d_law_begin, law_draw := d_law_draw, law_number := d_law_number, law_step := d_law_step, law_row := d_law_row, law_divisor := d_law_divisor, law_frac := d_law_frac, law_add := d_law_add, law_mul := d_law_mul, law_trim := d_law_trim, law_sum := d_law_sum, law_product := d_law_product, law_within := d_law_within, law_whole := d_law_whole, law_word_step := d_law_word_step, law_words := d_law_words, law_heard := d_law_heard, law_like := d_law_like, law_some_steps := d_law_some_steps, law_right := d_law_right, law_by_hand := d_law_by_hand, m_isinstance := m_isinstance, m_int := m_int, m_bool := m_bool, m_tuple := m_tuple, m_len := m_len, m_enumerate := m_enumerate, m_reversed := m_reversed, m_range := m_range, m_max := m_max, m_list := m_list, m_sorted := m_sorted, m_repr := m_repr, m_super := m_super, m_gcd := m_gcd, c_MOST_PART := c_MOST_PART, c_MOST_DEGREE := c_MOST_DEGREE, c_MOST_ROW := c_MOST_ROW, c_MOST_WHOLE := c_MOST_WHOLE, c_MOST_LETTERS := c_MOST_LETTERS, c_MOST_WORDS := c_MOST_WORDS, c_MOST_DEGREE_OF_WORD := c_MOST_DEGREE_OF_WORD }
    have e_row : K65.ErrT (PySem.Challenge.rw_stepswithin_k65_whole_relations_of_words.prog) (PySem.Challenge.cw_stepswithin_k65_whole_relations_of_words_holds.heap_39 w.params) mg "BadRow" "place" "no row" 116 113 := by
      refine' K65.err_mk ⟨17, 17, 17, 21⟩ ⟨17, 23, 17, 28⟩ (fun i => ([⟨18, 8, 18, 13⟩, ⟨18, 8, 18, 15⟩, ⟨18, 8, 18, 24⟩, ⟨18, 25, 18, 33⟩, ⟨18, 35, 18, 40⟩, ⟨18, 8, 18, 41⟩, ⟨18, 8, 18, 41⟩, ⟨19, 8, 19, 12⟩, ⟨19, 8, 19, 18⟩, ⟨19, 21, 19, 26⟩, ⟨19, 8, 19, 26⟩] : List PySem.Pos).getD i.val ⟨0, 0, 0, 0⟩) X G ?a ?xL ?rv ?sa ?nb ?a1 ?t1 ?kC ?eC ?vC ?tC ?own ?sup ?opq ?noS ?top ?l1 ?c1 ?ln ?lc ?hv ?hf ?lz
      (case a => k_is); (case xL => k_is); (case rv => kernel_rfl); (case sa => k_is); (case nb => k_is); (case a1 => k_is); (case t1 => k_is)
      (case kC => k_is); (case eC => k_is); (case vC => k_is); (case tC => k_is); (case own => k_is); (case sup => kernel_rfl); (case opq => k_is); (case noS => k_is); (case top => kernel_rfl)
      (case l1 => k_is); (case c1 => k_is); (case ln => exact rfl); (case lc => k_is); (case hv => exact rfl); (case hf => kernel_rfl); (case lz => k_is)
    have e_par : K65.ErrT (PySem.Challenge.rw_stepswithin_k65_whole_relations_of_words.prog) (PySem.Challenge.cw_stepswithin_k65_whole_relations_of_words_holds.heap_39 w.params) mg "BadParameter" "value" "not as told" 137 134 := by
      refine' K65.err_mk ⟨22, 17, 22, 21⟩ ⟨22, 23, 22, 28⟩ (fun i => ([⟨23, 8, 23, 13⟩, ⟨23, 8, 23, 15⟩, ⟨23, 8, 23, 24⟩, ⟨23, 25, 23, 38⟩, ⟨23, 40, 23, 45⟩, ⟨23, 8, 23, 46⟩, ⟨23, 8, 23, 46⟩, ⟨24, 8, 24, 12⟩, ⟨24, 8, 24, 18⟩, ⟨24, 21, 24, 26⟩, ⟨24, 8, 24, 26⟩] : List PySem.Pos).getD i.val ⟨0, 0, 0, 0⟩) X G ?a ?xL ?rv ?sa ?nb ?a1 ?t1 ?kC ?eC ?vC ?tC ?own ?sup ?opq ?noS ?top ?l1 ?c1 ?ln ?lc ?hv ?hf ?lz
      (case a => k_is); (case xL => k_is); (case rv => kernel_rfl); (case sa => k_is); (case nb => k_is); (case a1 => k_is); (case t1 => k_is)
      (case kC => k_is); (case eC => k_is); (case vC => k_is); (case tC => k_is); (case own => k_is); (case sup => kernel_rfl); (case opq => k_is); (case noS => k_is); (case top => kernel_rfl)
      (case l1 => k_is); (case c1 => k_is); (case ln => exact rfl); (case lc => k_is); (case hv => exact rfl); (case hf => kernel_rfl); (case lz => k_is)
    have e_big : K65.ErrT (PySem.Challenge.rw_stepswithin_k65_whole_relations_of_words.prog) (PySem.Challenge.cw_stepswithin_k65_whole_relations_of_words_holds.heap_39 w.params) mg "TooGreat" "most" "too great" 179 176 := by
      refine' K65.err_mk ⟨31, 17, 31, 21⟩ ⟨31, 23, 31, 27⟩ (fun i => ([⟨32, 8, 32, 13⟩, ⟨32, 8, 32, 15⟩, ⟨32, 8, 32, 24⟩, ⟨32, 25, 32, 36⟩, ⟨32, 38, 32, 42⟩, ⟨32, 8, 32, 43⟩, ⟨32, 8, 32, 43⟩, ⟨33, 8, 33, 12⟩, ⟨33, 8, 33, 17⟩, ⟨33, 20, 33, 24⟩, ⟨33, 8, 33, 24⟩] : List PySem.Pos).getD i.val ⟨0, 0, 0, 0⟩) X G ?a ?xL ?rv ?sa ?nb ?a1 ?t1 ?kC ?eC ?vC ?tC ?own ?sup ?opq ?noS ?top ?l1 ?c1 ?ln ?lc ?hv ?hf ?lz
      (case a => k_is); (case xL => k_is); (case rv => kernel_rfl); (case sa => k_is); (case nb => k_is); (case a1 => k_is); (case t1 => k_is)
      (case kC => k_is); (case eC => k_is); (case vC => k_is); (case tC => k_is); (case own => k_is); (case sup => kernel_rfl); (case opq => k_is); (case noS => k_is); (case top => kernel_rfl)
      (case l1 => k_is); (case c1 => k_is); (case ln => exact rfl); (case lc => k_is); (case hv => exact rfl); (case hf => kernel_rfl); (case lz => k_is)
    let XE : K65.TxE (PySem.Challenge.rw_stepswithin_k65_whole_relations_of_words.prog) (PySem.Challenge.cw_stepswithin_k65_whole_relations_of_words_holds.heap_39 w.params) mg := { cRow := 116, cPar := 137, cBig := 179, iRow := 113, iPar := 134, iBig := 176, row := e_row, par := e_par, big := e_big }
    have i_Row : K65.IsC (PySem.Challenge.cw_stepswithin_k65_whole_relations_of_words_holds.heap_39 w.params) 116 52 := by
      refine' K65.IsC.mk ?cl ?ga ?gg ?ex ?kc ?kg ?kt ?ob ?on
      (case cl => kernel_rfl); (case ga => k_is); (case gg => k_is); (case ex => k_is); (case kc => k_is); (case kg => k_is); (case kt => k_is); (case ob => k_is); (case on => kernel_rfl)
    have x_Row : XfC (PySem.Challenge.cw_stepswithin_k65_whole_relations_of_words_holds.heap_39 w.params) 116 := by
      refine' XfC.mk ?ga ?gg ?ex ?hd
      (case ga => k_is); (case gg => k_is); (case ex => k_is); (case hd => k_is)
    have i_Par : K65.IsC (PySem.Challenge.cw_stepswithin_k65_whole_relations_of_words_holds.heap_39 w.params) 137 52 := by
      refine' K65.IsC.mk ?cl ?ga ?gg ?ex ?kc ?kg ?kt ?ob ?on
      (case cl => kernel_rfl); (case ga => k_is); (case gg => k_is); (case ex => k_is); (case kc => k_is); (case kg => k_is); (case kt => k_is); (case ob => k_is); (case on => kernel_rfl)
    have x_Par : XfC (PySem.Challenge.cw_stepswithin_k65_whole_relations_of_words_holds.heap_39 w.params) 137 := by
      refine' XfC.mk ?ga ?gg ?ex ?hd
      (case ga => k_is); (case gg => k_is); (case ex => k_is); (case hd => k_is)
    have i_Big : K65.IsC (PySem.Challenge.cw_stepswithin_k65_whole_relations_of_words_holds.heap_39 w.params) 179 52 := by
      refine' K65.IsC.mk ?cl ?ga ?gg ?ex ?kc ?kg ?kt ?ob ?on
      (case cl => kernel_rfl); (case ga => k_is); (case gg => k_is); (case ex => k_is); (case kc => k_is); (case kg => k_is); (case kt => k_is); (case ob => k_is); (case on => kernel_rfl)
    have x_Big : XfC (PySem.Challenge.cw_stepswithin_k65_whole_relations_of_words_holds.heap_39 w.params) 179 := by
      refine' XfC.mk ?ga ?gg ?ex ?hd
      (case ga => k_is); (case gg => k_is); (case ex => k_is); (case hd => k_is)
    have U : K65.TxH (PySem.Challenge.rw_stepswithin_k65_whole_relations_of_words.prog) (PySem.Challenge.cw_stepswithin_k65_whole_relations_of_words_holds.heap_39 w.params) mg XE := by
      refine' K65.txh_mk (C1 := 116) (C2 := 137) (C3 := 179) X G rfl rfl rfl ?s ?n ?o ?e ?f1 ?f2 ?f3 ?f4 ?f5 ?f6 ?f7 ?f8 ?f9 ?f10 i_Row i_Par i_Big x_Row x_Par x_Big
      (case s => k_is); (case n => k_is); (case o => k_is); (case e => k_is)
      (case f1 => kernel_rfl); (case f2 => kernel_rfl); (case f3 => kernel_rfl); (case f4 => kernel_rfl); (case f5 => kernel_rfl); (case f6 => kernel_rfl); (case f7 => kernel_rfl); (case f8 => kernel_rfl); (case f9 => kernel_rfl); (case f10 => kernel_rfl)
    refine' K65.law_end T XE U d_law hbL hmg (cH := 453) (PT := 449) hcd t1 ?e1 ?e2
    (case e1 => kernel_rfl)
    (case e2 => refine' PySem.W.codeHd_of_K X ?e; (case e => kernel_rfl))
