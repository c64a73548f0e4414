import PyProof.Rows.All
import Wide.All
import OpenK.AllK
import Wide.FinOn
import PySem.Challenge.RW_xm0074_01
set_option Elab.async false
set_option compiler.extract_closed false
set_option maxRecDepth 100000
set_option maxHeartbeats 8000000
-- part: Defs
namespace Mine
/-! what the program computes, in plain Lean -/
def ent (row : List Rat) (c : Nat) : Rat := row.getD c 0
/-- the places from r on with a number other than 0 in column c -/
def spots (M : List (List Rat)) (r c : Nat) : List Nat := (List.range' r (M.length - r)).filter fun p => decide (ent (M.getD p []) c ≠ 0)
def swapL {α : Type} (M : List α) (d : α) (i j : Nat) : List α := (M.set i (M.getD j d)).set j (M.getD i d)
def elim (pr : List Rat) (c : Nat) (row : List Rat) : List Rat := if ent row c = 0 then row else row.zipWith (fun x y => x - ent row c * y) pr
def elimAll (M : List (List Rat)) (r c k : Nat) : List (List Rat) := M.mapIdx fun o row => if o < k ∧ o ≠ r then elim (M.getD r []) c row else row
def pivotRow (M : List (List Rat)) (r c : Nat) : List Rat := (M.getD r []).map (· / ent (M.getD r []) c)
def stepM (st : List (List Rat) × List Nat) (c : Nat) : List (List Rat) × List Nat :=
  match spots st.1 st.2.length c with
  | [] => st
  | p :: _ =>
    let M1 := swapL st.1 [] st.2.length p
    let M2 := M1.set st.2.length (pivotRow M1 st.2.length c)
    (elimAll M2 st.2.length c M2.length, st.2 ++ [c])
def ech (M : List (List Rat)) (cols : Nat) : List (List Rat) × List Nat := (List.range cols).foldl stepM (M, [])
def bd : Nat → Nat
  | 0 => 6
  | k + 1 => 4 * bd k + 1
end Mine
-- part: Defs2
namespace Mine
/-! whole numbers -/
def entI (M : List (List Int)) (r c : Nat) : Int := (M.getD r []).getD c 0
def pivP (M : List (List Int)) (step : Nat) : Option Nat := (List.range' step (M.length - step)).find? fun p => decide (entI M p step ≠ 0)
end Mine
namespace Mine
/-- a row of a step: the columns behind the step's, up to j of them -/
def bRow (lead first ahead : Int) (prow row : List Int) (step j : Nat) : List Int := row.mapIdx fun c x => if step < c ∧ c < step + 1 + j then (x * lead - first * prow.getD c 0).fdiv ahead else x
/-- the rows behind the step's, up to i of them -/
def bRows (M : List (List Int)) (step : Nat) (ahead : Int) (i : Nat) : List (List Int) := M.mapIdx fun r row => if step < r ∧ r < step + 1 + i then (bRow (entI M step step) (row.getD step 0) ahead (M.getD step []) row step (M.length - (step + 1))).set step 0 else row
def bstep (M : List (List Int)) (step : Nat) (ahead : Int) : List (List Int) := bRows M step ahead (M.length - (step + 1))
end Mine
namespace Mine
abbrev DSt := List (List Int) × Int × Int
def detStep (st : Option DSt) (step : Nat) : Option DSt :=
  match st with
  | none => none
  | some (F, sg, ah) =>
    match pivP F step with
    | none => none
    | some p => some (bstep (if p = step then F else swapL F [] p step) step ah, if p = step then sg else -sg, entI (bstep (if p = step then F else swapL F [] p step) step ah) step step)
def detP (M : List (List Int)) : Int :=
  match (List.range M.length).foldl detStep (some (M, 1, 1)) with
  | none => 0
  | some (_, sg, ah) => sg * ah
end Mine
-- part: PuD
namespace Mine
/-! what the law computes, in plain Lean -/
def unitRow (n r : Nat) : List Rat := (List.range n).map fun c => if r = c then 1 else 0
def unitMat (n : Nat) : List (List Rat) := (List.range n).map (unitRow n)
def wideM (M : List (List Rat)) : List (List Rat) := M.mapIdx fun i row => row ++ unitRow M.length i
/-- the program's inverse -/
def invP (M : List (List Rat)) : Option (List (List Rat)) :=
  if (ech (wideM M) (2 * M.length)).2.take M.length = List.range M.length then some ((ech (wideM M) (2 * M.length)).1.map (·.drop M.length)) else none
def tblP : List Int := [0, 0, 4, 3, 1, 4, 2, 3, 2, 0]
def drawP (ce : List Int) (spot : Nat) (many : Int) : Int := (if spot < ce.length then ((ce.getD spot 0).natAbs : Int) else tblP.getD (spot % 10) 0) % many
def sumsP (x : Int) (ys : List Int) : Int := ys.foldl (fun f o => f * (x + o)) 1
def apartP (xs : List Int) (at_ : Nat) : Int := (List.range xs.length).foldl (fun f spot => if spot = at_ then f else f * (xs.getD at_ 0 - xs.getD spot 0)) 1
def spreadP (xs : List Int) : Int := (List.range xs.length).foldl (fun f at_ => (xs.take at_).foldl (fun g e => g * (xs.getD at_ 0 - e)) f) 1
def permN : Nat → List (List Int) → Int
  | 0, _ => 1
  | _ + 1, [] => 1
  | k + 1, r :: rs => (List.range r.length).foldl (fun f at_ => f + r.getD at_ 0 * permN k (rs.map (·.eraseIdx at_))) 0
def nP (d : Int) : Nat := ([3, 2, 4] : List Nat).getD d.toNat 0
def lawN (ce : List Int) : Nat := nP (drawP ce 1 3)
def lawX (ce : List Int) : List Int := if drawP ce 0 2 = 1 then (List.range (lawN ce)).map fun (i : Nat) => 2 * drawP ce (2 + i) 6 - 4 else (List.range (lawN ce)).map fun (i : Nat) => drawP ce 2 4 + (i : Int)
def lawY (ce : List Int) : List Int := if drawP ce 0 2 = 1 then (List.range (lawN ce)).map fun (i : Nat) => 2 * drawP ce (2 + lawN ce + i) 6 - 5 else (List.range (lawN ce)).map fun (i : Nat) => 1 + drawP ce 3 3 + (i : Int)
def tableP (ce : List Int) : List (List Rat) := (lawX ce).map fun one => (lawY ce).map fun other => Rat.divInt 1 (one + other)
end Mine
-- part: PuA
namespace Mine
/-! small determinants and permanents, written out -/
def d3 (a b c d e f g h i : Int) : Int := a*(e*i-f*h) - b*(d*i-f*g) + c*(d*h-e*g)
def q1 (a : Int) : Int := 0 + a * 1
def q2 (a b c d : Int) : Int := (0 + a * q1 d) + b * q1 c
def p3 (a b c d e f g h i : Int) : Int := ((0 + a * q2 e f h i) + b * q2 d f g i) + c * q2 d e g h
def R3 (a b c d e f g h i : Int) : Int := 2*(a*e*i*(b*f*g) + a*e*i*(c*d*h) + b*f*g*(c*d*h) - a*f*h*(b*d*i) - a*f*h*(c*e*g) - b*d*i*(c*e*g))
def d4 (a b c d e f g h i j k l m n o p : Int) : Int := a * d3 f g h j k l n o p - b * d3 e g h i k l m o p + c * d3 e f h i j l m n p - d * d3 e f g i j k m n o
def p4 (a b c d e f g h i j k l m n o p : Int) : Int := (((0 + a * p3 f g h j k l n o p) + b * p3 e g h i k l m o p) + c * p3 e f h i j l m n p) + d * p3 e f g i j k m n o
theorem r3 (a b c d e f g h i : Int) : d3 a b c d e f g h i * p3 a b c d e f g h i = d3 (a*a) (b*b) (c*c) (d*d) (e*e) (f*f) (g*g) (h*h) (i*i) + R3 a b c d e f g h i := by
  simp only [d3, p3, q2, q1, R3]; grind
theorem r3w (a b c d e f g h i : Int) : R3 (b*c) (a*c) (a*b) (e*f) (d*f) (d*e) (h*i) (g*i) (g*h) = 2*(a*b*c*d*e*f*g*h*i)*d3 a b c d e f g h i := by
  simp only [d3, R3]; grind
theorem d3s (x1 x2 x3 y1 y2 y3 : Int) : d3 (x1+y1) (x1+y2) (x1+y3) (x2+y1) (x2+y2) (x2+y3) (x3+y1) (x3+y2) (x3+y3) = 0 := by simp only [d3]; grind
theorem r3q (q r t a b c d e f g h i : Int) : R3 (q*a) (q*b) (q*c) (r*d) (r*e) (r*f) (t*g) (t*h) (t*i) = q*q*(r*r)*(t*t)*R3 a b c d e f g h i := by
  simp only [R3]; grind
/-- no rest where the columns are those of sums -/
theorem r3z (q1 q2 q3 x1 x2 x3 y1 y2 y3 : Int) : R3 (q1*((x1+y2)*(x1+y3))) (q1*((x1+y1)*(x1+y3))) (q1*((x1+y1)*(x1+y2))) (q2*((x2+y2)*(x2+y3))) (q2*((x2+y1)*(x2+y3))) (q2*((x2+y1)*(x2+y2))) (q3*((x3+y2)*(x3+y3))) (q3*((x3+y1)*(x3+y3))) (q3*((x3+y1)*(x3+y2))) = 0 := by
  rw [r3q, r3w, d3s, Int.mul_zero, Int.mul_zero]
theorem g4 (a b c d e f g h i j k l m n o p : Int) : d4 a b c d e f g h i j k l m n o p * p4 a b c d e f g h i j k l m n o p =
   d4 (a*a) (b*b) (c*c) (d*d) (e*e) (f*f) (g*g) (h*h) (i*i) (j*j) (k*k) (l*l) (m*m) (n*n) (o*o) (p*p)
   + a*a*R3 f g h j k l n o p - b*b*R3 e g h i k l m o p + c*c*R3 e f h i j l m n p - d*d*R3 e f g i j k m n o
   - e*e*R3 b c d j k l n o p + f*f*R3 a c d i k l m o p - g*g*R3 a b d i j l m n p + h*h*R3 a b c i j k m n o
   + i*i*R3 b c d f g h n o p - j*j*R3 a c d e g h m o p + k*k*R3 a b d e f h m n p - l*l*R3 a b c e f g m n o
   - m*m*R3 b c d f g h j k l + n*n*R3 a c d e g h i k l - o*o*R3 a b d e f h i j l + p*p*R3 a b c e f g i j k := by
  simp only [d3, p3, q2, q1, R3, d4, p4]; grind
/-- the product of three sums -/
def W3p (x a b c : Int) : Int := (x + a) * (x + b) * (x + c)
theorem r3a (x1 x2 x3 q a b c : Int) : R3 (W3p x1 q b c) (W3p x1 q a c) (W3p x1 q a b) (W3p x2 q b c) (W3p x2 q a c) (W3p x2 q a b) (W3p x3 q b c) (W3p x3 q a c) (W3p x3 q a b) = 0 := by
  have h := r3z (x1+q) (x2+q) (x3+q) x1 x2 x3 a b c
  simpa only [W3p, ← Int.mul_assoc] using h
theorem w3s (x a b c : Int) : W3p x a b c = W3p x b a c := by simp only [W3p]; grind
theorem w3r (x a b c : Int) : W3p x a b c = W3p x c a b := by simp only [W3p]; grind
theorem r3b (x1 x2 x3 q a b c : Int) : R3 (W3p x1 q b c) (W3p x1 a q c) (W3p x1 a q b) (W3p x2 q b c) (W3p x2 a q c) (W3p x2 a q b) (W3p x3 q b c) (W3p x3 a q c) (W3p x3 a q b) = 0 := by
  have h := r3a x1 x2 x3 q a b c
  simp only [w3s _ q a] at h
  exact h
theorem r3c (x1 x2 x3 q a b c : Int) : R3 (W3p x1 b q c) (W3p x1 a q c) (W3p x1 a b q) (W3p x2 b q c) (W3p x2 a q c) (W3p x2 a b q) (W3p x3 b q c) (W3p x3 a q c) (W3p x3 a b q) = 0 := by
  have h := r3a x1 x2 x3 q a b c
  rw [w3s x1 q b c, w3s x2 q b c, w3s x3 q b c, w3s x1 q a c, w3s x2 q a c, w3s x3 q a c, ← w3r x1 a b q, ← w3r x2 a b q, ← w3r x3 a b q] at h
  exact h
theorem r3d (x1 x2 x3 q a b c : Int) : R3 (W3p x1 b c q) (W3p x1 a c q) (W3p x1 a b q) (W3p x2 b c q) (W3p x2 a c q) (W3p x2 a b q) (W3p x3 b c q) (W3p x3 a c q) (W3p x3 a b q) = 0 := by
  have h := r3a x1 x2 x3 q a b c
  rw [← w3r x1 b c q, ← w3r x2 b c q, ← w3r x3 b c q, ← w3r x1 a c q, ← w3r x2 a c q, ← w3r x3 a c q, ← w3r x1 a b q, ← w3r x2 a b q, ← w3r x3 a b q] at h
  exact h
/-- Borchardt, four by four -/
theorem bor4 (x1 x2 x3 x4 y1 y2 y3 y4 : Int) :
    d4 (W3p x1 y2 y3 y4 * W3p x1 y2 y3 y4) (W3p x1 y1 y3 y4 * W3p x1 y1 y3 y4) (W3p x1 y1 y2 y4 * W3p x1 y1 y2 y4) (W3p x1 y1 y2 y3 * W3p x1 y1 y2 y3)
       (W3p x2 y2 y3 y4 * W3p x2 y2 y3 y4) (W3p x2 y1 y3 y4 * W3p x2 y1 y3 y4) (W3p x2 y1 y2 y4 * W3p x2 y1 y2 y4) (W3p x2 y1 y2 y3 * W3p x2 y1 y2 y3)
       (W3p x3 y2 y3 y4 * W3p x3 y2 y3 y4) (W3p x3 y1 y3 y4 * W3p x3 y1 y3 y4) (W3p x3 y1 y2 y4 * W3p x3 y1 y2 y4) (W3p x3 y1 y2 y3 * W3p x3 y1 y2 y3)
       (W3p x4 y2 y3 y4 * W3p x4 y2 y3 y4) (W3p x4 y1 y3 y4 * W3p x4 y1 y3 y4) (W3p x4 y1 y2 y4 * W3p x4 y1 y2 y4) (W3p x4 y1 y2 y3 * W3p x4 y1 y2 y3)
    = d4 (W3p x1 y2 y3 y4) (W3p x1 y1 y3 y4) (W3p x1 y1 y2 y4) (W3p x1 y1 y2 y3) (W3p x2 y2 y3 y4) (W3p x2 y1 y3 y4) (W3p x2 y1 y2 y4) (W3p x2 y1 y2 y3)
         (W3p x3 y2 y3 y4) (W3p x3 y1 y3 y4) (W3p x3 y1 y2 y4) (W3p x3 y1 y2 y3) (W3p x4 y2 y3 y4) (W3p x4 y1 y3 y4) (W3p x4 y1 y2 y4) (W3p x4 y1 y2 y3)
      * p4 (W3p x1 y2 y3 y4) (W3p x1 y1 y3 y4) (W3p x1 y1 y2 y4) (W3p x1 y1 y2 y3) (W3p x2 y2 y3 y4) (W3p x2 y1 y3 y4) (W3p x2 y1 y2 y4) (W3p x2 y1 y2 y3)
         (W3p x3 y2 y3 y4) (W3p x3 y1 y3 y4) (W3p x3 y1 y2 y4) (W3p x3 y1 y2 y3) (W3p x4 y2 y3 y4) (W3p x4 y1 y3 y4) (W3p x4 y1 y2 y4) (W3p x4 y1 y2 y3) := by
  rw [g4]
  simp only [r3a _ _ _ y1 y2 y3 y4, r3b _ _ _ y2 y1 y3 y4, r3c _ _ _ y3 y1 y2 y4, r3d _ _ _ y4 y1 y2 y3, Int.mul_zero, Int.add_zero, Int.sub_zero]
/-- Borchardt, three by three -/
theorem bor3 (x1 x2 x3 y1 y2 y3 : Int) :
    d3 (((x1+y2)*(x1+y3))*((x1+y2)*(x1+y3))) (((x1+y1)*(x1+y3))*((x1+y1)*(x1+y3))) (((x1+y1)*(x1+y2))*((x1+y1)*(x1+y2)))
       (((x2+y2)*(x2+y3))*((x2+y2)*(x2+y3))) (((x2+y1)*(x2+y3))*((x2+y1)*(x2+y3))) (((x2+y1)*(x2+y2))*((x2+y1)*(x2+y2)))
       (((x3+y2)*(x3+y3))*((x3+y2)*(x3+y3))) (((x3+y1)*(x3+y3))*((x3+y1)*(x3+y3))) (((x3+y1)*(x3+y2))*((x3+y1)*(x3+y2)))
    = d3 ((x1+y2)*(x1+y3)) ((x1+y1)*(x1+y3)) ((x1+y1)*(x1+y2)) ((x2+y2)*(x2+y3)) ((x2+y1)*(x2+y3)) ((x2+y1)*(x2+y2)) ((x3+y2)*(x3+y3)) ((x3+y1)*(x3+y3)) ((x3+y1)*(x3+y2))
      * p3 ((x1+y2)*(x1+y3)) ((x1+y1)*(x1+y3)) ((x1+y1)*(x1+y2)) ((x2+y2)*(x2+y3)) ((x2+y1)*(x2+y3)) ((x2+y1)*(x2+y2)) ((x3+y2)*(x3+y3)) ((x3+y1)*(x3+y3)) ((x3+y1)*(x3+y2)) := by
  rw [r3, r3w, d3s, Int.mul_zero, Int.add_zero]
/-- Cauchy -/
theorem cau3 (x1 x2 x3 y1 y2 y3 : Int) :
    d3 ((x1+y2)*(x1+y3)) ((x1+y1)*(x1+y3)) ((x1+y1)*(x1+y2)) ((x2+y2)*(x2+y3)) ((x2+y1)*(x2+y3)) ((x2+y1)*(x2+y2)) ((x3+y2)*(x3+y3)) ((x3+y1)*(x3+y3)) ((x3+y1)*(x3+y2))
    = ((x2-x1)*(x3-x1)*(x3-x2)) * ((y2-y1)*(y3-y1)*(y3-y2)) := by
  simp only [d3]; grind
theorem c4a (k a b c d e f g h i j l m n o p q : Int) : d4 (k*a+b) b c d (k*e+f) f g h (k*i+j) j l m (k*n+o) o p q = k * d4 a b c d e f g h i j l m n o p q := by
  simp only [d4, d3]; grind
theorem c4b (k a b c d e f g h i j l m n o p q : Int) : d4 a (k*b+c) c d e (k*f+g) g h i (k*j+l) l m n (k*o+p) p q = k * d4 a b c d e f g h i j l m n o p q := by
  simp only [d4, d3]; grind
theorem c4c (k a b c d e f g h i j l m n o p q : Int) : d4 a b (k*c+d) d e f (k*g+h) h i j (k*l+m) m n o (k*p+q) q = k * d4 a b c d e f g h i j l m n o p q := by
  simp only [d4, d3]; grind
theorem van4 (x1 x2 x3 x4 y1 y2 y3 : Int) : d4 1 (x1+y1) ((x1+y1)*(x1+y2)) ((x1+y1)*(x1+y2)*(x1+y3)) 1 (x2+y1) ((x2+y1)*(x2+y2)) ((x2+y1)*(x2+y2)*(x2+y3)) 1 (x3+y1) ((x3+y1)*(x3+y2)) ((x3+y1)*(x3+y2)*(x3+y3)) 1 (x4+y1) ((x4+y1)*(x4+y2)) ((x4+y1)*(x4+y2)*(x4+y3))
    = (x2-x1)*(x3-x1)*(x3-x2)*(x4-x1)*(x4-x2)*(x4-x3) := by
  simp only [d4, d3]; grind
theorem cau4 (x1 x2 x3 x4 y1 y2 y3 y4 : Int) :
    d4 (W3p x1 y2 y3 y4) (W3p x1 y1 y3 y4) (W3p x1 y1 y2 y4) (W3p x1 y1 y2 y3) (W3p x2 y2 y3 y4) (W3p x2 y1 y3 y4) (W3p x2 y1 y2 y4) (W3p x2 y1 y2 y3)
       (W3p x3 y2 y3 y4) (W3p x3 y1 y3 y4) (W3p x3 y1 y2 y4) (W3p x3 y1 y2 y3) (W3p x4 y2 y3 y4) (W3p x4 y1 y3 y4) (W3p x4 y1 y2 y4) (W3p x4 y1 y2 y3)
    = ((x2-x1)*(x3-x1)*(x3-x2)*(x4-x1)*(x4-x2)*(x4-x3)) * ((y2-y1)*(y3-y1)*(y3-y2)*(y4-y1)*(y4-y2)*(y4-y3)) := by
  have e1 : ∀ x, W3p x y2 y3 y4 = (y2-y1) * ((x+y3)*(x+y4)) + W3p x y1 y3 y4 := fun x => by simp only [W3p]; grind
  have e2 : ∀ x, W3p x y1 y3 y4 = (y3-y2) * ((x+y1)*(x+y4)) + W3p x y1 y2 y4 := fun x => by simp only [W3p]; grind
  have e3 : ∀ x, W3p x y1 y2 y4 = (y4-y3) * ((x+y1)*(x+y2)) + W3p x y1 y2 y3 := fun x => by simp only [W3p]; grind
  have f1 : ∀ x, (x+y3)*(x+y4) = (y3-y1) * (x+y4) + (x+y1)*(x+y4) := fun x => by grind
  have f2 : ∀ x, (x+y1)*(x+y4) = (y4-y2) * (x+y1) + (x+y1)*(x+y2) := fun x => by grind
  have g1 : ∀ x, x+y4 = (y4-y1) * 1 + (x+y1) := fun x => by grind
  rw [e1 x1, e1 x2, e1 x3, e1 x4, c4a, e2 x1, e2 x2, e2 x3, e2 x4, c4b, e3 x1, e3 x2, e3 x3, e3 x4, c4c, f1 x1, f1 x2, f1 x3, f1 x4, c4a, f2 x1, f2 x2, f2 x3, f2 x4, c4b, g1 x1, g1 x2, g1 x3, g1 x4, c4a]
  simp only [W3p]
  rw [van4]
  ac_rfl
end Mine
-- part: PuB
namespace Mine
/-! Bareiss: the last number is the determinant -/
def m2 (a : Nat → Nat → Int) (r c : Nat) : Int := a 0 0 * a r c - a r 0 * a 0 c
def m3 (a : Nat → Nat → Int) (r c : Nat) : Int := d3 (a 0 0) (a 0 1) (a 0 c) (a 1 0) (a 1 1) (a 1 c) (a r 0) (a r 1) (a r c)
def m4 (a : Nat → Nat → Int) (r c : Nat) : Int := d4 (a 0 0) (a 0 1) (a 0 2) (a 0 c) (a 1 0) (a 1 1) (a 1 2) (a 1 c) (a 2 0) (a 2 1) (a 2 2) (a 2 c) (a r 0) (a r 1) (a r 2) (a r c)
/-- the bordered minors -/
def mk (a : Nat → Nat → Int) : Nat → Nat → Nat → Int
  | 0, _, _ => 1
  | 1, r, c => a r c
  | 2, r, c => m2 a r c
  | 3, r, c => m3 a r c
  | _ + 4, r, c => m4 a r c
/-- the leading ones -/
def ld (a : Nat → Nat → Int) (k : Nat) : Int := mk a k (k - 1) (k - 1)
theorem syl (a : Nat → Nat → Int) {k : Nat} (hk : k < 3) (r c : Nat) : mk a (k + 1) r c * mk a (k + 1) k k - mk a (k + 1) r k * mk a (k + 1) k c = ld a k * mk a (k + 2) r c := by
  match k, hk with
  | 0, _ => simp only [ld, mk, m2]; grind
  | 1, _ => simp only [ld, mk, m2, m3, d3]; grind
  | 2, _ => simp only [ld, mk, m2, m3, m4, d3, d4]; grind
def sw (k p i : Nat) : Nat := if i = p then k else if i = k then p else i
def swA (k p : Nat) (a : Nat → Nat → Int) : Nat → Nat → Int := fun r c => a (sw k p r) c
theorem sw_lt {k p i : Nat} (hk : k ≤ p) (h : i < k) : sw k p i = i := by
  unfold sw; rw [if_neg (by lia), if_neg (by lia)]
theorem mk_sw {a : Nat → Nat → Int} {k p r c : Nat} (hp : k ≤ p) (hk : k < 4) : mk (swA k p a) (k + 1) r c = mk a (k + 1) (sw k p r) c := by
  match k, hk with
  | 0, _ => rfl
  | 1, _ => simp only [mk, m2, swA, sw_lt hp (show 0 < 1 by decide)]
  | 2, _ => simp only [mk, m3, swA, sw_lt hp (show 0 < 2 by decide), sw_lt hp (show 1 < 2 by decide)]
  | 3, _ => simp only [mk, m4, swA, sw_lt hp (show 0 < 3 by decide), sw_lt hp (show 1 < 3 by decide), sw_lt hp (show 2 < 3 by decide)]
theorem ld_swlow {a : Nat → Nat → Int} {k p : Nat} (hp : k ≤ p) (hk : k < 4) : ld (swA k p a) k = ld a k := by
  match k, hk with
  | 0, _ => rfl
  | 1, _ => simp only [ld, mk, swA, sw_lt hp (show 0 < 1 by decide)]
  | 2, _ => simp only [ld, mk, m2, swA, sw_lt hp (show 0 < 2 by decide), sw_lt hp (show 1 < 2 by decide)]
  | 3, _ => simp only [ld, mk, m3, swA, sw_lt hp (show 0 < 3 by decide), sw_lt hp (show 1 < 3 by decide), sw_lt hp (show 2 < 3 by decide)]
theorem ld_sw {a : Nat → Nat → Int} {n k p : Nat} (hn : n ≤ 4) (hp : k < p) (hpn : p < n) : ld (swA k p a) n = - ld a n := by
  have : (n = 2 ∨ n = 3 ∨ n = 4) ∧ (k = 0 ∨ k = 1 ∨ k = 2) ∧ (p = 1 ∨ p = 2 ∨ p = 3) := by lia
  obtain ⟨rfl | rfl | rfl, rfl | rfl | rfl, rfl | rfl | rfl⟩ := this <;> (try lia) <;> simp [ld, mk, m2, m3, m4, d3, d4, swA, sw] <;> grind
/-- no pivot: no determinant -/
theorem ld_zero {a : Nat → Nat → Int} {n k : Nat} (hn : n ≤ 4) (hn2 : 2 ≤ n) (hk : k < n) (h0 : ld a k ≠ 0) (h : ∀ r, k ≤ r → r < n → mk a (k + 1) r k = 0) : ld a n = 0 := by
  have : (n = 2 ∨ n = 3 ∨ n = 4) ∧ (k = 0 ∨ k = 1 ∨ k = 2 ∨ k = 3) := by lia
  obtain ⟨rfl | rfl | rfl, rfl | rfl | rfl | rfl⟩ := this <;> (try lia)
  · have e0 := h 0 (by decide) (by decide)
    have e1 := h 1 (by decide) (by decide)
    simp only [mk] at e0 e1
    simp [ld, mk, m2, e0, e1]
  · exact h 1 (by decide) (by decide)
  · have e0 := h 0 (by decide) (by decide)
    have e1 := h 1 (by decide) (by decide)
    have e2 := h 2 (by decide) (by decide)
    simp only [mk] at e0 e1 e2
    simp [ld, mk, m3, d3, e0, e1, e2]
  · have e := syl a (k := 1) (by decide) 2 2
    rw [h 1 (by decide) (by decide), h 2 (by decide) (by decide), Int.mul_zero, Int.zero_mul, Int.sub_zero] at e
    exact (Int.mul_eq_zero.mp e.symm).resolve_left h0
  · exact h 2 (by decide) (by decide)
  · have e0 := h 0 (by decide) (by decide)
    have e1 := h 1 (by decide) (by decide)
    have e2 := h 2 (by decide) (by decide)
    have e3 := h 3 (by decide) (by decide)
    simp only [mk] at e0 e1 e2 e3
    simp [ld, mk, m4, d4, d3, e0, e1, e2, e3]
  · have e1 := h 1 (by decide) (by decide)
    have e2 := h 2 (by decide) (by decide)
    have e3 := h 3 (by decide) (by decide)
    have e : ld a 1 * ld a 4 = mk a 2 1 1 * d3 (a 0 0) (a 0 2) (a 0 3) (a 2 0) (a 2 2) (a 2 3) (a 3 0) (a 3 2) (a 3 3) - mk a 2 2 1 * d3 (a 0 0) (a 0 2) (a 0 3) (a 1 0) (a 1 2) (a 1 3) (a 3 0) (a 3 2) (a 3 3) + mk a 2 3 1 * d3 (a 0 0) (a 0 2) (a 0 3) (a 1 0) (a 1 2) (a 1 3) (a 2 0) (a 2 2) (a 2 3) := by
      simp only [ld, mk, m2, m4, d3, d4]; grind
    rw [e1, e2, e3] at e
    simp only [Int.zero_mul, Int.sub_zero, Int.add_zero] at e
    exact (Int.mul_eq_zero.mp e).resolve_left h0
  · have e := syl a (k := 2) (by decide) 3 3
    rw [h 2 (by decide) (by decide), h 3 (by decide) (by decide), Int.mul_zero, Int.zero_mul, Int.sub_zero] at e
    exact (Int.mul_eq_zero.mp e.symm).resolve_left h0
  · exact h 3 (by decide) (by decide)
end Mine
-- part: PuE
namespace Mine
/-- the row of products of a number's sums, each without one -/
def wholeRow (n : Nat) (ys : List Int) (x : Int) : List Int := (List.range n).map fun i => sumsP x (ys.take i ++ ys.drop (i + 1))
def wholeP (n : Nat) (xs ys : List Int) : List (List Int) := xs.map (wholeRow n ys)
def sqP (M : List (List Int)) : List (List Int) := M.map (·.map fun x => x * x)
end Mine
namespace Mine
/-- top and bottom of the sum -/
def stepQ (tb : Int × Int) (q : Rat) : Int × Int := (tb.1 * q.den + q.num * tb.2, tb.2 * q.den)
def rowQ (n : Nat) (tb : Int × Int) (row : List Rat) : Int × Int := (List.range n).foldl (fun tb s => stepQ tb (ent row s)) tb
def allQ (n : Nat) (C : List (List Rat)) : Int × Int := (List.range n).foldl (fun tb a => rowQ n tb (C.getD a [])) (0, 1)
abbrev lawW (ce : List Int) : List (List Int) := wholeP (lawN ce) (lawX ce) (lawY ce)
abbrev lawS (ce : List Int) : Int := spreadP (lawX ce) * spreadP (lawY ce)
def upP (xs ys : List Int) (a s : Nat) : Int := sumsP (xs.getD s 0) ys * sumsP (ys.getD a 0) xs
def loP (xs ys : List Int) (a s : Nat) : Int := (xs.getD s 0 + ys.getD a 0) * apartP xs s * apartP ys a
end Mine
-- part: PuI
namespace Mine
/-! written by wip/gencau.py: the inverse of a table of 1 by sums -/
theorem term_h {A C r s P Q V R K h : Rat} (hA : r * A = 1) (hs : s ≠ 0) (hC : C * (s * P * Q) = K) (hK : K = s * (r * h)) (hV : V = Q * R) : (A * C) * (P * V) = h * R := by
  have e0 : s * (C * (P * Q) - r * h) = 0 := by grind
  have e : C * (P * Q) = r * h := by
    rcases Rat.mul_eq_zero.mp e0 with h1 | h1
    · exact absurd h1 hs
    · grind
  subst hV
  have e2 : (A * C) * (P * (Q * R)) = (A * (C * (P * Q))) * R := by grind
  rw [e2, e]
  grind
theorem rlc (a b c : Rat) : a * (b * c) = b * (a * c) := by rw [← Rat.mul_assoc, Rat.mul_comm a b, Rat.mul_assoc]
theorem ne_of_inv {r A : Rat} (h : r * A = 1) : r ≠ 0 := fun e => by rw [e, Rat.zero_mul] at h; exact absurd h (by decide)
theorem cancel_one {S D : Rat} (hD : D ≠ 0) (h : S * D = D) : S = 1 := by
  have e : (S - 1) * D = 0 := by grind
  rcases Rat.mul_eq_zero.mp e with h1 | h1
  · grind
  · exact absurd h1 hD
theorem cancel_zero {S D : Rat} (hD : D ≠ 0) (h : S * D = 0) : S = 0 := (Rat.mul_eq_zero.mp h).resolve_right hD
theorem v2_1 (y1 y2 : Rat) : (((y1-y2))*((1))) = ((y1-y2)) * ((1)) := by grind
theorem v2_2 (y1 y2 : Rat) : (((y1-y2))*((1))) = ((y2-y1)) * (-(1)) := by grind
theorem lag2_0 (x y1 y2 : Rat) : 1 * ((x+y2)) * ((1)) + 1 * ((x+y1)) * (-(1)) = -(1 * (((y1-y2))*((1)))) := by grind
theorem lag2_1 (x y1 y2 : Rat) : y1 * ((x+y2)) * ((1)) + y2 * ((x+y1)) * (-(1)) = -(((-x)) * (((y1-y2))*((1)))) := by grind
theorem pd2 (x a y1 y2 : Rat) : (((x+y2)) * ((y1+a))) * ((1)) + (((x+y1)) * ((y2+a))) * (-(1)) = ((x-a)) * (((y1-y2))*((1))) := by
  have h0 := lag2_0 x y1 y2
  have h1 := lag2_1 x y1 y2
  generalize hU0 : ((x+y2)) * ((1)) = U0
  generalize hU1 : ((x+y1)) * (-(1)) = U1
  have e : (((x+y2)) * ((y1+a))) * ((1)) + (((x+y1)) * ((y2+a))) * (-(1)) = ((y1+a)) * U0 + ((y2+a)) * U1 := by
    rw [← hU0, ← hU1]; simp only [Rat.mul_comm, rlc, Rat.mul_assoc]
  replace h0 : 1 * U0 + 1 * U1 = -(1 * (((y1-y2))*((1)))) := by rw [← h0, ← hU0, ← hU1]; simp only [Rat.mul_comm, rlc, Rat.mul_assoc]
  replace h1 : y1 * U0 + y2 * U1 = -(((-x)) * (((y1-y2))*((1)))) := by rw [← h1, ← hU0, ← hU1]; simp only [Rat.mul_comm, rlc, Rat.mul_assoc]
  rw [e]
  generalize (((y1-y2))*((1))) = V at *
  clear hU0 hU1 e
  grind
theorem po2 (y1 y2 : Rat) : ((1) * ((1)) + (1) * (-(1)) : Rat) = 0 := by grind
theorem diag2 {x a y1 y2 A0 A1 C0 C1 H0 H1 : Rat} (hA0 : (x+y1) * A0 = 1) (hA1 : (x+y2) * A1 = 1) (hC0 : C0 * ((x+y1) * ((x-a)) * ((y1-y2))) = ((x+y1)*(x+y2)) * H0) (hC1 : C1 * ((x+y2) * ((x-a)) * ((y2-y1))) = ((x+y1)*(x+y2)) * H1) (hH0 : H0 = (x+y1) * ((y1+a))) (hH1 : H1 = (x+y2) * ((y2+a))) (hP : ((x-a)) ≠ 0) (hV : (((y1-y2))*((1))) ≠ 0) : A0 * C0 + A1 * C1 = 1 := by
  refine cancel_one (D := ((x-a)) * (((y1-y2))*((1)))) (fun h => (Rat.mul_eq_zero.mp h).elim hP hV) ?_
  have t0 := term_h (h := ((x+y2)) * ((y1+a))) hA0 (ne_of_inv hA0) hC0 (by rw [hH0]; simp only [Rat.mul_comm, rlc, Rat.mul_assoc]) (v2_1 y1 y2)
  have t1 := term_h (h := ((x+y1)) * ((y2+a))) hA1 (ne_of_inv hA1) hC1 (by rw [hH1]; simp only [Rat.mul_comm, rlc, Rat.mul_assoc]) (v2_2 y1 y2)
  rw [Rat.add_mul, t0, t1]
  exact pd2 x a y1 y2
theorem fac2 (u p0 q0 p1 q1 : Rat) : (u * p0) * q0 + (u * p1) * q1 = u * (p0 * q0 + p1 * q1) := by grind
theorem off2 {x a y1 y2 P A0 A1 C0 C1 H0 H1 : Rat} (hA0 : (a+y1) * A0 = 1) (hA1 : (a+y2) * A1 = 1) (hs0 : x+y1 ≠ 0) (hs1 : x+y2 ≠ 0) (hC0 : C0 * ((x+y1) * P * ((y1-y2))) = ((x+y1)*(x+y2)) * H0) (hC1 : C1 * ((x+y2) * P * ((y2-y1))) = ((x+y1)*(x+y2)) * H1) (hH0 : H0 = (x+y1) * ((a+y1) * (1))) (hH1 : H1 = (x+y2) * ((a+y2) * (1))) (hP : P ≠ 0) (hV : (((y1-y2))*((1))) ≠ 0) : A0 * C0 + A1 * C1 = 0 := by
  refine cancel_zero (D := P * (((y1-y2))*((1)))) (fun h => (Rat.mul_eq_zero.mp h).elim hP hV) ?_
  have t0 := term_h (h := ((x+y1)*(x+y2)) * (1)) hA0 hs0 hC0 (by rw [hH0]; simp only [Rat.mul_comm, rlc, Rat.mul_assoc]) (v2_1 y1 y2)
  have t1 := term_h (h := ((x+y1)*(x+y2)) * (1)) hA1 hs1 hC1 (by rw [hH1]; simp only [Rat.mul_comm, rlc, Rat.mul_assoc]) (v2_2 y1 y2)
  rw [Rat.add_mul, t0, t1]
  have h0 := po2 y1 y2
  rw [fac2, h0, Rat.mul_zero]
def ap2 (x : Nat → Rat) : Nat → Rat
  | 0 => (x 0 - x 1)
  | _ => (x 1 - x 0)
def up2 (z : Rat) (y : Nat → Rat) : Rat := (z + y 0)*(z + y 1)
theorem ac2 {x y : Nat → Rat} {A C : Nat → Nat → Rat} (hA : ∀ i j, i < 2 → j < 2 → (x i + y j) * A i j = 1) (hC : ∀ j l, j < 2 → l < 2 → C j l * ((x l + y j) * ap2 x l * ap2 y j) = up2 (x l) y * up2 (y j) x) (hx : ∀ l, l < 2 → ap2 x l ≠ 0) (hV : (((y 0-y 1))*((1))) ≠ 0) :
    ∀ i l, i < 2 → l < 2 → A i 0 * C 0 l + A i 1 * C 1 l = if i = l then 1 else 0 := by
  intro i l hi hl
  have : (i = 0 ∨ i = 1) ∧ (l = 0 ∨ l = 1) := by lia
  obtain ⟨rfl | rfl, rfl | rfl⟩ := this
  · exact (if_pos rfl).symm ▸ diag2 (x := x 0) (a := x 1) (hA 0 0 (by decide) (by decide)) (hA 0 1 (by decide) (by decide)) (hC 0 0 (by decide) (by decide)) (hC 1 0 (by decide) (by decide)) (by simp only [up2]; grind) (by simp only [up2]; grind) (hx 0 (by decide)) hV
  · exact (if_neg (show ¬ ((0 : Nat) = 1) by decide)).symm ▸ off2 (x := x 1) (a := x 0) (P := ap2 x 1) (hA 0 0 (by decide) (by decide)) (hA 0 1 (by decide) (by decide)) (ne_of_inv (hA 1 0 (by decide) (by decide))) (ne_of_inv (hA 1 1 (by decide) (by decide))) (hC 0 1 (by decide) (by decide)) (hC 1 1 (by decide) (by decide)) (by simp only [up2]; grind) (by simp only [up2]; grind) (hx 1 (by decide)) hV
  · exact (if_neg (show ¬ ((1 : Nat) = 0) by decide)).symm ▸ off2 (x := x 0) (a := x 1) (P := ap2 x 0) (hA 1 0 (by decide) (by decide)) (hA 1 1 (by decide) (by decide)) (ne_of_inv (hA 0 0 (by decide) (by decide))) (ne_of_inv (hA 0 1 (by decide) (by decide))) (hC 0 0 (by decide) (by decide)) (hC 1 0 (by decide) (by decide)) (by simp only [up2]; grind) (by simp only [up2]; grind) (hx 0 (by decide)) hV
  · exact (if_pos rfl).symm ▸ diag2 (x := x 1) (a := x 0) (hA 1 0 (by decide) (by decide)) (hA 1 1 (by decide) (by decide)) (hC 0 1 (by decide) (by decide)) (hC 1 1 (by decide) (by decide)) (by simp only [up2]; grind) (by simp only [up2]; grind) (hx 1 (by decide)) hV
theorem v3_1 (y1 y2 y3 : Rat) : (((y1-y2)*(y1-y3))*(((y2-y3)))) = ((y1-y2)*(y1-y3)) * (((y2-y3))) := by grind
theorem v3_2 (y1 y2 y3 : Rat) : (((y1-y2)*(y1-y3))*(((y2-y3)))) = ((y2-y1)*(y2-y3)) * (-((y1-y3))) := by grind
theorem v3_3 (y1 y2 y3 : Rat) : (((y1-y2)*(y1-y3))*(((y2-y3)))) = ((y3-y1)*(y3-y2)) * (((y1-y2))) := by grind
theorem lag3_0 (x y1 y2 y3 : Rat) : 1 * ((x+y2)*(x+y3)) * (((y2-y3))) + 1 * ((x+y1)*(x+y3)) * (-((y1-y3))) + 1 * ((x+y1)*(x+y2)) * (((y1-y2))) = (1 * (((y1-y2)*(y1-y3))*(((y2-y3))))) := by grind
theorem lag3_1 (x y1 y2 y3 : Rat) : y1 * ((x+y2)*(x+y3)) * (((y2-y3))) + y2 * ((x+y1)*(x+y3)) * (-((y1-y3))) + y3 * ((x+y1)*(x+y2)) * (((y1-y2))) = (((-x)) * (((y1-y2)*(y1-y3))*(((y2-y3))))) := by grind
theorem lag3_2 (x y1 y2 y3 : Rat) : y1*y1 * ((x+y2)*(x+y3)) * (((y2-y3))) + y2*y2 * ((x+y1)*(x+y3)) * (-((y1-y3))) + y3*y3 * ((x+y1)*(x+y2)) * (((y1-y2))) = (((-x)*(-x)) * (((y1-y2)*(y1-y3))*(((y2-y3))))) := by grind
theorem pd3 (x a b y1 y2 y3 : Rat) : (((x+y2)*(x+y3)) * ((y1+a)*(y1+b))) * (((y2-y3))) + (((x+y1)*(x+y3)) * ((y2+a)*(y2+b))) * (-((y1-y3))) + (((x+y1)*(x+y2)) * ((y3+a)*(y3+b))) * (((y1-y2))) = ((x-a)*(x-b)) * (((y1-y2)*(y1-y3))*(((y2-y3)))) := by
  have h0 := lag3_0 x y1 y2 y3
  have h1 := lag3_1 x y1 y2 y3
  have h2 := lag3_2 x y1 y2 y3
  generalize hU0 : ((x+y2)*(x+y3)) * (((y2-y3))) = U0
  generalize hU1 : ((x+y1)*(x+y3)) * (-((y1-y3))) = U1
  generalize hU2 : ((x+y1)*(x+y2)) * (((y1-y2))) = U2
  have e : (((x+y2)*(x+y3)) * ((y1+a)*(y1+b))) * (((y2-y3))) + (((x+y1)*(x+y3)) * ((y2+a)*(y2+b))) * (-((y1-y3))) + (((x+y1)*(x+y2)) * ((y3+a)*(y3+b))) * (((y1-y2))) = ((y1+a)*(y1+b)) * U0 + ((y2+a)*(y2+b)) * U1 + ((y3+a)*(y3+b)) * U2 := by
    rw [← hU0, ← hU1, ← hU2]; simp only [Rat.mul_comm, rlc, Rat.mul_assoc]
  replace h0 : 1 * U0 + 1 * U1 + 1 * U2 = (1 * (((y1-y2)*(y1-y3))*(((y2-y3))))) := by rw [← h0, ← hU0, ← hU1, ← hU2]; simp only [Rat.mul_comm, rlc, Rat.mul_assoc]
  replace h1 : y1 * U0 + y2 * U1 + y3 * U2 = (((-x)) * (((y1-y2)*(y1-y3))*(((y2-y3))))) := by rw [← h1, ← hU0, ← hU1, ← hU2]; simp only [Rat.mul_comm, rlc, Rat.mul_assoc]
  replace h2 : y1*y1 * U0 + y2*y2 * U1 + y3*y3 * U2 = (((-x)*(-x)) * (((y1-y2)*(y1-y3))*(((y2-y3))))) := by rw [← h2, ← hU0, ← hU1, ← hU2]; simp only [Rat.mul_comm, rlc, Rat.mul_assoc]
  rw [e]
  generalize (((y1-y2)*(y1-y3))*(((y2-y3)))) = V at *
  clear hU0 hU1 hU2 e
  grind
theorem po3 (b y1 y2 y3 : Rat) : (((y1+b)) * (((y2-y3))) + ((y2+b)) * (-((y1-y3))) + ((y3+b)) * (((y1-y2))) : Rat) = 0 := by grind
theorem diag3 {x a b y1 y2 y3 A0 A1 A2 C0 C1 C2 H0 H1 H2 : Rat} (hA0 : (x+y1) * A0 = 1) (hA1 : (x+y2) * A1 = 1) (hA2 : (x+y3) * A2 = 1) (hC0 : C0 * ((x+y1) * ((x-a)*(x-b)) * ((y1-y2)*(y1-y3))) = ((x+y1)*(x+y2)*(x+y3)) * H0) (hC1 : C1 * ((x+y2) * ((x-a)*(x-b)) * ((y2-y1)*(y2-y3))) = ((x+y1)*(x+y2)*(x+y3)) * H1) (hC2 : C2 * ((x+y3) * ((x-a)*(x-b)) * ((y3-y1)*(y3-y2))) = ((x+y1)*(x+y2)*(x+y3)) * H2) (hH0 : H0 = (x+y1) * ((y1+a)*(y1+b))) (hH1 : H1 = (x+y2) * ((y2+a)*(y2+b))) (hH2 : H2 = (x+y3) * ((y3+a)*(y3+b))) (hP : ((x-a)*(x-b)) ≠ 0) (hV : (((y1-y2)*(y1-y3))*(((y2-y3)))) ≠ 0) : A0 * C0 + A1 * C1 + A2 * C2 = 1 := by
  refine cancel_one (D := ((x-a)*(x-b)) * (((y1-y2)*(y1-y3))*(((y2-y3))))) (fun h => (Rat.mul_eq_zero.mp h).elim hP hV) ?_
  have t0 := term_h (h := ((x+y2)*(x+y3)) * ((y1+a)*(y1+b))) hA0 (ne_of_inv hA0) hC0 (by rw [hH0]; simp only [Rat.mul_comm, rlc, Rat.mul_assoc]) (v3_1 y1 y2 y3)
  have t1 := term_h (h := ((x+y1)*(x+y3)) * ((y2+a)*(y2+b))) hA1 (ne_of_inv hA1) hC1 (by rw [hH1]; simp only [Rat.mul_comm, rlc, Rat.mul_assoc]) (v3_2 y1 y2 y3)
  have t2 := term_h (h := ((x+y1)*(x+y2)) * ((y3+a)*(y3+b))) hA2 (ne_of_inv hA2) hC2 (by rw [hH2]; simp only [Rat.mul_comm, rlc, Rat.mul_assoc]) (v3_3 y1 y2 y3)
  rw [Rat.add_mul, Rat.add_mul, t0, t1, t2]
  exact pd3 x a b y1 y2 y3
theorem fac3 (u p0 q0 p1 q1 p2 q2 : Rat) : (u * p0) * q0 + (u * p1) * q1 + (u * p2) * q2 = u * (p0 * q0 + p1 * q1 + p2 * q2) := by grind
theorem off3 {x a b y1 y2 y3 P A0 A1 A2 C0 C1 C2 H0 H1 H2 : Rat} (hA0 : (a+y1) * A0 = 1) (hA1 : (a+y2) * A1 = 1) (hA2 : (a+y3) * A2 = 1) (hs0 : x+y1 ≠ 0) (hs1 : x+y2 ≠ 0) (hs2 : x+y3 ≠ 0) (hC0 : C0 * ((x+y1) * P * ((y1-y2)*(y1-y3))) = ((x+y1)*(x+y2)*(x+y3)) * H0) (hC1 : C1 * ((x+y2) * P * ((y2-y1)*(y2-y3))) = ((x+y1)*(x+y2)*(x+y3)) * H1) (hC2 : C2 * ((x+y3) * P * ((y3-y1)*(y3-y2))) = ((x+y1)*(x+y2)*(x+y3)) * H2) (hH0 : H0 = (x+y1) * ((a+y1) * ((y1+b)))) (hH1 : H1 = (x+y2) * ((a+y2) * ((y2+b)))) (hH2 : H2 = (x+y3) * ((a+y3) * ((y3+b)))) (hP : P ≠ 0) (hV : (((y1-y2)*(y1-y3))*(((y2-y3)))) ≠ 0) : A0 * C0 + A1 * C1 + A2 * C2 = 0 := by
  refine cancel_zero (D := P * (((y1-y2)*(y1-y3))*(((y2-y3))))) (fun h => (Rat.mul_eq_zero.mp h).elim hP hV) ?_
  have t0 := term_h (h := ((x+y1)*(x+y2)*(x+y3)) * ((y1+b))) hA0 hs0 hC0 (by rw [hH0]; simp only [Rat.mul_comm, rlc, Rat.mul_assoc]) (v3_1 y1 y2 y3)
  have t1 := term_h (h := ((x+y1)*(x+y2)*(x+y3)) * ((y2+b))) hA1 hs1 hC1 (by rw [hH1]; simp only [Rat.mul_comm, rlc, Rat.mul_assoc]) (v3_2 y1 y2 y3)
  have t2 := term_h (h := ((x+y1)*(x+y2)*(x+y3)) * ((y3+b))) hA2 hs2 hC2 (by rw [hH2]; simp only [Rat.mul_comm, rlc, Rat.mul_assoc]) (v3_3 y1 y2 y3)
  rw [Rat.add_mul, Rat.add_mul, t0, t1, t2]
  have h0 := po3 b y1 y2 y3
  rw [fac3, h0, Rat.mul_zero]
def ap3 (x : Nat → Rat) : Nat → Rat
  | 0 => (x 0 - x 1)*(x 0 - x 2)
  | 1 => (x 1 - x 0)*(x 1 - x 2)
  | _ => (x 2 - x 0)*(x 2 - x 1)
def up3 (z : Rat) (y : Nat → Rat) : Rat := (z + y 0)*(z + y 1)*(z + y 2)
theorem ac3 {x y : Nat → Rat} {A C : Nat → Nat → Rat} (hA : ∀ i j, i < 3 → j < 3 → (x i + y j) * A i j = 1) (hC : ∀ j l, j < 3 → l < 3 → C j l * ((x l + y j) * ap3 x l * ap3 y j) = up3 (x l) y * up3 (y j) x) (hx : ∀ l, l < 3 → ap3 x l ≠ 0) (hV : (((y 0-y 1)*(y 0-y 2))*(((y 1-y 2)))) ≠ 0) :
    ∀ i l, i < 3 → l < 3 → A i 0 * C 0 l + A i 1 * C 1 l + A i 2 * C 2 l = if i = l then 1 else 0 := by
  intro i l hi hl
  have : (i = 0 ∨ i = 1 ∨ i = 2) ∧ (l = 0 ∨ l = 1 ∨ l = 2) := by lia
  obtain ⟨rfl | rfl | rfl, rfl | rfl | rfl⟩ := this
  · exact (if_pos rfl).symm ▸ diag3 (x := x 0) (a := x 1) (b := x 2) (hA 0 0 (by decide) (by decide)) (hA 0 1 (by decide) (by decide)) (hA 0 2 (by decide) (by decide)) (hC 0 0 (by decide) (by decide)) (hC 1 0 (by decide) (by decide)) (hC 2 0 (by decide) (by decide)) (by simp only [up3]; grind) (by simp only [up3]; grind) (by simp only [up3]; grind) (hx 0 (by decide)) hV
  · exact (if_neg (show ¬ ((0 : Nat) = 1) by decide)).symm ▸ off3 (x := x 1) (a := x 0) (b := x 2) (P := ap3 x 1) (hA 0 0 (by decide) (by decide)) (hA 0 1 (by decide) (by decide)) (hA 0 2 (by decide) (by decide)) (ne_of_inv (hA 1 0 (by decide) (by decide))) (ne_of_inv (hA 1 1 (by decide) (by decide))) (ne_of_inv (hA 1 2 (by decide) (by decide))) (hC 0 1 (by decide) (by decide)) (hC 1 1 (by decide) (by decide)) (hC 2 1 (by decide) (by decide)) (by simp only [up3]; grind) (by simp only [up3]; grind) (by simp only [up3]; grind) (hx 1 (by decide)) hV
  · exact (if_neg (show ¬ ((0 : Nat) = 2) by decide)).symm ▸ off3 (x := x 2) (a := x 0) (b := x 1) (P := ap3 x 2) (hA 0 0 (by decide) (by decide)) (hA 0 1 (by decide) (by decide)) (hA 0 2 (by decide) (by decide)) (ne_of_inv (hA 2 0 (by decide) (by decide))) (ne_of_inv (hA 2 1 (by decide) (by decide))) (ne_of_inv (hA 2 2 (by decide) (by decide))) (hC 0 2 (by decide) (by decide)) (hC 1 2 (by decide) (by decide)) (hC 2 2 (by decide) (by decide)) (by simp only [up3]; grind) (by simp only [up3]; grind) (by simp only [up3]; grind) (hx 2 (by decide)) hV
  · exact (if_neg (show ¬ ((1 : Nat) = 0) by decide)).symm ▸ off3 (x := x 0) (a := x 1) (b := x 2) (P := ap3 x 0) (hA 1 0 (by decide) (by decide)) (hA 1 1 (by decide) (by decide)) (hA 1 2 (by decide) (by decide)) (ne_of_inv (hA 0 0 (by decide) (by decide))) (ne_of_inv (hA 0 1 (by decide) (by decide))) (ne_of_inv (hA 0 2 (by decide) (by decide))) (hC 0 0 (by decide) (by decide)) (hC 1 0 (by decide) (by decide)) (hC 2 0 (by decide) (by decide)) (by simp only [up3]; grind) (by simp only [up3]; grind) (by simp only [up3]; grind) (hx 0 (by decide)) hV
  · exact (if_pos rfl).symm ▸ diag3 (x := x 1) (a := x 0) (b := x 2) (hA 1 0 (by decide) (by decide)) (hA 1 1 (by decide) (by decide)) (hA 1 2 (by decide) (by decide)) (hC 0 1 (by decide) (by decide)) (hC 1 1 (by decide) (by decide)) (hC 2 1 (by decide) (by decide)) (by simp only [up3]; grind) (by simp only [up3]; grind) (by simp only [up3]; grind) (hx 1 (by decide)) hV
  · exact (if_neg (show ¬ ((1 : Nat) = 2) by decide)).symm ▸ off3 (x := x 2) (a := x 1) (b := x 0) (P := ap3 x 2) (hA 1 0 (by decide) (by decide)) (hA 1 1 (by decide) (by decide)) (hA 1 2 (by decide) (by decide)) (ne_of_inv (hA 2 0 (by decide) (by decide))) (ne_of_inv (hA 2 1 (by decide) (by decide))) (ne_of_inv (hA 2 2 (by decide) (by decide))) (hC 0 2 (by decide) (by decide)) (hC 1 2 (by decide) (by decide)) (hC 2 2 (by decide) (by decide)) (by simp only [up3]; grind) (by simp only [up3]; grind) (by simp only [up3]; grind) (hx 2 (by decide)) hV
  · exact (if_neg (show ¬ ((2 : Nat) = 0) by decide)).symm ▸ off3 (x := x 0) (a := x 2) (b := x 1) (P := ap3 x 0) (hA 2 0 (by decide) (by decide)) (hA 2 1 (by decide) (by decide)) (hA 2 2 (by decide) (by decide)) (ne_of_inv (hA 0 0 (by decide) (by decide))) (ne_of_inv (hA 0 1 (by decide) (by decide))) (ne_of_inv (hA 0 2 (by decide) (by decide))) (hC 0 0 (by decide) (by decide)) (hC 1 0 (by decide) (by decide)) (hC 2 0 (by decide) (by decide)) (by simp only [up3]; grind) (by simp only [up3]; grind) (by simp only [up3]; grind) (hx 0 (by decide)) hV
  · exact (if_neg (show ¬ ((2 : Nat) = 1) by decide)).symm ▸ off3 (x := x 1) (a := x 2) (b := x 0) (P := ap3 x 1) (hA 2 0 (by decide) (by decide)) (hA 2 1 (by decide) (by decide)) (hA 2 2 (by decide) (by decide)) (ne_of_inv (hA 1 0 (by decide) (by decide))) (ne_of_inv (hA 1 1 (by decide) (by decide))) (ne_of_inv (hA 1 2 (by decide) (by decide))) (hC 0 1 (by decide) (by decide)) (hC 1 1 (by decide) (by decide)) (hC 2 1 (by decide) (by decide)) (by simp only [up3]; grind) (by simp only [up3]; grind) (by simp only [up3]; grind) (hx 1 (by decide)) hV
  · exact (if_pos rfl).symm ▸ diag3 (x := x 2) (a := x 0) (b := x 1) (hA 2 0 (by decide) (by decide)) (hA 2 1 (by decide) (by decide)) (hA 2 2 (by decide) (by decide)) (hC 0 2 (by decide) (by decide)) (hC 1 2 (by decide) (by decide)) (hC 2 2 (by decide) (by decide)) (by simp only [up3]; grind) (by simp only [up3]; grind) (by simp only [up3]; grind) (hx 2 (by decide)) hV
theorem v4_1 (y1 y2 y3 y4 : Rat) : (((y1-y2)*(y1-y3)*(y1-y4))*(((y2-y3)*(y2-y4)*(y3-y4)))) = ((y1-y2)*(y1-y3)*(y1-y4)) * (((y2-y3)*(y2-y4)*(y3-y4))) := by grind
theorem v4_2 (y1 y2 y3 y4 : Rat) : (((y1-y2)*(y1-y3)*(y1-y4))*(((y2-y3)*(y2-y4)*(y3-y4)))) = ((y2-y1)*(y2-y3)*(y2-y4)) * (-((y1-y3)*(y1-y4)*(y3-y4))) := by grind
theorem v4_3 (y1 y2 y3 y4 : Rat) : (((y1-y2)*(y1-y3)*(y1-y4))*(((y2-y3)*(y2-y4)*(y3-y4)))) = ((y3-y1)*(y3-y2)*(y3-y4)) * (((y1-y2)*(y1-y4)*(y2-y4))) := by grind
theorem v4_4 (y1 y2 y3 y4 : Rat) : (((y1-y2)*(y1-y3)*(y1-y4))*(((y2-y3)*(y2-y4)*(y3-y4)))) = ((y4-y1)*(y4-y2)*(y4-y3)) * (-((y1-y2)*(y1-y3)*(y2-y3))) := by grind
theorem lag4_0 (x y1 y2 y3 y4 : Rat) : 1 * ((x+y2)*(x+y3)*(x+y4)) * (((y2-y3)*(y2-y4)*(y3-y4))) + 1 * ((x+y1)*(x+y3)*(x+y4)) * (-((y1-y3)*(y1-y4)*(y3-y4))) + 1 * ((x+y1)*(x+y2)*(x+y4)) * (((y1-y2)*(y1-y4)*(y2-y4))) + 1 * ((x+y1)*(x+y2)*(x+y3)) * (-((y1-y2)*(y1-y3)*(y2-y3))) = -(1 * (((y1-y2)*(y1-y3)*(y1-y4))*(((y2-y3)*(y2-y4)*(y3-y4))))) := by grind
theorem lag4_1 (x y1 y2 y3 y4 : Rat) : y1 * ((x+y2)*(x+y3)*(x+y4)) * (((y2-y3)*(y2-y4)*(y3-y4))) + y2 * ((x+y1)*(x+y3)*(x+y4)) * (-((y1-y3)*(y1-y4)*(y3-y4))) + y3 * ((x+y1)*(x+y2)*(x+y4)) * (((y1-y2)*(y1-y4)*(y2-y4))) + y4 * ((x+y1)*(x+y2)*(x+y3)) * (-((y1-y2)*(y1-y3)*(y2-y3))) = -(((-x)) * (((y1-y2)*(y1-y3)*(y1-y4))*(((y2-y3)*(y2-y4)*(y3-y4))))) := by grind
theorem lag4_2 (x y1 y2 y3 y4 : Rat) : y1*y1 * ((x+y2)*(x+y3)*(x+y4)) * (((y2-y3)*(y2-y4)*(y3-y4))) + y2*y2 * ((x+y1)*(x+y3)*(x+y4)) * (-((y1-y3)*(y1-y4)*(y3-y4))) + y3*y3 * ((x+y1)*(x+y2)*(x+y4)) * (((y1-y2)*(y1-y4)*(y2-y4))) + y4*y4 * ((x+y1)*(x+y2)*(x+y3)) * (-((y1-y2)*(y1-y3)*(y2-y3))) = -(((-x)*(-x)) * (((y1-y2)*(y1-y3)*(y1-y4))*(((y2-y3)*(y2-y4)*(y3-y4))))) := by grind
theorem lag4_3 (x y1 y2 y3 y4 : Rat) : y1*y1*y1 * ((x+y2)*(x+y3)*(x+y4)) * (((y2-y3)*(y2-y4)*(y3-y4))) + y2*y2*y2 * ((x+y1)*(x+y3)*(x+y4)) * (-((y1-y3)*(y1-y4)*(y3-y4))) + y3*y3*y3 * ((x+y1)*(x+y2)*(x+y4)) * (((y1-y2)*(y1-y4)*(y2-y4))) + y4*y4*y4 * ((x+y1)*(x+y2)*(x+y3)) * (-((y1-y2)*(y1-y3)*(y2-y3))) = -(((-x)*(-x)*(-x)) * (((y1-y2)*(y1-y3)*(y1-y4))*(((y2-y3)*(y2-y4)*(y3-y4))))) := by grind
theorem pd4 (x a b c y1 y2 y3 y4 : Rat) : (((x+y2)*(x+y3)*(x+y4)) * ((y1+a)*(y1+b)*(y1+c))) * (((y2-y3)*(y2-y4)*(y3-y4))) + (((x+y1)*(x+y3)*(x+y4)) * ((y2+a)*(y2+b)*(y2+c))) * (-((y1-y3)*(y1-y4)*(y3-y4))) + (((x+y1)*(x+y2)*(x+y4)) * ((y3+a)*(y3+b)*(y3+c))) * (((y1-y2)*(y1-y4)*(y2-y4))) + (((x+y1)*(x+y2)*(x+y3)) * ((y4+a)*(y4+b)*(y4+c))) * (-((y1-y2)*(y1-y3)*(y2-y3))) = ((x-a)*(x-b)*(x-c)) * (((y1-y2)*(y1-y3)*(y1-y4))*(((y2-y3)*(y2-y4)*(y3-y4)))) := by
  have h0 := lag4_0 x y1 y2 y3 y4
  have h1 := lag4_1 x y1 y2 y3 y4
  have h2 := lag4_2 x y1 y2 y3 y4
  have h3 := lag4_3 x y1 y2 y3 y4
  generalize hU0 : ((x+y2)*(x+y3)*(x+y4)) * (((y2-y3)*(y2-y4)*(y3-y4))) = U0
  generalize hU1 : ((x+y1)*(x+y3)*(x+y4)) * (-((y1-y3)*(y1-y4)*(y3-y4))) = U1
  generalize hU2 : ((x+y1)*(x+y2)*(x+y4)) * (((y1-y2)*(y1-y4)*(y2-y4))) = U2
  generalize hU3 : ((x+y1)*(x+y2)*(x+y3)) * (-((y1-y2)*(y1-y3)*(y2-y3))) = U3
  have e : (((x+y2)*(x+y3)*(x+y4)) * ((y1+a)*(y1+b)*(y1+c))) * (((y2-y3)*(y2-y4)*(y3-y4))) + (((x+y1)*(x+y3)*(x+y4)) * ((y2+a)*(y2+b)*(y2+c))) * (-((y1-y3)*(y1-y4)*(y3-y4))) + (((x+y1)*(x+y2)*(x+y4)) * ((y3+a)*(y3+b)*(y3+c))) * (((y1-y2)*(y1-y4)*(y2-y4))) + (((x+y1)*(x+y2)*(x+y3)) * ((y4+a)*(y4+b)*(y4+c))) * (-((y1-y2)*(y1-y3)*(y2-y3))) = ((y1+a)*(y1+b)*(y1+c)) * U0 + ((y2+a)*(y2+b)*(y2+c)) * U1 + ((y3+a)*(y3+b)*(y3+c)) * U2 + ((y4+a)*(y4+b)*(y4+c)) * U3 := by
    rw [← hU0, ← hU1, ← hU2, ← hU3]; simp only [Rat.mul_comm, rlc, Rat.mul_assoc]
  replace h0 : 1 * U0 + 1 * U1 + 1 * U2 + 1 * U3 = -(1 * (((y1-y2)*(y1-y3)*(y1-y4))*(((y2-y3)*(y2-y4)*(y3-y4))))) := by rw [← h0, ← hU0, ← hU1, ← hU2, ← hU3]; simp only [Rat.mul_comm, rlc, Rat.mul_assoc]
  replace h1 : y1 * U0 + y2 * U1 + y3 * U2 + y4 * U3 = -(((-x)) * (((y1-y2)*(y1-y3)*(y1-y4))*(((y2-y3)*(y2-y4)*(y3-y4))))) := by rw [← h1, ← hU0, ← hU1, ← hU2, ← hU3]; simp only [Rat.mul_comm, rlc, Rat.mul_assoc]
  replace h2 : y1*y1 * U0 + y2*y2 * U1 + y3*y3 * U2 + y4*y4 * U3 = -(((-x)*(-x)) * (((y1-y2)*(y1-y3)*(y1-y4))*(((y2-y3)*(y2-y4)*(y3-y4))))) := by rw [← h2, ← hU0, ← hU1, ← hU2, ← hU3]; simp only [Rat.mul_comm, rlc, Rat.mul_assoc]
  replace h3 : y1*y1*y1 * U0 + y2*y2*y2 * U1 + y3*y3*y3 * U2 + y4*y4*y4 * U3 = -(((-x)*(-x)*(-x)) * (((y1-y2)*(y1-y3)*(y1-y4))*(((y2-y3)*(y2-y4)*(y3-y4))))) := by rw [← h3, ← hU0, ← hU1, ← hU2, ← hU3]; simp only [Rat.mul_comm, rlc, Rat.mul_assoc]
  rw [e]
  generalize (((y1-y2)*(y1-y3)*(y1-y4))*(((y2-y3)*(y2-y4)*(y3-y4)))) = V at *
  clear hU0 hU1 hU2 hU3 e
  grind
theorem po4 (b c y1 y2 y3 y4 : Rat) : (((y1+b)*(y1+c)) * (((y2-y3)*(y2-y4)*(y3-y4))) + ((y2+b)*(y2+c)) * (-((y1-y3)*(y1-y4)*(y3-y4))) + ((y3+b)*(y3+c)) * (((y1-y2)*(y1-y4)*(y2-y4))) + ((y4+b)*(y4+c)) * (-((y1-y2)*(y1-y3)*(y2-y3))) : Rat) = 0 := by grind
theorem diag4 {x a b c y1 y2 y3 y4 A0 A1 A2 A3 C0 C1 C2 C3 H0 H1 H2 H3 : Rat} (hA0 : (x+y1) * A0 = 1) (hA1 : (x+y2) * A1 = 1) (hA2 : (x+y3) * A2 = 1) (hA3 : (x+y4) * A3 = 1) (hC0 : C0 * ((x+y1) * ((x-a)*(x-b)*(x-c)) * ((y1-y2)*(y1-y3)*(y1-y4))) = ((x+y1)*(x+y2)*(x+y3)*(x+y4)) * H0) (hC1 : C1 * ((x+y2) * ((x-a)*(x-b)*(x-c)) * ((y2-y1)*(y2-y3)*(y2-y4))) = ((x+y1)*(x+y2)*(x+y3)*(x+y4)) * H1) (hC2 : C2 * ((x+y3) * ((x-a)*(x-b)*(x-c)) * ((y3-y1)*(y3-y2)*(y3-y4))) = ((x+y1)*(x+y2)*(x+y3)*(x+y4)) * H2) (hC3 : C3 * ((x+y4) * ((x-a)*(x-b)*(x-c)) * ((y4-y1)*(y4-y2)*(y4-y3))) = ((x+y1)*(x+y2)*(x+y3)*(x+y4)) * H3) (hH0 : H0 = (x+y1) * ((y1+a)*(y1+b)*(y1+c))) (hH1 : H1 = (x+y2) * ((y2+a)*(y2+b)*(y2+c))) (hH2 : H2 = (x+y3) * ((y3+a)*(y3+b)*(y3+c))) (hH3 : H3 = (x+y4) * ((y4+a)*(y4+b)*(y4+c))) (hP : ((x-a)*(x-b)*(x-c)) ≠ 0) (hV : (((y1-y2)*(y1-y3)*(y1-y4))*(((y2-y3)*(y2-y4)*(y3-y4)))) ≠ 0) : A0 * C0 + A1 * C1 + A2 * C2 + A3 * C3 = 1 := by
  refine cancel_one (D := ((x-a)*(x-b)*(x-c)) * (((y1-y2)*(y1-y3)*(y1-y4))*(((y2-y3)*(y2-y4)*(y3-y4))))) (fun h => (Rat.mul_eq_zero.mp h).elim hP hV) ?_
  have t0 := term_h (h := ((x+y2)*(x+y3)*(x+y4)) * ((y1+a)*(y1+b)*(y1+c))) hA0 (ne_of_inv hA0) hC0 (by rw [hH0]; simp only [Rat.mul_comm, rlc, Rat.mul_assoc]) (v4_1 y1 y2 y3 y4)
  have t1 := term_h (h := ((x+y1)*(x+y3)*(x+y4)) * ((y2+a)*(y2+b)*(y2+c))) hA1 (ne_of_inv hA1) hC1 (by rw [hH1]; simp only [Rat.mul_comm, rlc, Rat.mul_assoc]) (v4_2 y1 y2 y3 y4)
  have t2 := term_h (h := ((x+y1)*(x+y2)*(x+y4)) * ((y3+a)*(y3+b)*(y3+c))) hA2 (ne_of_inv hA2) hC2 (by rw [hH2]; simp only [Rat.mul_comm, rlc, Rat.mul_assoc]) (v4_3 y1 y2 y3 y4)
  have t3 := term_h (h := ((x+y1)*(x+y2)*(x+y3)) * ((y4+a)*(y4+b)*(y4+c))) hA3 (ne_of_inv hA3) hC3 (by rw [hH3]; simp only [Rat.mul_comm, rlc, Rat.mul_assoc]) (v4_4 y1 y2 y3 y4)
  rw [Rat.add_mul, Rat.add_mul, Rat.add_mul, t0, t1, t2, t3]
  exact pd4 x a b c y1 y2 y3 y4
theorem fac4 (u p0 q0 p1 q1 p2 q2 p3 q3 : Rat) : (u * p0) * q0 + (u * p1) * q1 + (u * p2) * q2 + (u * p3) * q3 = u * (p0 * q0 + p1 * q1 + p2 * q2 + p3 * q3) := by grind
theorem off4 {x a b c y1 y2 y3 y4 P A0 A1 A2 A3 C0 C1 C2 C3 H0 H1 H2 H3 : Rat} (hA0 : (a+y1) * A0 = 1) (hA1 : (a+y2) * A1 = 1) (hA2 : (a+y3) * A2 = 1) (hA3 : (a+y4) * A3 = 1) (hs0 : x+y1 ≠ 0) (hs1 : x+y2 ≠ 0) (hs2 : x+y3 ≠ 0) (hs3 : x+y4 ≠ 0) (hC0 : C0 * ((x+y1) * P * ((y1-y2)*(y1-y3)*(y1-y4))) = ((x+y1)*(x+y2)*(x+y3)*(x+y4)) * H0) (hC1 : C1 * ((x+y2) * P * ((y2-y1)*(y2-y3)*(y2-y4))) = ((x+y1)*(x+y2)*(x+y3)*(x+y4)) * H1) (hC2 : C2 * ((x+y3) * P * ((y3-y1)*(y3-y2)*(y3-y4))) = ((x+y1)*(x+y2)*(x+y3)*(x+y4)) * H2) (hC3 : C3 * ((x+y4) * P * ((y4-y1)*(y4-y2)*(y4-y3))) = ((x+y1)*(x+y2)*(x+y3)*(x+y4)) * H3) (hH0 : H0 = (x+y1) * ((a+y1) * ((y1+b)*(y1+c)))) (hH1 : H1 = (x+y2) * ((a+y2) * ((y2+b)*(y2+c)))) (hH2 : H2 = (x+y3) * ((a+y3) * ((y3+b)*(y3+c)))) (hH3 : H3 = (x+y4) * ((a+y4) * ((y4+b)*(y4+c)))) (hP : P ≠ 0) (hV : (((y1-y2)*(y1-y3)*(y1-y4))*(((y2-y3)*(y2-y4)*(y3-y4)))) ≠ 0) : A0 * C0 + A1 * C1 + A2 * C2 + A3 * C3 = 0 := by
  refine cancel_zero (D := P * (((y1-y2)*(y1-y3)*(y1-y4))*(((y2-y3)*(y2-y4)*(y3-y4))))) (fun h => (Rat.mul_eq_zero.mp h).elim hP hV) ?_
  have t0 := term_h (h := ((x+y1)*(x+y2)*(x+y3)*(x+y4)) * ((y1+b)*(y1+c))) hA0 hs0 hC0 (by rw [hH0]; simp only [Rat.mul_comm, rlc, Rat.mul_assoc]) (v4_1 y1 y2 y3 y4)
  have t1 := term_h (h := ((x+y1)*(x+y2)*(x+y3)*(x+y4)) * ((y2+b)*(y2+c))) hA1 hs1 hC1 (by rw [hH1]; simp only [Rat.mul_comm, rlc, Rat.mul_assoc]) (v4_2 y1 y2 y3 y4)
  have t2 := term_h (h := ((x+y1)*(x+y2)*(x+y3)*(x+y4)) * ((y3+b)*(y3+c))) hA2 hs2 hC2 (by rw [hH2]; simp only [Rat.mul_comm, rlc, Rat.mul_assoc]) (v4_3 y1 y2 y3 y4)
  have t3 := term_h (h := ((x+y1)*(x+y2)*(x+y3)*(x+y4)) * ((y4+b)*(y4+c))) hA3 hs3 hC3 (by rw [hH3]; simp only [Rat.mul_comm, rlc, Rat.mul_assoc]) (v4_4 y1 y2 y3 y4)
  rw [Rat.add_mul, Rat.add_mul, Rat.add_mul, t0, t1, t2, t3]
  have h0 := po4 b c y1 y2 y3 y4
  rw [fac4, h0, Rat.mul_zero]
def ap4 (x : Nat → Rat) : Nat → Rat
  | 0 => (x 0 - x 1)*(x 0 - x 2)*(x 0 - x 3)
  | 1 => (x 1 - x 0)*(x 1 - x 2)*(x 1 - x 3)
  | 2 => (x 2 - x 0)*(x 2 - x 1)*(x 2 - x 3)
  | _ => (x 3 - x 0)*(x 3 - x 1)*(x 3 - x 2)
def up4 (z : Rat) (y : Nat → Rat) : Rat := (z + y 0)*(z + y 1)*(z + y 2)*(z + y 3)
theorem ac4 {x y : Nat → Rat} {A C : Nat → Nat → Rat} (hA : ∀ i j, i < 4 → j < 4 → (x i + y j) * A i j = 1) (hC : ∀ j l, j < 4 → l < 4 → C j l * ((x l + y j) * ap4 x l * ap4 y j) = up4 (x l) y * up4 (y j) x) (hx : ∀ l, l < 4 → ap4 x l ≠ 0) (hV : (((y 0-y 1)*(y 0-y 2)*(y 0-y 3))*(((y 1-y 2)*(y 1-y 3)*(y 2-y 3)))) ≠ 0) :
    ∀ i l, i < 4 → l < 4 → A i 0 * C 0 l + A i 1 * C 1 l + A i 2 * C 2 l + A i 3 * C 3 l = if i = l then 1 else 0 := by
  intro i l hi hl
  have : (i = 0 ∨ i = 1 ∨ i = 2 ∨ i = 3) ∧ (l = 0 ∨ l = 1 ∨ l = 2 ∨ l = 3) := by lia
  obtain ⟨rfl | rfl | rfl | rfl, rfl | rfl | rfl | rfl⟩ := this
  · exact (if_pos rfl).symm ▸ diag4 (x := x 0) (a := x 1) (b := x 2) (c := x 3) (hA 0 0 (by decide) (by decide)) (hA 0 1 (by decide) (by decide)) (hA 0 2 (by decide) (by decide)) (hA 0 3 (by decide) (by decide)) (hC 0 0 (by decide) (by decide)) (hC 1 0 (by decide) (by decide)) (hC 2 0 (by decide) (by decide)) (hC 3 0 (by decide) (by decide)) (by simp only [up4]; grind) (by simp only [up4]; grind) (by simp only [up4]; grind) (by simp only [up4]; grind) (hx 0 (by decide)) hV
  · exact (if_neg (show ¬ ((0 : Nat) = 1) by decide)).symm ▸ off4 (x := x 1) (a := x 0) (b := x 2) (c := x 3) (P := ap4 x 1) (hA 0 0 (by decide) (by decide)) (hA 0 1 (by decide) (by decide)) (hA 0 2 (by decide) (by decide)) (hA 0 3 (by decide) (by decide)) (ne_of_inv (hA 1 0 (by decide) (by decide))) (ne_of_inv (hA 1 1 (by decide) (by decide))) (ne_of_inv (hA 1 2 (by decide) (by decide))) (ne_of_inv (hA 1 3 (by decide) (by decide))) (hC 0 1 (by decide) (by decide)) (hC 1 1 (by decide) (by decide)) (hC 2 1 (by decide) (by decide)) (hC 3 1 (by decide) (by decide)) (by simp only [up4]; grind) (by simp only [up4]; grind) (by simp only [up4]; grind) (by simp only [up4]; grind) (hx 1 (by decide)) hV
  · exact (if_neg (show ¬ ((0 : Nat) = 2) by decide)).symm ▸ off4 (x := x 2) (a := x 0) (b := x 1) (c := x 3) (P := ap4 x 2) (hA 0 0 (by decide) (by decide)) (hA 0 1 (by decide) (by decide)) (hA 0 2 (by decide) (by decide)) (hA 0 3 (by decide) (by decide)) (ne_of_inv (hA 2 0 (by decide) (by decide))) (ne_of_inv (hA 2 1 (by decide) (by decide))) (ne_of_inv (hA 2 2 (by decide) (by decide))) (ne_of_inv (hA 2 3 (by decide) (by decide))) (hC 0 2 (by decide) (by decide)) (hC 1 2 (by decide) (by decide)) (hC 2 2 (by decide) (by decide)) (hC 3 2 (by decide) (by decide)) (by simp only [up4]; grind) (by simp only [up4]; grind) (by simp only [up4]; grind) (by simp only [up4]; grind) (hx 2 (by decide)) hV
  · exact (if_neg (show ¬ ((0 : Nat) = 3) by decide)).symm ▸ off4 (x := x 3) (a := x 0) (b := x 1) (c := x 2) (P := ap4 x 3) (hA 0 0 (by decide) (by decide)) (hA 0 1 (by decide) (by decide)) (hA 0 2 (by decide) (by decide)) (hA 0 3 (by decide) (by decide)) (ne_of_inv (hA 3 0 (by decide) (by decide))) (ne_of_inv (hA 3 1 (by decide) (by decide))) (ne_of_inv (hA 3 2 (by decide) (by decide))) (ne_of_inv (hA 3 3 (by decide) (by decide))) (hC 0 3 (by decide) (by decide)) (hC 1 3 (by decide) (by decide)) (hC 2 3 (by decide) (by decide)) (hC 3 3 (by decide) (by decide)) (by simp only [up4]; grind) (by simp only [up4]; grind) (by simp only [up4]; grind) (by simp only [up4]; grind) (hx 3 (by decide)) hV
  · exact (if_neg (show ¬ ((1 : Nat) = 0) by decide)).symm ▸ off4 (x := x 0) (a := x 1) (b := x 2) (c := x 3) (P := ap4 x 0) (hA 1 0 (by decide) (by decide)) (hA 1 1 (by decide) (by decide)) (hA 1 2 (by decide) (by decide)) (hA 1 3 (by decide) (by decide)) (ne_of_inv (hA 0 0 (by decide) (by decide))) (ne_of_inv (hA 0 1 (by decide) (by decide))) (ne_of_inv (hA 0 2 (by decide) (by decide))) (ne_of_inv (hA 0 3 (by decide) (by decide))) (hC 0 0 (by decide) (by decide)) (hC 1 0 (by decide) (by decide)) (hC 2 0 (by decide) (by decide)) (hC 3 0 (by decide) (by decide)) (by simp only [up4]; grind) (by simp only [up4]; grind) (by simp only [up4]; grind) (by simp only [up4]; grind) (hx 0 (by decide)) hV
  · exact (if_pos rfl).symm ▸ diag4 (x := x 1) (a := x 0) (b := x 2) (c := x 3) (hA 1 0 (by decide) (by decide)) (hA 1 1 (by decide) (by decide)) (hA 1 2 (by decide) (by decide)) (hA 1 3 (by decide) (by decide)) (hC 0 1 (by decide) (by decide)) (hC 1 1 (by decide) (by decide)) (hC 2 1 (by decide) (by decide)) (hC 3 1 (by decide) (by decide)) (by simp only [up4]; grind) (by simp only [up4]; grind) (by simp only [up4]; grind) (by simp only [up4]; grind) (hx 1 (by decide)) hV
  · exact (if_neg (show ¬ ((1 : Nat) = 2) by decide)).symm ▸ off4 (x := x 2) (a := x 1) (b := x 0) (c := x 3) (P := ap4 x 2) (hA 1 0 (by decide) (by decide)) (hA 1 1 (by decide) (by decide)) (hA 1 2 (by decide) (by decide)) (hA 1 3 (by decide) (by decide)) (ne_of_inv (hA 2 0 (by decide) (by decide))) (ne_of_inv (hA 2 1 (by decide) (by decide))) (ne_of_inv (hA 2 2 (by decide) (by decide))) (ne_of_inv (hA 2 3 (by decide) (by decide))) (hC 0 2 (by decide) (by decide)) (hC 1 2 (by decide) (by decide)) (hC 2 2 (by decide) (by decide)) (hC 3 2 (by decide) (by decide)) (by simp only [up4]; grind) (by simp only [up4]; grind) (by simp only [up4]; grind) (by simp only [up4]; grind) (hx 2 (by decide)) hV
  · exact (if_neg (show ¬ ((1 : Nat) = 3) by decide)).symm ▸ off4 (x := x 3) (a := x 1) (b := x 0) (c := x 2) (P := ap4 x 3) (hA 1 0 (by decide) (by decide)) (hA 1 1 (by decide) (by decide)) (hA 1 2 (by decide) (by decide)) (hA 1 3 (by decide) (by decide)) (ne_of_inv (hA 3 0 (by decide) (by decide))) (ne_of_inv (hA 3 1 (by decide) (by decide))) (ne_of_inv (hA 3 2 (by decide) (by decide))) (ne_of_inv (hA 3 3 (by decide) (by decide))) (hC 0 3 (by decide) (by decide)) (hC 1 3 (by decide) (by decide)) (hC 2 3 (by decide) (by decide)) (hC 3 3 (by decide) (by decide)) (by simp only [up4]; grind) (by simp only [up4]; grind) (by simp only [up4]; grind) (by simp only [up4]; grind) (hx 3 (by decide)) hV
  · exact (if_neg (show ¬ ((2 : Nat) = 0) by decide)).symm ▸ off4 (x := x 0) (a := x 2) (b := x 1) (c := x 3) (P := ap4 x 0) (hA 2 0 (by decide) (by decide)) (hA 2 1 (by decide) (by decide)) (hA 2 2 (by decide) (by decide)) (hA 2 3 (by decide) (by decide)) (ne_of_inv (hA 0 0 (by decide) (by decide))) (ne_of_inv (hA 0 1 (by decide) (by decide))) (ne_of_inv (hA 0 2 (by decide) (by decide))) (ne_of_inv (hA 0 3 (by decide) (by decide))) (hC 0 0 (by decide) (by decide)) (hC 1 0 (by decide) (by decide)) (hC 2 0 (by decide) (by decide)) (hC 3 0 (by decide) (by decide)) (by simp only [up4]; grind) (by simp only [up4]; grind) (by simp only [up4]; grind) (by simp only [up4]; grind) (hx 0 (by decide)) hV
  · exact (if_neg (show ¬ ((2 : Nat) = 1) by decide)).symm ▸ off4 (x := x 1) (a := x 2) (b := x 0) (c := x 3) (P := ap4 x 1) (hA 2 0 (by decide) (by decide)) (hA 2 1 (by decide) (by decide)) (hA 2 2 (by decide) (by decide)) (hA 2 3 (by decide) (by decide)) (ne_of_inv (hA 1 0 (by decide) (by decide))) (ne_of_inv (hA 1 1 (by decide) (by decide))) (ne_of_inv (hA 1 2 (by decide) (by decide))) (ne_of_inv (hA 1 3 (by decide) (by decide))) (hC 0 1 (by decide) (by decide)) (hC 1 1 (by decide) (by decide)) (hC 2 1 (by decide) (by decide)) (hC 3 1 (by decide) (by decide)) (by simp only [up4]; grind) (by simp only [up4]; grind) (by simp only [up4]; grind) (by simp only [up4]; grind) (hx 1 (by decide)) hV
  · exact (if_pos rfl).symm ▸ diag4 (x := x 2) (a := x 0) (b := x 1) (c := x 3) (hA 2 0 (by decide) (by decide)) (hA 2 1 (by decide) (by decide)) (hA 2 2 (by decide) (by decide)) (hA 2 3 (by decide) (by decide)) (hC 0 2 (by decide) (by decide)) (hC 1 2 (by decide) (by decide)) (hC 2 2 (by decide) (by decide)) (hC 3 2 (by decide) (by decide)) (by simp only [up4]; grind) (by simp only [up4]; grind) (by simp only [up4]; grind) (by simp only [up4]; grind) (hx 2 (by decide)) hV
  · exact (if_neg (show ¬ ((2 : Nat) = 3) by decide)).symm ▸ off4 (x := x 3) (a := x 2) (b := x 0) (c := x 1) (P := ap4 x 3) (hA 2 0 (by decide) (by decide)) (hA 2 1 (by decide) (by decide)) (hA 2 2 (by decide) (by decide)) (hA 2 3 (by decide) (by decide)) (ne_of_inv (hA 3 0 (by decide) (by decide))) (ne_of_inv (hA 3 1 (by decide) (by decide))) (ne_of_inv (hA 3 2 (by decide) (by decide))) (ne_of_inv (hA 3 3 (by decide) (by decide))) (hC 0 3 (by decide) (by decide)) (hC 1 3 (by decide) (by decide)) (hC 2 3 (by decide) (by decide)) (hC 3 3 (by decide) (by decide)) (by simp only [up4]; grind) (by simp only [up4]; grind) (by simp only [up4]; grind) (by simp only [up4]; grind) (hx 3 (by decide)) hV
  · exact (if_neg (show ¬ ((3 : Nat) = 0) by decide)).symm ▸ off4 (x := x 0) (a := x 3) (b := x 1) (c := x 2) (P := ap4 x 0) (hA 3 0 (by decide) (by decide)) (hA 3 1 (by decide) (by decide)) (hA 3 2 (by decide) (by decide)) (hA 3 3 (by decide) (by decide)) (ne_of_inv (hA 0 0 (by decide) (by decide))) (ne_of_inv (hA 0 1 (by decide) (by decide))) (ne_of_inv (hA 0 2 (by decide) (by decide))) (ne_of_inv (hA 0 3 (by decide) (by decide))) (hC 0 0 (by decide) (by decide)) (hC 1 0 (by decide) (by decide)) (hC 2 0 (by decide) (by decide)) (hC 3 0 (by decide) (by decide)) (by simp only [up4]; grind) (by simp only [up4]; grind) (by simp only [up4]; grind) (by simp only [up4]; grind) (hx 0 (by decide)) hV
  · exact (if_neg (show ¬ ((3 : Nat) = 1) by decide)).symm ▸ off4 (x := x 1) (a := x 3) (b := x 0) (c := x 2) (P := ap4 x 1) (hA 3 0 (by decide) (by decide)) (hA 3 1 (by decide) (by decide)) (hA 3 2 (by decide) (by decide)) (hA 3 3 (by decide) (by decide)) (ne_of_inv (hA 1 0 (by decide) (by decide))) (ne_of_inv (hA 1 1 (by decide) (by decide))) (ne_of_inv (hA 1 2 (by decide) (by decide))) (ne_of_inv (hA 1 3 (by decide) (by decide))) (hC 0 1 (by decide) (by decide)) (hC 1 1 (by decide) (by decide)) (hC 2 1 (by decide) (by decide)) (hC 3 1 (by decide) (by decide)) (by simp only [up4]; grind) (by simp only [up4]; grind) (by simp only [up4]; grind) (by simp only [up4]; grind) (hx 1 (by decide)) hV
  · exact (if_neg (show ¬ ((3 : Nat) = 2) by decide)).symm ▸ off4 (x := x 2) (a := x 3) (b := x 0) (c := x 1) (P := ap4 x 2) (hA 3 0 (by decide) (by decide)) (hA 3 1 (by decide) (by decide)) (hA 3 2 (by decide) (by decide)) (hA 3 3 (by decide) (by decide)) (ne_of_inv (hA 2 0 (by decide) (by decide))) (ne_of_inv (hA 2 1 (by decide) (by decide))) (ne_of_inv (hA 2 2 (by decide) (by decide))) (ne_of_inv (hA 2 3 (by decide) (by decide))) (hC 0 2 (by decide) (by decide)) (hC 1 2 (by decide) (by decide)) (hC 2 2 (by decide) (by decide)) (hC 3 2 (by decide) (by decide)) (by simp only [up4]; grind) (by simp only [up4]; grind) (by simp only [up4]; grind) (by simp only [up4]; grind) (hx 2 (by decide)) hV
  · exact (if_pos rfl).symm ▸ diag4 (x := x 3) (a := x 0) (b := x 1) (c := x 2) (hA 3 0 (by decide) (by decide)) (hA 3 1 (by decide) (by decide)) (hA 3 2 (by decide) (by decide)) (hA 3 3 (by decide) (by decide)) (hC 0 3 (by decide) (by decide)) (hC 1 3 (by decide) (by decide)) (hC 2 3 (by decide) (by decide)) (hC 3 3 (by decide) (by decide)) (by simp only [up4]; grind) (by simp only [up4]; grind) (by simp only [up4]; grind) (by simp only [up4]; grind) (hx 3 (by decide)) hV
end Mine
open PySem PySem.W PyProof.Rows PySem.Spec PySem.Calls
-- part: Hd
namespace Mine
section
local macro_rules | `(tactic| o_head $_) => `(tactic| assumption)
theorem hd (h : PySem.Challenge.rw_xm0074_01.row.Holds) : PySem.Challenge.rw_xm0074_01.row.Holds := by k_head
end
noncomputable def view : Program := { PySem.Challenge.rw_xm0074_01.row.prog with main := { PySem.Challenge.rw_xm0074_01.row.prog.main with body := [1, 3, 5, 6, 7, 8, 9, 10, 12, 13, 14, 15, 16, 17, 18, 19, 21, 22, 23, 25, 26, 27, 28, 29, 30].filterMap fun i => PySem.Challenge.rw_xm0074_01.row.prog.main.body[i]? } }
end Mine
-- part: Base
namespace Mine

abbrev Led := List (Addr × Obj)
noncomputable abbrev PG : Program := PySem.Challenge.rw_xm0074_01.row.prog

noncomputable abbrev TopF (mean : ExcName → Option Value) (mg mb : Str → Option Value) (h : Heap) : Prop := Top Mine.view (looseW Mine.view []) mean mg mb h

/-- a call of f at vs over the ledger news: what comes back, over which ledger; d frames, u units of room -/
def Con (w : World) (mean : ExcName → Option Value) (mg mb : Str → Option Value) (f : Addr) (d u : Nat) (news : Led) (vs : List Value) (R : Value → Led → Prop) : Prop :=
  ∀ (dp un : Nat) (gd : Option (List Code)) (cn : Str) (cs : Scope) (a : Addr) (ccd : Value) (cl : List (Str × Addr)) (outer : List Env) (A₀ : Around) (base h₀ : Heap) (L : Addr) (m : Str → Option Value) (s : Shared) (Q E : Value → Shared → Prop),
    Below A₀ base outer h₀ → Fr h₀ L s.heap m → (Mine.hd.heap_1 w.params).In h₀ → News h₀ L s.heap news → TopF mean mg mb h₀ → cs.kind = .function → dp + d < recursionLimit → un + u < cLine →
    (∀ r news' h' tk', Fr h₀ L h' m → News h₀ L h' news' → R r news' → Q r { s with heap := h', toks := tk' }) →
    wpAny (model PG w) (ktrTop dp un gd cn cs L a ccd cl outer) (call (.ref f) vs) Q E s



/-- a mark: the walk stands still here -/
def Stop (P : Prop) : Prop := P
theorem Stop.go {P : Prop} (h : Stop P) : P := h
theorem Stop.mk {P : Prop} (h : P) : Stop P := h

/-- a frame's map with the known names in front -/
def ov (m : Str → Option Value) : List (Str × Value) → Str → Option Value
  | [], y => m y
  | (x, v) :: r, y => if y = x then some v else ov m r y
theorem ov_eq {m : Str → Option Value} : ∀ {ps : List (Str × Value)}, (∀ p ∈ ps, m p.1 = some p.2) → ov m ps = m
  | [], _ => rfl
  | (x, v) :: r, h => by
    funext y
    show (if y = x then some v else ov m r y) = m y
    rw [ov_eq fun p hp => h p (.tail _ hp)]
    by_cases e : y = x
    · rw [if_pos e, e]; exact (h (x, v) (.head _)).symm
    · rw [if_neg e]
theorem fr_ov {h₀ h : Heap} {L : Addr} {m : Str → Option Value} {ps : List (Str × Value)} (F : Fr h₀ L h m) (k : ∀ p ∈ ps, m p.1 = some p.2) : Fr h₀ L h (ov m ps) := by rw [ov_eq k]; exact F
def Kn (m : Str → Option Value) : List (Str × Value) → Prop
  | [] => True
  | p :: r => m p.1 = some p.2 ∧ Kn m r
theorem Kn.all {m : Str → Option Value} : ∀ {ps : List (Str × Value)}, Kn m ps → ∀ p ∈ ps, m p.1 = some p.2
  | [], _, _, h => nomatch h
  | _ :: _, k, _, .head _ => k.1
  | _ :: _, k, _, .tail _ h => k.2.all _ h

section
variable {prog : Program} {w : World} {A : Around} {E : Value → Shared → Prop} {Q : Flow → Shared → Prop} {s : Shared} {env : Env} {h₀ : Heap} {L : Addr}
/-- where a while's turn ends -/
def WEnd (h₀ : Heap) (L : Addr) (J : Nat → (Str → Option Value) → Led → Prop) (n : Nat) (s s' : Shared) : Prop :=
  ∃ h' tk m' news' n', s' = { s with heap := h', toks := tk } ∧ Fr h₀ L h' m' ∧ News h₀ L h' news' ∧ n' < n ∧ J n' m' news'
def WPost (h₀ : Heap) (L : Addr) (J : Nat → (Str → Option Value) → Led → Prop) (n : Nat) (s : Shared) (Q : Flow → Shared → Prop) (f : Flow) (s' : Shared) : Prop :=
  match f with
  | .ret v => Q (.ret v) s'
  | .brk => Q .next s'
  | _ => WEnd h₀ L J n s s'
theorem while_rule {test : Expr} {body : List Stmt} {pos : Pos} {m : Str → Option Value} {news : Led} (J : Nat → (Str → Option Value) → Led → Prop) (n₀ : Nat)
    (F : Fr h₀ L s.heap m) (N : News h₀ L s.heap news) (hJ : J n₀ m news)
    (turn : ∀ n m₁ news₁ h₁ tk₁, Fr h₀ L h₁ m₁ → News h₀ L h₁ news₁ → J n m₁ news₁ →
      wpAny (model prog w) A (isTrue test env (eval test env)) (fun b s₂ =>
        if b = true then wpAny (model prog w) A (execs body env) (WPost h₀ L J n s Q) E s₂ else Q .next s₂) E { s with heap := h₁, toks := tk₁ })
    (hE : PassesOwn (model prog w) A env E := by passes_own) :
    wpAny (model prog w) A (exec (.While test body [] pos) env) Q E s := by
  refine While_inv2 J F N hJ ?_ hE
  intro n m₁ news₁ h₁ tk₁ F₁ N₁ J₁
  refine wpAny_mono (turn n m₁ news₁ h₁ tk₁ F₁ N₁ J₁) (fun b s₂ p => ?_) fun _ _ x => x
  cases b with
  | false => simpa using p
  | true =>
    simp only [if_true] at p ⊢
    refine wpAny_mono p (fun f s₃ q => ?_) fun _ _ x => x
    cases f with
    | ret v => exact q
    | brk => exact q
    | next => exact q
    | cont => exact q
end

section
variable {w : World} {mean : ExcName → Option Value} {mg mb : Str → Option Value} {f : Addr} {d u : Nat} {news : Led} {vs : List Value} {R : Value → Led → Prop}
  {dp un : Nat} {gd : Option (List Code)} {cn : Str} {cs : Scope} {a : Addr} {ccd : Value} {cl : List (Str × Addr)} {outer : List Env} {A₀ : Around} {base h₀ : Heap} {L : Addr} {m : Str → Option Value} {s : Shared} {Q E : Value → Shared → Prop}
theorem Con.use (C : Con w mean mg mb f d u news vs R) (B : Below A₀ base outer h₀) (F : Fr h₀ L s.heap m) (X : (Mine.hd.heap_1 w.params).In h₀) (N : News h₀ L s.heap news) (T : TopF mean mg mb h₀) (hk : cs.kind = .function)
    (hd : dp + d < recursionLimit) (hu : un + u < cLine) (ret : ∀ r news' h' tk', Fr h₀ L h' m → News h₀ L h' news' → R r news' → Q r { s with heap := h', toks := tk' }) :
    wpAny (model PG w) (ktrTop dp un gd cn cs L a ccd cl outer) (call (.ref f) vs) Q E s :=
  C _ _ _ _ _ _ _ _ _ _ _ _ _ _ _ _ _ B F X N T hk hd hu ret
end

/-- a tuple of two ints: in the ledger, or one of the written part -/
def TupAt (w : World) (news : Led) (a : Addr) (x y : Int) (t u : Tok) (n : Nat) : Prop :=
  (a, ({ cls := .type "tuple", data := .seq #[.int x t, .int y u] n } : Obj)) ∈ news ∨ (Mine.hd.heap_1 w.params).lookup a = some { cls := .type "tuple", data := .seq #[.int x t, .int y u] n }
theorem TupAt.tup {w : World} {news news' : Led} {a : Addr} {x y : Int} {t u : Tok} {n : Nat} {h₀ h : Heap} {L : Addr} {m : Str → Option Value} (A : TupAt w news a x y t u n) (F : Fr h₀ L h m) (X : (Mine.hd.heap_1 w.params).In h₀) (N : News h₀ L h news') (hs : ∀ p ∈ news, p ∈ news') :
    IsTup h a #[.int x t, .int y u] := by
  rcases A with A | A
  · exact ⟨_, (N _ (hs _ A)).1, rfl, n, rfl⟩
  · exact ⟨_, F.keep _ _ (X _ _ A), rfl, n, rfl⟩
theorem TupAt.mono {w : World} {news news' : Led} {a : Addr} {x y : Int} {t u : Tok} {n : Nat} (A : TupAt w news a x y t u n) (hs : ∀ p ∈ news, p ∈ news') : TupAt w news' a x y t u n := A.imp_left (hs _)
def NumIn (w : World) (news : Led) (v : Value) (q : Rat) : Prop := ∃ a t u n, v = .ref a ∧ TupAt w news a q.num q.den t u n
theorem NumIn.mono {w : World} {news news' : Led} {v : Value} {q : Rat} (A : NumIn w news v q) (hs : ∀ p ∈ news, p ∈ news') : NumIn w news' v q :=
  let ⟨a, t, u, n, e, h⟩ := A; ⟨a, t, u, n, e, h.mono hs⟩

/-- a def's frame and surroundings as let-variables, its post and its clock as plain ones: the proof's terms stay small -/
theorem letAE {prog : Program} {w : World} {A0 : Around} {env : Env} {body : List Stmt} {Q : Flow → Shared → Prop} {E : Value → Shared → Prop} {h0 : Heap} {g d tk o}
    (h : ∀ tk1 (Q1 : Flow → Shared → Prop), (∀ f s, Q f s → Q1 f s) → let e := env; let A1 := A0.deeper e; wpAny (model prog w) A1 (execs body e) Q1 E ⟨h0, g, d, tk1, o⟩) : wpAny (model prog w) (A0.deeper env) (execs body env) Q E ⟨h0, g, d, tk, o⟩ := h tk Q fun _ _ h => h
/-- the goal hidden behind a letter while hypotheses are taken apart -/
theorem hideG {P : Prop} (h : ∀ G : Prop, (P → G) → G) : P := h P id
/-! bookkeeping of ledgers in small terms -/
theorem sub_cons {p : Addr × Obj} {A B : Led} (h1 : p ∈ B) (h2 : ∀ q ∈ A, q ∈ B) : ∀ q ∈ p :: A, q ∈ B := fun q hq => (List.mem_cons.mp hq).elim (fun e => e ▸ h1) (h2 q)
theorem sub_nil {B : Led} : ∀ q ∈ ([] : Led), q ∈ B := fun _ h => nomatch h
theorem sub_app {A A' B : Led} (h1 : ∀ q ∈ A, q ∈ B) (h2 : ∀ q ∈ A', q ∈ B) : ∀ q ∈ A ++ A', q ∈ B := fun q hq => (List.mem_append.mp hq).elim (h1 q) (h2 q)
theorem off_cons {p : Addr × Obj} {l : Led} {X : Addr} (h : p.1 ≠ X) (t : ∀ q ∈ l, q.1 ≠ X) : ∀ q ∈ p :: l, q.1 ≠ X := fun q hq => (List.mem_cons.mp hq).elim (fun e => e ▸ h) (t q)
theorem off_nil {X : Addr} : ∀ q ∈ ([] : Led), q.1 ≠ X := fun _ h => nomatch h
theorem off_app {A B : Led} {X : Addr} (h1 : ∀ q ∈ A, q.1 ≠ X) (h2 : ∀ q ∈ B, q.1 ≠ X) : ∀ q ∈ A ++ B, q.1 ≠ X := fun q hq => (List.mem_append.mp hq).elim (h1 q) (h2 q)
theorem neLt {a b : Addr} (h : @LT.lt Nat _ a b) : a ≠ b := Nat.ne_of_lt h
theorem neGt {a b : Addr} (h : @LT.lt Nat _ b a) : a ≠ b := Nat.ne_of_gt h
theorem cn12 {L : Nat} : @Ne Addr (L + 1) (L + 1 + 1) := by exact Nat.ne_of_lt (Nat.add_lt_add_left (k := L) (show 1 < 2 by decide))
theorem cn13 {L : Nat} : @Ne Addr (L + 1) (L + 1 + 1 + 1) := by exact Nat.ne_of_lt (Nat.add_lt_add_left (k := L) (show 1 < 3 by decide))
theorem cn14 {L : Nat} : @Ne Addr (L + 1) (L + 1 + 1 + 1 + 1) := by exact Nat.ne_of_lt (Nat.add_lt_add_left (k := L) (show 1 < 4 by decide))
theorem cn15 {L : Nat} : @Ne Addr (L + 1) (L + 1 + 1 + 1 + 1 + 1) := by exact Nat.ne_of_lt (Nat.add_lt_add_left (k := L) (show 1 < 5 by decide))
theorem cn16 {L : Nat} : @Ne Addr (L + 1) (L + 1 + 1 + 1 + 1 + 1 + 1) := by exact Nat.ne_of_lt (Nat.add_lt_add_left (k := L) (show 1 < 6 by decide))
theorem cn21 {L : Nat} : @Ne Addr (L + 1 + 1) (L + 1) := by exact Nat.ne_of_gt (Nat.add_lt_add_left (k := L) (show 1 < 2 by decide))
theorem cn23 {L : Nat} : @Ne Addr (L + 1 + 1) (L + 1 + 1 + 1) := by exact Nat.ne_of_lt (Nat.add_lt_add_left (k := L) (show 2 < 3 by decide))
theorem cn24 {L : Nat} : @Ne Addr (L + 1 + 1) (L + 1 + 1 + 1 + 1) := by exact Nat.ne_of_lt (Nat.add_lt_add_left (k := L) (show 2 < 4 by decide))
theorem cn25 {L : Nat} : @Ne Addr (L + 1 + 1) (L + 1 + 1 + 1 + 1 + 1) := by exact Nat.ne_of_lt (Nat.add_lt_add_left (k := L) (show 2 < 5 by decide))
theorem cn26 {L : Nat} : @Ne Addr (L + 1 + 1) (L + 1 + 1 + 1 + 1 + 1 + 1) := by exact Nat.ne_of_lt (Nat.add_lt_add_left (k := L) (show 2 < 6 by decide))
theorem cn31 {L : Nat} : @Ne Addr (L + 1 + 1 + 1) (L + 1) := by exact Nat.ne_of_gt (Nat.add_lt_add_left (k := L) (show 1 < 3 by decide))
theorem cn32 {L : Nat} : @Ne Addr (L + 1 + 1 + 1) (L + 1 + 1) := by exact Nat.ne_of_gt (Nat.add_lt_add_left (k := L) (show 2 < 3 by decide))
theorem cn34 {L : Nat} : @Ne Addr (L + 1 + 1 + 1) (L + 1 + 1 + 1 + 1) := by exact Nat.ne_of_lt (Nat.add_lt_add_left (k := L) (show 3 < 4 by decide))
theorem cn35 {L : Nat} : @Ne Addr (L + 1 + 1 + 1) (L + 1 + 1 + 1 + 1 + 1) := by exact Nat.ne_of_lt (Nat.add_lt_add_left (k := L) (show 3 < 5 by decide))
theorem cn36 {L : Nat} : @Ne Addr (L + 1 + 1 + 1) (L + 1 + 1 + 1 + 1 + 1 + 1) := by exact Nat.ne_of_lt (Nat.add_lt_add_left (k := L) (show 3 < 6 by decide))
theorem cn41 {L : Nat} : @Ne Addr (L + 1 + 1 + 1 + 1) (L + 1) := by exact Nat.ne_of_gt (Nat.add_lt_add_left (k := L) (show 1 < 4 by decide))
theorem cn42 {L : Nat} : @Ne Addr (L + 1 + 1 + 1 + 1) (L + 1 + 1) := by exact Nat.ne_of_gt (Nat.add_lt_add_left (k := L) (show 2 < 4 by decide))
theorem cn43 {L : Nat} : @Ne Addr (L + 1 + 1 + 1 + 1) (L + 1 + 1 + 1) := by exact Nat.ne_of_gt (Nat.add_lt_add_left (k := L) (show 3 < 4 by decide))
theorem cn45 {L : Nat} : @Ne Addr (L + 1 + 1 + 1 + 1) (L + 1 + 1 + 1 + 1 + 1) := by exact Nat.ne_of_lt (Nat.add_lt_add_left (k := L) (show 4 < 5 by decide))
theorem cn46 {L : Nat} : @Ne Addr (L + 1 + 1 + 1 + 1) (L + 1 + 1 + 1 + 1 + 1 + 1) := by exact Nat.ne_of_lt (Nat.add_lt_add_left (k := L) (show 4 < 6 by decide))
theorem cn51 {L : Nat} : @Ne Addr (L + 1 + 1 + 1 + 1 + 1) (L + 1) := by exact Nat.ne_of_gt (Nat.add_lt_add_left (k := L) (show 1 < 5 by decide))
theorem cn52 {L : Nat} : @Ne Addr (L + 1 + 1 + 1 + 1 + 1) (L + 1 + 1) := by exact Nat.ne_of_gt (Nat.add_lt_add_left (k := L) (show 2 < 5 by decide))
theorem cn53 {L : Nat} : @Ne Addr (L + 1 + 1 + 1 + 1 + 1) (L + 1 + 1 + 1) := by exact Nat.ne_of_gt (Nat.add_lt_add_left (k := L) (show 3 < 5 by decide))
theorem cn54 {L : Nat} : @Ne Addr (L + 1 + 1 + 1 + 1 + 1) (L + 1 + 1 + 1 + 1) := by exact Nat.ne_of_gt (Nat.add_lt_add_left (k := L) (show 4 < 5 by decide))
theorem cn56 {L : Nat} : @Ne Addr (L + 1 + 1 + 1 + 1 + 1) (L + 1 + 1 + 1 + 1 + 1 + 1) := by exact Nat.ne_of_lt (Nat.add_lt_add_left (k := L) (show 5 < 6 by decide))
theorem cn61 {L : Nat} : @Ne Addr (L + 1 + 1 + 1 + 1 + 1 + 1) (L + 1) := by exact Nat.ne_of_gt (Nat.add_lt_add_left (k := L) (show 1 < 6 by decide))
theorem cn62 {L : Nat} : @Ne Addr (L + 1 + 1 + 1 + 1 + 1 + 1) (L + 1 + 1) := by exact Nat.ne_of_gt (Nat.add_lt_add_left (k := L) (show 2 < 6 by decide))
theorem cn63 {L : Nat} : @Ne Addr (L + 1 + 1 + 1 + 1 + 1 + 1) (L + 1 + 1 + 1) := by exact Nat.ne_of_gt (Nat.add_lt_add_left (k := L) (show 3 < 6 by decide))
theorem cn64 {L : Nat} : @Ne Addr (L + 1 + 1 + 1 + 1 + 1 + 1) (L + 1 + 1 + 1 + 1) := by exact Nat.ne_of_gt (Nat.add_lt_add_left (k := L) (show 4 < 6 by decide))
theorem cn65 {L : Nat} : @Ne Addr (L + 1 + 1 + 1 + 1 + 1 + 1) (L + 1 + 1 + 1 + 1 + 1) := by exact Nat.ne_of_gt (Nat.add_lt_add_left (k := L) (show 5 < 6 by decide))
theorem cb1 {L : Nat} {X : Addr} (h : @LT.lt Nat _ (L + 6) X) : @Ne Addr (L + 1) X := Nat.ne_of_lt (Nat.lt_of_le_of_lt (Nat.add_le_add_left (show 1 ≤ 6 by decide) L) h)
theorem cb2 {L : Nat} {X : Addr} (h : @LT.lt Nat _ (L + 6) X) : @Ne Addr (L + 1 + 1) X := Nat.ne_of_lt (Nat.lt_of_le_of_lt (Nat.add_le_add_left (show 2 ≤ 6 by decide) L) h)
theorem cb3 {L : Nat} {X : Addr} (h : @LT.lt Nat _ (L + 6) X) : @Ne Addr (L + 1 + 1 + 1) X := Nat.ne_of_lt (Nat.lt_of_le_of_lt (Nat.add_le_add_left (show 3 ≤ 6 by decide) L) h)
theorem cb4 {L : Nat} {X : Addr} (h : @LT.lt Nat _ (L + 6) X) : @Ne Addr (L + 1 + 1 + 1 + 1) X := Nat.ne_of_lt (Nat.lt_of_le_of_lt (Nat.add_le_add_left (show 4 ≤ 6 by decide) L) h)
theorem cb5 {L : Nat} {X : Addr} (h : @LT.lt Nat _ (L + 6) X) : @Ne Addr (L + 1 + 1 + 1 + 1 + 1) X := Nat.ne_of_lt (Nat.lt_of_le_of_lt (Nat.add_le_add_left (show 5 ≤ 6 by decide) L) h)
theorem cb6 {L : Nat} {X : Addr} (h : @LT.lt Nat _ (L + 6) X) : @Ne Addr (L + 1 + 1 + 1 + 1 + 1 + 1) X := Nat.ne_of_lt (Nat.lt_of_le_of_lt (Nat.add_le_add_left (show 6 ≤ 6 by decide) L) h)
theorem cd1 {L : Nat} {X : Addr} (h : @LT.lt Nat _ (L + 1 + 1 + 1) X) : @Ne Addr (L + 1) X := Nat.ne_of_lt (Nat.lt_of_le_of_lt (Nat.add_le_add_left (show 1 ≤ 3 by decide) L) h)
theorem cd2 {L : Nat} {X : Addr} (h : @LT.lt Nat _ (L + 1 + 1 + 1) X) : @Ne Addr (L + 1 + 1) X := Nat.ne_of_lt (Nat.lt_of_le_of_lt (Nat.add_le_add_left (show 2 ≤ 3 by decide) L) h)
theorem cd3 {L : Nat} {X : Addr} (h : @LT.lt Nat _ (L + 1 + 1 + 1) X) : @Ne Addr (L + 1 + 1 + 1) X := Nat.ne_of_lt (Nat.lt_of_le_of_lt (Nat.add_le_add_left (show 3 ≤ 3 by decide) L) h)
theorem nsub {h₀ h : Heap} {L : Addr} {a b : Led} (N : News h₀ L h b) (s : ∀ p ∈ a, p ∈ b) : News h₀ L h a := fun p hp => N p (s p hp)
end Mine
-- part: Loop
namespace Mine

/-- no address of its stands in nx -/
def Off (its nx : Led) : Prop := ∀ p ∈ nx, ∀ q ∈ its, p.1 ≠ q.1

theorem Off.mono {its nx nx' : Led} (h : Off its nx) (s : ∀ p ∈ nx', p ∈ nx) : Off its nx' := fun p hp q hq => h p (s p hp) q hq
theorem Off.nil {its : Led} : Off its [] := fun _ h => nomatch h
theorem Off.cons {its nx : Led} {p : Addr × Obj} (h1 : ∀ q ∈ its, p.1 ≠ q.1) (h : Off its nx) : Off its (p :: nx) := fun p' hp => by
  rcases List.mem_cons.mp hp with rfl | hp
  · exact h1
  · exact h _ hp
theorem Off.app {its nx nx' : Led} (h1 : Off its nx) (h : Off its nx') : Off its (nx ++ nx') := fun p' hp => by
  rcases List.mem_append.mp hp with hp | hp
  · exact h1 _ hp
  · exact h _ hp
/-- what is made above a ledger is off it -/
theorem Off.above {its : Led} {p : Addr × Obj} (h : ∀ q ∈ its, q.1 < p.1) : ∀ q ∈ its, p.1 ≠ q.1 := fun q hq e => Nat.lt_irrefl _ (e ▸ h q hq)

section
variable (prog : Program) (w : World) (A : Around) (h₀ : Heap) (L : Addr)
structure SrcD (target : Expr) (keep : Led) (I : Addr) (n : Nat) (P : Nat → Value → Heap → Prop) (fp wr : List Addr) (ws : List (Addr × String)) (Md : Nat → Value → Heap → Prop) (St : Nat → Heap → Prop) : Prop where
  W : KTurns prog w A target I fp wr n P Md St
  obj : ∀ i h, St i h → ∃ its, Objs ws its ∧ ∀ p ∈ its, h.get? p.1 = some p.2
  inws : ∀ b ∈ ws.map (·.1), b ∈ fp ∧ h₀.get? b = none
  wrws : ∀ b, b ∈ wr ↔ b ∈ ws.map (·.1)
  fpin : ∀ b ∈ fp, b ∈ ws.map (·.1) ∨ ∃ o, (b, o) ∈ keep
  off : L ∉ fp
  self : ∀ i (s : Shared) (Q : Value → Shared → Prop) (E : Value → Shared → Prop), St i s.heap → Q (.ref I) s → wpAny (model prog w) A (pyIter (.ref I)) Q E s

/-- a source of a loop's items: an iterator at I of n items -/
def Src (target : Expr) (keep : Led) (I : Addr) (n : Nat) (P : Nat → Value → Heap → Prop) (news : Led) (hp : Heap) : Prop :=
  ∃ fp wr ws Md St, SrcD prog w A h₀ L target keep I n P fp wr ws Md St ∧ (∀ p ∈ news, p.1 ∉ ws.map (·.1)) ∧ St 0 hp ∧ (∀ b ∈ fp, b < hp.objs.size)
end

section
variable {prog : Program} {w : World} {A : Around} {E : Value → Shared → Prop} {s : Shared} {env : Env} {h₀ : Heap} {L : Addr} {target : Expr} {m : Str → Option Value} {news : Led}

/-- where a for's turn ends -/
def LEnd (h₀ : Heap) (L : Addr) (its : Led) (Jn : (Str → Option Value) → Led → Prop) (s₁ s₂ : Shared) : Prop :=
  ∃ h' tk m' all nx, s₂ = { s₁ with heap := h', toks := tk } ∧ Fr h₀ L h' m' ∧ News h₀ L h' all ∧ (∀ p ∈ its, p ∈ all) ∧ (∀ p ∈ nx, p ∈ all) ∧ Off its nx ∧ Jn m' nx
def LPost (h₀ : Heap) (L : Addr) (its : Led) (Jn : (Str → Option Value) → Led → Prop) (s₁ : Shared) (Q : Flow → Shared → Prop) (f : Flow) (s₂ : Shared) : Prop :=
  match f with
  | .ret v => Q (.ret v) s₂
  | .brk => Q .next s₂
  | _ => LEnd h₀ L its Jn s₁ s₂

theorem for_src {body : List Stmt} {Q : Flow → Shared → Prop} {keep : Led} {I : Addr} {n : Nat} {P : Nat → Value → Heap → Prop} {hp : Heap} {tk0 : Nat} {g dr os}
    (S : Src prog w A h₀ env.locals target keep I n P news hp) (F : Fr h₀ env.locals hp m) (N : News h₀ env.locals hp news)
    (J : Nat → (Str → Option Value) → Led → Prop) (h0 : J 0 m news) (hJk : ∀ i m nx, J i m nx → ∀ p ∈ keep, p ∈ nx)
    (turn : ∀ i v m₁ nx h tk its, i < n → P i v h → J i m₁ nx → Off its nx → Fr h₀ env.locals h m₁ → News h₀ env.locals h (nx ++ its) →
      ∀ Qt : Flow → Shared → Prop, (∀ f s₂, LPost h₀ env.locals its (J (i + 1)) ⟨h, g, dr, tk, os⟩ Q f s₂ → Qt f s₂) → wpAny (model prog w) A (assign target env v) (fun _ s₂ => wpAny (model prog w) A (execs body env) Qt E s₂) E ⟨h, g, dr, tk, os⟩)
    (done : ∀ m' nx h tk, J n m' nx → Fr h₀ env.locals h m' → News h₀ env.locals h nx → Q .next ⟨h, g, dr, tk, os⟩) :
    TurnsAt prog w A h₀ env target body Q E (.ref I) ⟨hp, g, dr, tk0, os⟩ := by
  refine hideG fun Gd hGd => ?_
  obtain ⟨fp, wr, ws, Md, St, D, hnw, hst, hlt⟩ := S
  refine hGd ?_
  clear hGd Gd
  refine ⟨I, fp, wr, n, P, Md, St, m, news, J, rfl, D.W, D.off, fun b hb => (D.inws b ((D.wrws b).mp hb)).2, fun p hp hw => hnw p hp ((D.wrws _).mp hw), hst, F, N, h0, ?_, ?_⟩
  · intro i v m₁ news₁ h₁ tk₁ own hin hPi hJ hoff hown hget hall hst₁ F₁ N₁
    refine hideG fun Gd hGd => ?_
    obtain ⟨its, hits, hval⟩ := D.obj (i + 1) h₁ hst₁
    refine hGd ?_
    clear hGd Gd
    have hmap := hits.map
    have hio : ∀ p ∈ its, p ∈ own := fun p hp => by
      have h1 : p.1 ∈ ws.map (·.1) := by rw [← hmap]; exact List.mem_map.mpr ⟨p, hp, rfl⟩
      exact hall p.1 (D.inws _ h1).1 (D.inws _ h1).2 p.2 (hval p hp)
    have N₂ : News h₀ env.locals h₁ (news₁ ++ its) := fun p hp => by
      rcases List.mem_append.mp hp with hp | hp
      · exact N₁ _ (List.mem_append_right _ hp)
      · exact N₁ _ (List.mem_append_left _ (hio p hp))
    have hkeep := hJk _ _ _ hJ
    have hoff2 : Off its news₁ := fun p hp q hq e => hoff p hp ((D.wrws _).mpr (by rw [← hmap, e]; exact List.mem_map.mpr ⟨q, hq, rfl⟩))
    have fin : ∀ s₃, LEnd h₀ env.locals its (J (i + 1)) ⟨h₁, g, dr, tk₁, os⟩ s₃ → LoopStepU h₀ env.locals wr own (J (i + 1)) ⟨h₁, g, dr, tk₁, os⟩ .next s₃ := by
      intro s₃ hp1_
      refine hideG fun Gd hGd => ?_
      obtain ⟨h', tk, m', all, nx, e, F', N', hi, hn, ho, hj⟩ := hp1_
      refine hGd ?_
      clear hGd Gd
      refine ⟨rfl, h', tk, m', nx, e, F', ?_, fun p hp hw => ?_, hj⟩
      · intro hp1_ hp
        refine hideG fun Gd hGd => ?_
        obtain ⟨pa, po⟩ := hp1_
        refine hGd ?_
        clear hGd Gd
        rcases List.mem_append.mp hp with hp | hp
        · have h2 : h₁.get? pa = some po := hget _ hp
          rcases D.fpin pa (hown _ hp) with h3 | ⟨o, h3⟩
          · rw [← hmap] at h3
            refine hideG fun Gd hGd => ?_
            obtain ⟨⟨qa, qo⟩, hq, hqe⟩ := List.mem_map.mp h3
            refine hGd ?_
            clear hGd Gd
            have hqe' : qa = pa := hqe
            subst hqe'
            have h5 : h₁.get? qa = some qo := hval _ hq
            have h6 : qo = po := Option.some.inj (h5.symm.trans h2)
            subst h6
            exact N' _ (hi _ hq)
          · have h4 : h₁.get? pa = some o := (N₁ _ (List.mem_append_right _ (hkeep _ h3))).1
            have h6 : o = po := Option.some.inj (h4.symm.trans h2)
            subst h6
            exact N' _ (hn _ (hJk _ _ _ hj _ h3))
        · exact N' _ (hn _ hp)
      · have h4 := (D.wrws _).mp hw
        rw [← hmap] at h4
        refine hideG fun Gd hGd => ?_
        obtain ⟨q, hq, hqe⟩ := List.mem_map.mp h4
        refine hGd ?_
        clear hGd Gd
        exact ho p hp q hq hqe.symm
    refine wpAny_mono (turn i v m₁ news₁ h₁ tk₁ its hin hPi hJ hoff2 F₁ N₂ _ fun _ _ h => h) (fun _ s₂ h₂ => wpAny_mono h₂ (fun f s₃ p => ?_) fun _ _ e => e) fun _ _ e => e
    cases f with
    | ret v => exact .ret p
    | brk => exact .brk p
    | next => exact .next (fin _ p)
    | cont => exact .cont (fin _ p)
  · intro h' tk m' news' F' N' _ hJ
    exact done m' news' h' tk hJ F' N'

theorem fresh₀ {h : Heap} {b : Addr} (F : Fr h₀ L h m) (hb : h.objs.size ≤ b) : h₀.get? b = none := by
  cases e : h₀.get? b with
  | none => rfl
  | some o => exact absurd (Heap.lt_size (F.keep _ _ e)) (Nat.not_lt.mpr hb)

/-- the three sources: a list of the ledger, a range, an enumerated list of the ledger -/
theorem src_list {ax : Addr} {vs : List Value} {k : Nat} {Q : Value → Shared → Prop} (hh : A.handled = none) (F : Fr h₀ L s.heap m) (N : News h₀ L s.heap news) (hm : (ax, listOf vs.toArray k) ∈ news)
    (h : ∀ I h', Src prog w A h₀ L target [(ax, listOf vs.toArray k)] I vs.length (fun i v _ => vs[i]? = some v) news h' → Fr h₀ L h' m → News h₀ L h' news → Q (.ref I) { s with heap := h' }) :
    wpAny (model prog w) A (pyIter (.ref ax)) Q E s := by
  have hax := N _ hm
  have hl : s.heap.IsList ax vs.toArray := ⟨_, hax.1, rfl, k, rfl⟩
  have hlt : ax < s.heap.objs.size := Heap.lt_size hax.1
  have hne : ax ≠ s.heap.objs.size := Nat.ne_of_lt hlt
  have W := KTurns.ofWalks (target := target) (Walks.list (prog := prog) (w := w) hh s.heap.objs.size ax hne vs.toArray) fun i v s Q E st q => letGo_listiter st.1 q
  simp only [List.getElem?_toArray, List.size_toArray] at W
  refine wpAny_pyIter_list hl (h _ _ ⟨[s.heap.objs.size, ax], [s.heap.objs.size], [(s.heap.objs.size, "list_iterator")], _, _, ⟨W, ?_, ?_, ?_, ?_, ?_, ?_⟩, ?_, ?_, ?_⟩ (F.push _) (fun p hp => ⟨Heap.get?_push_of_some _ (N p hp).1, (N p hp).2⟩))
  · intro i h' st
    refine hideG fun Gd hGd => ?_
    obtain ⟨it, hit, hic, _⟩ := st.1
    refine hGd ?_
    clear hGd Gd
    exact ⟨[(s.heap.objs.size, it)], ⟨⟨rfl, hic⟩, trivial⟩, fun p hp => by rw [List.mem_singleton.mp hp]; exact hit⟩
  · intro b hb
    have hb' : b = s.heap.objs.size := by simpa using hb
    rw [hb']
    exact ⟨List.mem_cons_self .., fresh₀ F (Nat.le_refl _)⟩
  · intro b; simp
  · intro b hb
    have hb' : b = s.heap.objs.size ∨ b = ax := by simpa using hb
    rcases hb' with e | e
    · exact .inl (by simp [e])
    · exact .inr ⟨_, by rw [e]; exact List.mem_singleton.mpr rfl⟩
  · intro hI
    rcases List.mem_cons.mp hI with e | hI
    · exact absurd F.ns.lt (e ▸ Nat.lt_irrefl _)
    · exact hax.2.1 (List.mem_singleton.mp hI).symm
  · exact fun i s Q E st q => wpAny_pyIter_listiter st.1 q
  · intro p hp hI
    have e : p.1 = s.heap.objs.size := by simpa using hI
    exact absurd (Heap.lt_size (N p hp).1) (e ▸ Nat.lt_irrefl _)
  · exact ⟨⟨_, Heap.get?_push_size _ rfl, rfl, rfl⟩, hl.at fun o e => Heap.get?_push_of_some _ e⟩
  · intro b hb
    rw [Heap.size_push]
    rcases List.mem_cons.mp hb with rfl | hb
    · exact Nat.lt_succ_self _
    · rw [List.mem_singleton.mp hb]; exact Nat.lt_succ_of_lt hlt

theorem src_range {r : Addr} {a b : Int} {t u v : Tok} {n : Nat} {Q : Value → Shared → Prop} (hh : A.handled = none) (F : Fr h₀ L s.heap m) (N : News h₀ L s.heap news)
    (hr : IsRange s.heap r a b 1 t u v) (ha : -(2 ^ 62) ≤ a) (ha' : a < 2 ^ 62) (hb : -(2 ^ 62) ≤ b) (hb' : b < 2 ^ 62) (hn : n = (b - a).toNat) (ht : ∀ it v, letOwnedTupleGo target it v = pure ())
    (h : ∀ I h', Src prog w A h₀ L target [] I n (fun i v _ => ∃ t, v = .int (a + (i : Int)) t) news h' → Fr h₀ L h' m → News h₀ L h' news → Q (.ref I) { s with heap := h' }) :
    wpAny (model prog w) A (pyIter (.ref r)) Q E s := by
  subst hn
  have W := KTurns.ofWalks (target := target) (LCg.range_walks (prog := prog) (w := w) (I := s.heap.objs.size) hh a (b - a).toNat) fun i v s Q E st q => by rw [ht]; exact wpAny_pure q
  refine wpAny_pyIter_range hr (small_one ha ha' hb hb') (h _ _ ⟨[s.heap.objs.size], [s.heap.objs.size], [(s.heap.objs.size, "range_iterator")], _, _, ⟨W, ?_, ?_, ?_, ?_, ?_, ?_⟩, ?_, ?_, ?_⟩ (F.push _) (fun p hp => ⟨Heap.get?_push_of_some _ (N p hp).1, (N p hp).2⟩))
  · intro i h' st
    exact ⟨[(s.heap.objs.size, _)], ⟨⟨rfl, rfl⟩, trivial⟩, fun p hp => by rw [List.mem_singleton.mp hp]; exact st⟩
  · intro b hb
    have hb' : b = s.heap.objs.size := by simpa using hb
    rw [hb']
    exact ⟨List.mem_cons_self .., fresh₀ F (Nat.le_refl _)⟩
  · intro b; simp
  · intro b hb
    have hb' : b = s.heap.objs.size := by simpa using hb
    exact .inl (by simp [hb'])
  · intro hI
    exact absurd F.ns.lt (List.mem_singleton.mp hI ▸ Nat.lt_irrefl _)
  · exact fun i s Q E st q => (LCg.range_walks (prog := prog) (w := w) hh a (b - a).toNat).self i s Q E st q
  · intro p hp hI
    have e : p.1 = s.heap.objs.size := by simpa using hI
    exact absurd (Heap.lt_size (N p hp).1) (e ▸ Nat.lt_irrefl _)
  · show IsRangeIter _ _ _ _ _
    rw [rangeSize_nat]
    simpa using Heap.get?_push_size _ rfl
  · intro b hb
    rw [Heap.size_push, List.mem_singleton.mp hb]
    exact Nat.lt_succ_self _

def enumO (it : Addr) : Obj := { cls := .type "enumerate", data := .fields #[.none, .bool false, .ref it, rawInt 0, .none, .none] }
def lstIterO (l : Addr) : Obj := { cls := .type "list_iterator", data := .fields #[.ref l, .int 0 0] }
/-- the call of enumerate: its two objects onto the ledger -/
theorem enum_call {l : Addr} {vs : List Value} {k : Nat} {Q : Value → Shared → Prop} (F : Fr h₀ L s.heap m) (N : News h₀ L s.heap news) (hm : (l, listOf vs.toArray k) ∈ news)
    (h : ∀ e it h', Fr h₀ L h' m → News h₀ L h' news → IsEnum h' e it 0 .none → h'.IsListIter it l 0 → e = it + 1 → (∀ p ∈ news, p.1 < it) → L < it → h₀.get? e = none → h₀.get? it = none → Q (.ref e) { s with heap := h' }) :
    wpAny (model prog w) A (call (.type "enumerate") [.ref l]) Q E s := by
  have hl : s.heap.IsList l vs.toArray := ⟨_, (N _ hm).1, rfl, k, rfl⟩
  refine call_enumerate_list hl fun h' hE hI hsz hk => h _ _ h' (F.keeps hk) (N.grown hk) hE hI rfl (fun p hp => Heap.lt_size (N p hp).1) F.ns.lt (fresh₀ F (Nat.le_succ _)) (fresh₀ F (Nat.le_refl _))
theorem src_enum {elts : List Expr} {kk : Nat} {tp : Pos} {l e it : Addr} {vs : List Value} {k : Nat} {Q : Value → Shared → Prop} (hh : A.handled = none) (F : Fr h₀ L s.heap m) (N : News h₀ L s.heap news) (hm : (l, listOf vs.toArray k) ∈ news)
    (hE : IsEnum s.heap e it 0 .none) (hI : s.heap.IsListIter it l 0) (he : e = it + 1) (hlt : ∀ p ∈ news, p.1 < it) (hL : L < it) (h1 : h₀.get? e = none) (h2 : h₀.get? it = none)
    (h : Src prog w A h₀ L (.Tuple elts kk tp) [(l, listOf vs.toArray k)] e vs.length (fun i v h => ∃ T t x, v = .ref T ∧ vs[i]? = some x ∧ IsTup h T #[.int (i : Int) t, x]) news s.heap → Q (.ref e) s) :
    wpAny (model prog w) A (pyIter (.ref e)) Q E s := by
  have hl : s.heap.IsList l vs.toArray := ⟨_, (N _ hm).1, rfl, k, rfl⟩
  have hlit : l < it := hlt _ hm
  have hei : e ≠ it := by rw [he]; exact Nat.succ_ne_self _
  have hle : l ≠ e := by rw [he]; exact Nat.ne_of_lt (Nat.lt_succ_of_lt hlit)
  have W := KTurns.ofWalksU (elts := elts) (k := kk) (pos := tp) (WalksT.enumerate (prog := prog) (w := w) hh e it l hei hle (Nat.ne_of_lt hlit) vs.toArray).toU
  have W' : KTurns prog w A (.Tuple elts kk tp) e [e, it, l] [e, it] vs.length (fun i v h => ∃ T t x, v = .ref T ∧ vs[i]? = some x ∧ IsTup h T #[.int (i : Int) t, x]) _ _ :=
    { sub := W.sub, frame := W.frame, item := fun i s Q E hi st q => W.item i s Q E (by simpa using hi) st q,
      go := fun i v s Q E hMd hQ => W.go i v s Q E hMd fun h' hP st hk => hQ h' (by
        refine hideG fun Gd hGd => ?_
        obtain ⟨T, vals, rfl, ⟨t, x, hx, rfl⟩, hT⟩ := hP
        refine hGd ?_
        clear hGd Gd
        exact ⟨T, t, x, rfl, by simpa using hx, hT⟩) st hk,
      done := fun s Q E st q => W.done s Q E (by simpa using st) q }
  refine wpAny_pyIter_enum hE (h ⟨[e, it, l], [e, it], [(e, "enumerate"), (it, "list_iterator")], _, _, ⟨W', ?_, ?_, ?_, ?_, ?_, ?_⟩, ?_, ?_, ?_⟩)
  · intro i h hp1_
    refine hideG fun Gd hGd => ?_
    obtain ⟨⟨old, he⟩, ⟨oi, hoi, hic, _⟩, _⟩ := hp1_
    have he' : ∃ oe : Obj, h.get? e = some oe ∧ oe.cls = .type "enumerate" := ⟨_, he, rfl⟩
    obtain ⟨oe, h1, h2⟩ := he'
    refine hGd ?_
    clear hGd Gd
    refine ⟨[(e, oe), (it, oi)], ⟨⟨rfl, h2⟩, ⟨rfl, hic⟩, trivial⟩, fun p hp => ?_⟩
    rcases List.mem_cons.mp hp with rfl | hp
    · exact h1
    · rw [List.mem_singleton.mp hp]; exact hoi
  · intro b hb
    have hb' : b = e ∨ b = it := by simpa using hb
    rcases hb' with rfl | rfl
    · exact ⟨by simp, h1⟩
    · exact ⟨by simp, h2⟩
  · intro b; simp
  · intro b hb
    have hb' : b = e ∨ b = it ∨ b = l := by simpa using hb
    rcases hb' with e | e | e
    · exact .inl (by simp [e])
    · exact .inl (by simp [e])
    · exact .inr ⟨_, by rw [e]; exact List.mem_singleton.mpr rfl⟩
  · intro hm2
    have hb' : L = e ∨ L = it ∨ L = l := by simpa using hm2
    rcases hb' with e1 | e1 | e1
    · rw [he] at e1; exact absurd hL (by rw [e1]; exact Nat.not_lt.mpr (Nat.le_succ _))
    · exact absurd hL (by rw [e1]; exact Nat.lt_irrefl _)
    · exact (N _ hm).2.1 e1.symm
  · intro i s Q E hp1_ q
    refine hideG fun Gd hGd => ?_
    obtain ⟨⟨old, he⟩, _⟩ := hp1_
    refine hGd ?_
    clear hGd Gd
    exact wpAny_pyIter_enum he q
  · intro p hp hI
    have e2 : p.1 = e ∨ p.1 = it := by simpa using hI
    have h3 := hlt p hp
    rcases e2 with e2 | e2
    · rw [he] at e2; exact absurd h3 (by rw [e2]; exact Nat.not_lt.mpr (Nat.le_succ _))
    · exact absurd h3 (by rw [e2]; exact Nat.lt_irrefl _)
  · exact ⟨⟨_, hE⟩, hI, hl⟩
  · have hEl : e < s.heap.objs.size := Heap.lt_size hE
    have hIl : it < s.heap.objs.size := by obtain ⟨_, x, _⟩ := hI; exact Heap.lt_size x
    intro b hb
    have hb' : b = e ∨ b = it ∨ b = l := by simpa using hb
    rcases hb' with rfl | rfl | rfl
    · exact hEl
    · exact hIl
    · exact Heap.lt_size (N _ hm).1
end
end Mine
-- part: Comp
namespace Mine
open LCg (NsObj lst lst_snoc)

abbrev cTests (ifs : List Expr) (env : Env) : Sem Bool := forIn ifs true fun c r => if r = true then do let ok ← isTrue c env (eval c env); pure (ForInStep.yield ok) else pure (ForInStep.yield r)

section
variable {prog : Program} {w : World} {A : Around} {R : Result → Shared → Prop} {s : Shared}
theorem compLoop_turns {elt target iter : Expr} {ifs : List Expr} {scope : Scope} {pos : Pos} {it acc : Value} {env : Env} (I : Nat → Shared → Prop)
    (turn : ∀ n s (E' : Value → Shared → Prop), I n s → wpAny (model prog w) A (pyNext it) (fun r s₁ => match r with
      | none => R (.ok .next) s₁
      | some v => wpAny (model prog w) A (letOwnedTupleGo target it v) (fun _ s₁' => wpAny (model prog w) A (assign target env v) (fun _ s₂ =>
          wpAny (model prog w) A (cTests ifs env) (fun ok s₃ => if ok = true then wpAny (model prog w) A (eval elt env) (fun x s₄ =>
              wpAny (model prog w) A (call (.builtin "list.append") [acc, x]) (fun _ s₅ => ∃ m, m < n ∧ I m s₅) E' s₄) E' s₃
            else ∃ m, m < n ∧ I m s₃) E' s₂) E' s₁') E' s₁) E' s)
    (n : Nat) (h : I n s) : codeAny (model prog w) A (.compLoop (.ListComp elt [⟨target, iter, ifs, 0⟩] scope pos) 0 it acc env) R s := by
  refine codeAny_loop rfl I (fun n s hI => ?_) n h
  show wpAny _ A ((compTurn (.ListComp elt [⟨target, iter, ifs, 0⟩] scope pos) 0 it acc env).onRaise (fun x => do noteFrame x env; theTreesLotGoes x)) _ _ s
  refine wpAny_noted ?_
  rw [compTurn_list]
  refine wpAny_bind (wpAny_standAt (wpAny_bind (wpAny_mono (turn n s _ hI) (fun r s₁ h₁ => ?_) fun _ _ h' => h')))
  cases r with
  | none => exact wpAny_pure h₁
  | some v =>
    refine wpAny_bind (wpAny_mono h₁ (fun _ s₁' h₁' => ?_) fun _ _ h' => h')
    refine wpAny_bind (wpAny_mono h₁' (fun _ s₂ h₂ => wpAny_bind (wpAny_mono h₂ (fun ok s₃ h₃ => ?_) fun _ _ h' => h')) fun _ _ h' => h')
    cases ok with
    | false => exact wpAny_pure ⟨rfl, by simpa using h₃⟩
    | true =>
      simp only [if_true] at h₃
      exact wpAny_bind (wpAny_bind (wpAny_mono h₃ (fun x s₄ h₄ => wpAny_bind (wpAny_mono h₄ (fun _ s₅ h₅ => wpAny_pure (wpAny_pure ⟨rfl, h₅⟩)) fun _ _ h' => h')) fun _ _ h' => h'))
end

/-- where a block's turn ends -/
def CEnd (h₀ : Heap) (L : Addr) (m : Str → Option Value) (priv : Led) (Jn : Led → Prop) (s₁ s₂ : Shared) : Prop :=
  ∃ h' tk all nx, s₂ = { s₁ with heap := h', toks := tk } ∧ Fr h₀ L h' m ∧ News h₀ L h' all ∧ (∀ p ∈ priv, p ∈ all) ∧ (∀ p ∈ nx, p ∈ all) ∧ Off priv nx ∧ Jn nx

section
variable {prog : Program} {w : World} {A : Around} {E : Value → Shared → Prop} {env : Env} {h₀ : Heap} {L : Addr} {target : Expr} {m : Str → Option Value} {news : Led}

theorem comp_core {elt iter : Expr} {ifs : List Expr} {scope : Scope} {cl : List (Str × Addr)} {pos : Pos} {s₂ : Shared} {keep : Led} {I : Addr} {n : Nat} {P : Nat → Value → Heap → Prop} {RR : Value → Addr → Result → Shared → Prop}
    (S : Src prog w A h₀ L target keep I n P news s₂.heap) (hsz : n ≤ sizeLine) (F : Fr h₀ L s₂.heap m) (N : News h₀ L s₂.heap news)
    (clf : Addr → List (Str × Addr)) (adr : Addr → List Addr) (Pr : Led → Prop) (Po : Nat → Value → Led → Prop)
    (hadr : ∀ C, ∀ a ∈ adr C, C ≤ a)
    (hnew : ∀ (s₃ : Shared) (Q' : Env → Shared → Prop), (∀ h₁ tk priv (cenv : Env), priv.map (·.1) = adr s₃.heap.objs.size → Pr priv → (∀ p ∈ priv, h₁.get? p.1 = some p.2) → (∀ b o, s₃.heap.get? b = some o → h₁.get? b = some o) →
        cenv.locals = s₃.heap.objs.size → { cenv with scope := relabel scope env } = compEnvC scope (clf s₃.heap.objs.size) s₃.heap.objs.size env → Q' cenv { s₃ with heap := h₁, toks := tk }) →
      wpAny (model prog w) A (newFunctionEnv scope env.globals cl [] env.qual none .none (some env)) Q' E s₃)
    (hC : ∀ C priv, priv.map (·.1) = adr C → Pr priv → ∃ oC m', (C, oC) ∈ priv ∧ NsObj oC m')
    (hPP : ∀ i v priv, Po i v priv → Pr priv)
    (hasg : ∀ C i v h tk priv (Q' : Unit → Shared → Prop) (E' : Value → Shared → Prop), priv.map (·.1) = adr C → Pr priv → (∀ p ∈ priv, h.get? p.1 = some p.2) → P i v h →
      (∀ h₃ tk₃ priv', priv'.map (·.1) = adr C → Po i v priv' → (∀ p ∈ priv', h₃.get? p.1 = some p.2) → (∀ b o, b ∉ adr C → h.get? b = some o → h₃.get? b = some o) → Q' () { s₂ with heap := h₃, toks := tk₃ }) →
      wpAny (model prog w) A (assign target (compEnvC scope (clf C) C env) v) Q' E' { s₂ with heap := h, toks := tk })
    (J : Nat → List Value → Led → Prop) (h0 : J 0 [] news) (hJk : ∀ i ys nx, J i ys nx → ∀ p ∈ keep, p ∈ nx)
    (turn : ∀ C D i v ys nx h tk its priv (E' : Value → Shared → Prop), i < n → Po i v priv → J i ys nx → priv.map (·.1) = adr C → Off (priv ++ ((D, lst ys) :: its)) nx → Fr h₀ L h m → News h₀ L h (nx ++ (priv ++ ((D, lst ys) :: its))) →
      wpAny (model prog w) A (cTests ifs (compEnvC scope (clf C) C env)) (fun ok s₄ => if ok = true then
        wpAny (model prog w) A (eval elt (compEnvC scope (clf C) C env)) (fun y s₅ => CEnd h₀ L m (priv ++ ((D, lst ys) :: its)) (J (i + 1) (ys ++ [y])) { s₂ with heap := h, toks := tk } s₅) E' s₄
        else CEnd h₀ L m (priv ++ ((D, lst ys) :: its)) (J (i + 1) ys) { s₂ with heap := h, toks := tk } s₄) E' { s₂ with heap := h, toks := tk })
    (hRR : ∀ D C h tk m' ys nx, (∀ p ∈ news, p.1 < D) → J n ys nx → Fr h₀ L h m → News h₀ L h ((D, lst ys) :: nx) → Off [(D, lst ys)] nx → h.Ns C m' → C ≠ L → h₀.get? C = none → C ≠ D → (∀ p ∈ nx, p.1 ≠ C) → RR (.ref D) C (.ok .next) { s₂ with heap := h, toks := tk }) :
    wpAny (model prog w) A (newList []) (fun acc s₃ => wpAny (model prog w) A (newFunctionEnv scope env.globals cl [] env.qual none .none (some env)) (fun cenv s₄ =>
      codeAny (model prog w) A (.compStart (.ListComp elt [⟨target, iter, ifs, 0⟩] scope pos) 0 (.ref I) acc { cenv with scope := relabel scope env }) (RR acc cenv.locals) s₄) E s₃) E s₂ := by
  refine hideG fun Gd hGd => ?_
  obtain ⟨fp, wr, ws, Md, St, D0, hnw, hst, hlt⟩ := S
  refine hGd ?_
  clear hGd Gd
  refine wpAny_newObj_type ?_
  generalize hD : s₂.heap.objs.size = D
  generalize hH : s₂.heap.push { cls := .type "list", dict := none, data := .seq ([] : List Value).toArray } = H
  have hHs : H.objs.size = D + 1 := by rw [← hH, Heap.size_push, hD]
  have old0 : ∀ b o, s₂.heap.get? b = some o → H.get? b = some o := fun b o e => by rw [← hH]; exact Heap.get?_push_of_some _ e
  have hDo : H.get? D = some (lst []) := by rw [← hH, ← hD]; exact Heap.get?_push_size _ rfl
  refine hnew _ _ fun h₁ tk₁ priv₁ cenv ha₁ hp₁ hv₁ hk₁ hloc hce => ?_
  dsimp only at ha₁ hk₁ hloc hce ⊢
  rw [hce, hloc]
  rw [hHs] at ha₁ ⊢
  generalize hCC : D + 1 = C at ha₁ ⊢
  have hLD : L < D := hD ▸ F.ns.lt
  have hDC : D < C := by omega
  have adrD : D ∉ adr C := fun hm => Nat.lt_irrefl _ (Nat.lt_of_lt_of_le hDC (hadr _ _ hm))
  have adrlt : ∀ b, b < D → b ∉ adr C := fun b hb hm => Nat.lt_irrefl _ (Nat.lt_of_lt_of_le (Nat.lt_trans hb hDC) (hadr _ _ hm))
  have wslt : ∀ b ∈ ws.map (·.1), b < D := fun b hb => hD ▸ hlt b (D0.inws b hb).1
  have fplt : ∀ b ∈ fp, b < D := fun b hb => hD ▸ hlt b hb
  have nelt : ∀ p ∈ news, p.1 < D := fun p hp => hD ▸ Heap.lt_size (N p hp).1
  have fr₀ : ∀ b, D ≤ b → h₀.get? b = none := fun b hb => fresh₀ F (hD ▸ hb)
  have adr₀ : ∀ a ∈ adr C, h₀.get? a = none ∧ a ≠ L := fun a ha => ⟨fr₀ a (Nat.le_trans (Nat.le_of_lt hDC) (hadr _ _ ha)), fun e => adrlt L hLD (e ▸ ha)⟩
  have priv_in : ∀ {priv : Led}, priv.map (·.1) = adr C → ∀ p ∈ priv, p.1 ∈ adr C := fun h p hp => h ▸ List.mem_map.mpr ⟨p, hp, rfl⟩
  have newsPriv : ∀ {h : Heap} {priv : Led}, priv.map (·.1) = adr C → (∀ p ∈ priv, h.get? p.1 = some p.2) → News h₀ L h priv := fun ha hv p hp => ⟨hv p hp, (adr₀ _ (priv_in ha p hp)).2, (adr₀ _ (priv_in ha p hp)).1⟩
  have wr₀ : ∀ b ∈ wr, h₀.get? b = none := fun b hb => (D0.inws b ((D0.wrws b).mp hb)).2
  have keepFr : ∀ {h h' : Heap}, Fr h₀ L h m → (∀ b o, b ∉ wr → b ∉ adr C → b ≠ D → h.get? b = some o → h'.get? b = some o) → Fr h₀ L h' m := fun F' k =>
    ⟨F'.ns.at' fun o e => k L o (fun hw => D0.off (D0.W.sub _ hw)) (adrlt L hLD) (Nat.ne_of_lt hLD) e,
      fun b o e => k b o (fun hw => by rw [wr₀ b hw] at e; cases e) (fun hw => by rw [(adr₀ b hw).1] at e; cases e) (fun q => by rw [q, fr₀ D (Nat.le_refl _)] at e; cases e) (F'.keep b o e), F'.above⟩
  have loop : ∀ s₃ : Shared, s₃ = { s₂ with heap := h₁, toks := tk₁ } →
      codeAny (model prog w) A (.compLoop (.ListComp elt [⟨target, iter, ifs, 0⟩] scope pos) 0 (.ref I) (.ref D) (compEnvC scope (clf C) C env)) (RR (.ref D) C) s₃ := by
    rintro s₃ rfl
    refine compLoop_turns (fun k s' => ∃ h' tk i ys nx priv, s' = { s₂ with heap := h', toks := tk } ∧ i ≤ n ∧ k = n + 1 - i ∧ ys.length ≤ i ∧ St i h' ∧ Fr h₀ L h' m ∧ News h₀ L h' (nx ++ (priv ++ [(D, lst ys)])) ∧
        priv.map (·.1) = adr C ∧ Pr priv ∧ (∀ p ∈ nx, p.1 ≠ D ∧ p.1 ∉ adr C ∧ p.1 ∉ ws.map (·.1)) ∧ J i ys nx) ?_ (n + 1)
      ⟨h₁, tk₁, 0, [], news, priv₁, rfl, Nat.zero_le _, rfl, Nat.le_refl _, ?_, ?_, ?_, ha₁, hp₁, ?_, h0⟩
    · intro k s' E' hp1_
      refine hideG fun Gd hGd => ?_
      obtain ⟨h', tk, i, ys, nx, priv, rfl, hi, rfl, hyl, hst', F', N', ha, hpr, hoff, hJ⟩ := hp1_
      refine hGd ?_
      clear hGd Gd
      by_cases hin : i < n
      · refine D0.W.item i _ _ _ hin hst' fun v h₂ tk₂ hMd hk₂ => ?_
        refine D0.W.go i v _ _ _ hMd fun h₃ hP hst₃ hk₃ => ?_
        have hk23 : ∀ b o, b ∉ wr → h'.get? b = some o → h₃.get? b = some o := fun b o hb e => hk₃ b o hb (hk₂ b o hb e)
        have wrlt : ∀ b ∈ wr, b < D := fun b hb => wslt b ((D0.wrws b).mp hb)
        have priv3 : ∀ p ∈ priv, h₃.get? p.1 = some p.2 := fun p hp => hk23 _ _ (fun hw => adrlt _ (wrlt _ hw) (priv_in ha p hp)) (N' p (List.mem_append_right _ (List.mem_append_left _ hp))).1
        refine hasg C i v h₃ tk₂ priv _ _ ha hpr priv3 hP fun h₄ tk₄ priv' ha' hpo hv' hk₄ => ?_
        refine hideG fun Gd hGd => ?_
        obtain ⟨its, hits, hval⟩ := D0.obj (i + 1) h₃ hst₃
        refine hGd ?_
        clear hGd Gd
        have hmap := hits.map
        have itsw : ∀ q ∈ its, q.1 ∈ ws.map (·.1) := fun q hq => hmap ▸ List.mem_map.mpr ⟨q, hq, rfl⟩
        have its4 : ∀ q ∈ its, h₄.get? q.1 = some q.2 := fun q hq => hk₄ _ _ (adrlt _ (wslt _ (itsw q hq))) (hval q hq)
        have F₄ : Fr h₀ L h₄ m := keepFr F' fun b o hb hb2 _ e => hk₄ b o hb2 (hk23 b o hb e)
        have D4 : h₄.get? D = some (lst ys) := hk₄ _ _ adrD (hk23 _ _ (fun hw => Nat.lt_irrefl _ (wrlt _ hw)) (N' (D, lst ys) (List.mem_append_right _ (List.mem_append_right _ (.head _)))).1)
        have nx4 : ∀ p ∈ nx, h₄.get? p.1 = some p.2 := fun p hp => hk₄ _ _ (hoff p hp).2.1 (hk23 _ _ (fun hw => (hoff p hp).2.2 ((D0.wrws _).mp hw)) (N' p (List.mem_append_left _ hp)).1)
        have N₄ : News h₀ L h₄ (nx ++ (priv' ++ ((D, lst ys) :: its))) := fun p hp => by
          rcases List.mem_append.mp hp with hp | hp
          · exact ⟨nx4 p hp, (N' p (List.mem_append_left _ hp)).2⟩
          · rcases List.mem_append.mp hp with hp | hp
            · exact newsPriv ha' hv' p hp
            · rcases List.mem_cons.mp hp with rfl | hp
              · exact ⟨D4, (N' _ (List.mem_append_right _ (List.mem_append_right _ (.head _)))).2⟩
              · exact ⟨its4 p hp, fun e => D0.off (e ▸ (D0.inws _ (itsw p hp)).1), (D0.inws _ (itsw p hp)).2⟩
        have off4 : Off (priv' ++ ((D, lst ys) :: its)) nx := fun p hp q hq => by
          rcases List.mem_append.mp hq with hq | hq
          · exact fun e => (hoff p hp).2.1 (e ▸ priv_in ha' q hq)
          · rcases List.mem_cons.mp hq with rfl | hq
            · exact (hoff p hp).1
            · exact fun e => (hoff p hp).2.2 (e ▸ itsw q hq)
        -- the iterator's state behind what a turn keeps
        have stay : ∀ {h₅ : Heap} {all nx' : Led} {ys' : List Value}, News h₀ L h₅ all → (∀ p ∈ priv' ++ ((D, lst ys) :: its), p ∈ all) → (∀ p ∈ nx', p ∈ all) → Fr h₀ L h₅ m → J (i + 1) ys' nx' → St (i + 1) h₅ := fun N₅ hp5 hn5 F₅ hj5 =>
          D0.W.frame _ _ _ (D0.W.frame _ _ _ hst₃ fun b hb o e => hk₄ b o (adrlt b (fplt b hb)) e) fun b hb o e => by
            rcases D0.fpin b hb with h3 | ⟨o', h3⟩
            · rw [← hmap] at h3
              refine hideG fun Gd hGd => ?_
              obtain ⟨q, hq, rfl⟩ := List.mem_map.mp h3
              refine hGd ?_
              clear hGd Gd
              have := its4 q hq
              rw [e] at this
              cases this
              exact (N₅ q (hp5 q (List.mem_append_right _ (List.mem_cons_of_mem _ hq)))).1
            · have h4 := nx4 (b, o') (hJk _ _ _ hJ _ h3)
              rw [e] at h4
              cases h4
              exact (N₅ (b, _) (hn5 _ (hJk _ _ _ hj5 _ h3))).1
        have offs : ∀ {nx' : Led}, Off (priv' ++ ((D, lst ys) :: its)) nx' → ∀ p ∈ nx', p.1 ≠ D ∧ p.1 ∉ adr C ∧ p.1 ∉ ws.map (·.1) := fun ho p hp => by
          refine ⟨ho p hp _ (List.mem_append_right _ (.head _)), fun hm => ?_, fun hm => ?_⟩
          · rw [← ha'] at hm
            refine hideG fun Gd hGd => ?_
            obtain ⟨q, hq, e⟩ := List.mem_map.mp hm
            refine hGd ?_
            clear hGd Gd
            exact ho p hp q (List.mem_append_left _ hq) e.symm
          · rw [← hmap] at hm
            refine hideG fun Gd hGd => ?_
            obtain ⟨q, hq, e⟩ := List.mem_map.mp hm
            refine hGd ?_
            clear hGd Gd
            exact ho p hp q (List.mem_append_right _ (List.mem_cons_of_mem _ hq)) e.symm
        refine wpAny_mono (turn C D i v ys nx h₄ tk₄ its priv' E' hin hpo hJ ha' off4 F₄ N₄) (fun ok s₄ h₄' => ?_) fun _ _ e => e
        cases ok with
        | true =>
          simp only [if_true] at h₄' ⊢
          refine wpAny_mono h₄' (fun y s₅ h₅' => ?_) fun _ _ e => e
          refine hideG fun Gd hGd => ?_
          obtain ⟨h₅, tk₅, all, nx', rfl, F₅, N₅, hp5, hn5, ho5, hj5⟩ := h₅'
          refine hGd ?_
          clear hGd Gd
          have zD : h₅.get? D = some (lst ys) := (N₅ _ (hp5 _ (List.mem_append_right _ (.head _)))).1
          refine append_at (hsz := by show ys.toArray.size ≤ sizeLine; rw [List.size_toArray]; exact Nat.le_trans (Nat.le_trans hyl hi) hsz) zD fun h₆ hs₆ hD₆ => ?_
          refine ⟨n + 1 - (i + 1), by omega, h₆, tk₅, i + 1, ys ++ [y], nx', priv', rfl, hin, rfl, by rw [List.length_append, List.length_singleton]; exact Nat.succ_le_succ hyl,
            D0.W.frame _ _ _ (stay N₅ hp5 hn5 F₅ hj5) fun b hb o e => hs₆.extBut b o (Nat.ne_of_lt (fplt b hb)) e, keepFr F₅ fun b o _ _ hb e => hs₆.extBut b o hb e, fun p hp => ?_, ha', hPP _ _ _ hpo, offs ho5, hj5⟩
          rcases List.mem_append.mp hp with hp | hp
          · exact ⟨hs₆.extBut _ _ (offs ho5 p hp).1 (N₅ p (hn5 p hp)).1, (N₅ p (hn5 p hp)).2⟩
          · rcases List.mem_append.mp hp with hp | hp
            · have z := N₅ p (hp5 p (List.mem_append_left _ hp))
              exact ⟨hs₆.extBut _ _ (fun e => adrD (e ▸ priv_in ha' p hp)) z.1, z.2⟩
            · rw [List.mem_singleton.mp hp]
              exact ⟨hD₆.trans (congrArg some (lst_snoc ys y)), (N₅ _ (hp5 _ (List.mem_append_right _ (.head _)))).2⟩
        | false =>
          simp only [Bool.false_eq_true, if_false] at h₄' ⊢
          refine hideG fun Gd hGd => ?_
          obtain ⟨h₅, tk₅, all, nx', rfl, F₅, N₅, hp5, hn5, ho5, hj5⟩ := h₄'
          refine hGd ?_
          clear hGd Gd
          refine ⟨n + 1 - (i + 1), by omega, h₅, tk₅, i + 1, ys, nx', priv', rfl, hin, rfl, Nat.le_succ_of_le hyl, stay N₅ hp5 hn5 F₅ hj5, F₅, fun p hp => ?_, ha', hPP _ _ _ hpo, offs ho5, hj5⟩
          rcases List.mem_append.mp hp with hp | hp
          · exact N₅ p (hn5 p hp)
          · rcases List.mem_append.mp hp with hp | hp
            · exact N₅ p (hp5 p (List.mem_append_left _ hp))
            · rw [List.mem_singleton.mp hp]
              exact N₅ _ (hp5 _ (List.mem_append_right _ (.head _)))
      · obtain rfl : i = n := Nat.le_antisymm hi (Nat.not_lt.mp hin)
        refine D0.W.done _ _ _ hst' fun h₂ tk₂ hk₂ => ?_
        refine hideG fun Gd hGd => ?_
        obtain ⟨oC, mC, hmC, hoC⟩ := hC C priv ha hpr
        refine hGd ?_
        clear hGd Gd
        have hCin : C ∈ adr C := priv_in ha _ hmC
        have wrlt : ∀ b ∈ wr, b < D := fun b hb => wslt b ((D0.wrws b).mp hb)
        have kp : ∀ p ∈ nx ++ (priv ++ [(D, lst ys)]), p.1 ∉ wr → h₂.get? p.1 = some p.2 := fun p hp hw => hk₂ _ _ hw (N' p hp).1
        refine hRR D C h₂ tk₂ mC ys nx nelt hJ (keepFr F' fun b o hb _ _ e => hk₂ b o hb e) (fun p hp => ?_) (fun p hp q hq => by rw [List.mem_singleton.mp hq]; exact (hoff p hp).1)
          (hoC.ns (kp (C, oC) (List.mem_append_right _ (List.mem_append_left _ hmC)) fun hw => adrlt _ (wrlt _ hw) hCin)) (adr₀ C hCin).2 (adr₀ C hCin).1 (Nat.ne_of_gt hDC) fun p hp e => (hoff p hp).2.1 (e ▸ hCin)
        rcases List.mem_cons.mp hp with rfl | hp
        · have hm : (D, lst ys) ∈ nx ++ (priv ++ [(D, lst ys)]) := List.mem_append_right _ (List.mem_append_right _ (.head _))
          exact ⟨kp _ hm fun hw => Nat.lt_irrefl _ (wrlt _ hw), (N' _ hm).2⟩
        · have hm : p ∈ nx ++ (priv ++ [(D, lst ys)]) := List.mem_append_left _ hp
          exact ⟨kp p hm fun hw => (hoff p hp).2.2 ((D0.wrws _).mp hw), (N' p hm).2⟩
    · exact D0.W.frame _ _ _ hst fun b _ o e => hk₁ b o (old0 b o e)
    · exact F.keeps fun b o e => hk₁ b o (old0 b o e)
    · intro p hp
      rcases List.mem_append.mp hp with hp | hp
      · exact ⟨hk₁ _ _ (old0 _ _ (N p hp).1), (N p hp).2⟩
      · rcases List.mem_append.mp hp with hp | hp
        · exact newsPriv ha₁ hv₁ p hp
        · rw [List.mem_singleton.mp hp]
          exact ⟨hk₁ _ _ hDo, fun e => Nat.lt_irrefl _ (e ▸ hLD), fr₀ D (Nat.le_refl _)⟩
    · exact fun p hp => ⟨Nat.ne_of_lt (nelt p hp), adrlt _ (nelt p hp), hnw p hp⟩
  refine codeAny_compStart_list (loop _ rfl) (D0.self 0 _ _ _ (D0.W.frame _ _ _ hst fun b _ o e => hk₁ b o (old0 b o e)) (loop _ rfl))
end
end Mine
-- part: Comp2
namespace Mine
open LCg (NsObj lst lst_snoc)

section
variable {prog : Program} {w : World} {A : Around} {E : Value → Shared → Prop} {env : Env} {h₀ : Heap} {L : Addr} {target : Expr} {m : Str → Option Value} {news : Led}

/-- a block at its iterator -/
def CompAt (prog : Program) (w : World) (A : Around) (E : Value → Shared → Prop) (env : Env) (elt target iter : Expr) (ifs : List Expr) (scope : Scope) (cl : List (Str × Addr)) (pos : Pos) (RR : Value → Addr → Result → Shared → Prop) (it : Value) (s₂ : Shared) : Prop :=
  wpAny (model prog w) A (newList []) (fun acc s₃ => wpAny (model prog w) A (newFunctionEnv scope env.globals cl [] env.qual none .none (some env)) (fun cenv s₄ =>
    codeAny (model prog w) A (.compStart (.ListComp elt [⟨target, iter, ifs, 0⟩] scope pos) 0 it acc { cenv with scope := relabel scope env }) (RR acc cenv.locals) s₄) E s₃) E s₂

theorem comp_E {s : Shared} {elt iter : Expr} {ifs : List Expr} {scope : Scope} {cl : List (Str × Addr)} {pos : Pos} {Q : Value → Shared → Prop}
    (hclos : closureFor scope env = pure cl) (hkind : scope.kind = .function) (hnames : ∀ y ∈ scope.names, y.2 = .local → scope.names.lookup y.1 = some .local)
    (h : wpAny (model prog w) A (eval iter env) (fun xv s₁ => wpAny (model prog w) A (pyIter xv) (CompAt prog w A E env elt target iter ifs scope cl pos (compPost (model prog w) A E none Q)) E s₁) E s)
    (hs : ∀ x, foldedSetIterable iter env x = pure x := by intro _; rfl) :
    wpAny (model prog w) A (eval (.ListComp elt [⟨target, iter, ifs, 0⟩] scope pos) env) Q E s := by
  rw [eval_ListComp]
  exact wpAny_comprehension_free (use := none) rfl hs hclos hkind hnames h

theorem comp_A {s : Shared} {elt iter : Expr} {ifs : List Expr} {y : Str} {py : Pos} {scope : Scope} {cl : List (Str × Addr)} {pos spos : Pos} {Q : Flow → Shared → Prop}
    (hsw : swapsWith (.ListComp elt [⟨target, iter, ifs, 0⟩] scope pos) (some (.Name y py)) spos.line env = pure true)
    (hclos : closureFor scope env = pure cl) (hkind : scope.kind = .function) (hnames : ∀ y ∈ scope.names, y.2 = .local → scope.names.lookup y.1 = some .local)
    (h : wpAny (model prog w) A (eval iter env) (fun xv s₁ => wpAny (model prog w) A (pyIter xv) (CompAt prog w A E env elt target iter ifs scope cl pos (compPost (model prog w) A E (some (assign (.Name y py) env)) fun _ s' => Q .next s')) E s₁) E s)
    (hs : ∀ x, foldedSetIterable iter env x = pure x := by intro _; rfl) :
    wpAny (model prog w) A (exec (.Assign [.Name y py] (.ListComp elt [⟨target, iter, ifs, 0⟩] scope pos) spos) env) Q E s := by
  rw [exec_Assign_Name_used _ _ _ _ hsw]
  refine wpAny_bind (wpAny_standAt (wpAny_bind ?_))
  show wpAny _ A (do let _ ← comprehension (.ListComp elt [⟨target, iter, ifs, 0⟩] scope pos) scope env _ (newList []) false (eval iter env) (some (assign (.Name y py) env))) _ _ s
  refine wpAny_bind (wpAny_mono (wpAny_comprehension_free (use := some (assign (.Name y py) env)) (Q := fun _ s' => Q .next s') rfl hs hclos hkind hnames
    h) (fun _ s' hq => wpAny_pure (wpAny_pure hq)) fun _ _ e => e)

/-- what a block hands on -/
def CRet (h₀ : Heap) (L : Addr) (m : Str → Option Value) (news : Led) (J : List Value → Led → Prop) (RR : Value → Addr → Result → Shared → Prop) (s₂ : Shared) : Prop :=
  ∀ D C h tk m' ys nx, (∀ p ∈ news, p.1 < D) → J ys nx → Fr h₀ L h m → News h₀ L h ((D, lst ys) :: nx) → Off [(D, lst ys)] nx → h.Ns C m' → C ≠ L → h₀.get? C = none → C ≠ D → (∀ p ∈ nx, p.1 ≠ C) → RR (.ref D) C (.ok .next) ⟨h, s₂.gens, s₂.drawn, tk, s₂.os⟩

theorem ret_E {hp : Heap} {tk0 : Nat} {g dr os} {J : List Value → Led → Prop} {Q : Value → Shared → Prop}
    (fin : ∀ D ys nx h tk, (∀ p ∈ news, p.1 < D) → J ys nx → Fr h₀ L h m → News h₀ L h ((D, lst ys) :: nx) → Off [(D, lst ys)] nx → Q (.ref D) ⟨h, g, dr, tk, os⟩) :
    CRet h₀ L m news J (compPost (model prog w) A E none Q) ⟨hp, g, dr, tk0, os⟩ := by
  intro D C h tk m' ys nx hf hJ F N o hn hCL hC₀ hCD hCn
  refine ⟨m', hn, fun h' hs' => fin D ys nx h' tk hf hJ (F.change hs' hCL hC₀) (fun p hp => ?_) o⟩
  refine ⟨hs'.extBut _ _ ?_ (N p hp).1, (N p hp).2⟩
  rcases List.mem_cons.mp hp with rfl | hp
  · exact Ne.symm hCD
  · exact hCn p hp
theorem ret_A {hpp : Heap} {tk0 : Nat} {g dr os} {J : List Value → Led → Prop} {Q1 : Shared → Prop} {y : Str} {py : Pos} (hL : env.locals = L) (hy : env.kindOf y = some .local) (hp : (env.scope.kind == .class || (env.scope.kind == .module && env.locals != env.globals)) = false)
    (fin : ∀ D ys nx h tk, (∀ p ∈ news, p.1 < D) → J ys nx → Fr h₀ L h (fun z => if z = y then some (.ref D) else m z) → News h₀ L h ((D, lst ys) :: nx) → Off [(D, lst ys)] nx → Q1 ⟨h, g, dr, tk, os⟩) :
    CRet h₀ L m news J (compPost (model prog w) A E (some (assign (.Name y py) env)) fun _ s' => Q1 s') ⟨hpp, g, dr, tk0, os⟩ := by
  subst hL
  intro D C h tk m' ys nx hf hJ F N o hn hCL hC₀ hCD hCn
  show wpAny _ A (assign (.Name y py) env (.ref D)) _ _ _
  refine wpAny_assign_Name (wpAny_storeName_local hy F.ns (fun h₂ hn₂ hs₂ => ?_) hp)
  have F₂ : Fr h₀ env.locals h₂ (fun z => if z = y then some (.ref D) else m z) := F.set hn₂ hs₂
  refine ⟨m', hn.sameBut hs₂ hCL, fun h'' hs'' => fin D ys nx h'' _ hf hJ (F₂.change hs'' hCL hC₀) (fun p hp => ?_) o⟩
  have z : h₂.get? p.1 = some p.2 := hs₂.extBut _ _ (N p hp).2.1 (N p hp).1
  refine ⟨hs''.extBut _ _ ?_ z, (N p hp).2⟩
  rcases List.mem_cons.mp hp with rfl | hp
  · exact Ne.symm hCD
  · exact hCn p hp

theorem newEnv_plain {s₃ : Shared} {scope : Scope} {cl : List (Str × Addr)} {Q' : Env → Shared → Prop} (hcell : ∀ y ∈ scope.names, y.2 ≠ .cell) (hkind : scope.kind = .function)
    (h : ∀ h₁ tk priv (cenv : Env), priv.map (·.1) = [s₃.heap.objs.size] → (∃ C oC m', priv = [(C, oC)] ∧ NsObj oC m') → (∀ p ∈ priv, h₁.get? p.1 = some p.2) → (∀ b o, s₃.heap.get? b = some o → h₁.get? b = some o) →
        cenv.locals = s₃.heap.objs.size → { cenv with scope := relabel scope env } = compEnvC scope cl s₃.heap.objs.size env → Q' cenv { s₃ with heap := h₁, toks := tk }) :
    wpAny (model prog w) A (newFunctionEnv scope env.globals cl [] env.qual none .none (some env)) Q' E s₃ := by
  refine wpAny_newFunctionEnv hcell (by intro y hy; simp at hy) (fun h₁ hns₁ hsb₁ => ?_) hkind
  refine hideG fun Gd hGd => ?_
  obtain ⟨oC, heC, hoC⟩ := LCg.ns_obj hns₁
  refine hGd ?_
  clear hGd Gd
  refine h h₁ _ [(s₃.heap.objs.size, oC)] _ rfl ⟨_, oC, _, rfl, hoC⟩ (fun p hp => by rw [List.mem_singleton.mp hp]; exact heC) (fun b o e => ?_) rfl rfl
  exact hsb₁.extBut b o (Nat.ne_of_lt (Heap.lt_size e)) (Heap.get?_push_of_some _ e)

/-- a block over one plain name -/
theorem comp_local {elt iter : Expr} {ifs : List Expr} {x : Str} {px : Pos} {scope : Scope} {cl : List (Str × Addr)} {pos : Pos} {hp : Heap} {tk0 : Nat} {g dr os} {keep : Led} {I : Addr} {n : Nat} {P : Nat → Value → Prop} {RR : Value → Addr → Result → Shared → Prop}
    (S : Src prog w A h₀ L (.Name x px) keep I n (fun i v _ => P i v) news hp) (hsz : n ≤ sizeLine) (F : Fr h₀ L hp m) (N : News h₀ L hp news)
    (hcell : ∀ y ∈ scope.names, y.2 ≠ .cell) (hkind : scope.kind = .function) (hx : scope.names.lookup x = some .local)
    (J : Nat → List Value → Led → Prop) (h0 : J 0 [] news) (hJk : ∀ i ys nx, J i ys nx → ∀ p ∈ keep, p ∈ nx)
    (turn : ∀ C D i v ys nx h tk its oC m₂ (E' : Value → Shared → Prop), i < n → P i v → NsObj oC m₂ → m₂ x = some v → J i ys nx → Off ((C, oC) :: (D, lst ys) :: its) nx → Fr h₀ L h m → News h₀ L h (nx ++ ((C, oC) :: (D, lst ys) :: its)) →
      ∀ (Qc : Value → Shared → Prop) (Qf : Shared → Prop), (∀ y s₅, CEnd h₀ L m ((C, oC) :: (D, lst ys) :: its) (J (i + 1) (ys ++ [y])) ⟨h, g, dr, tk, os⟩ s₅ → Qc y s₅) → (∀ s₄, CEnd h₀ L m ((C, oC) :: (D, lst ys) :: its) (J (i + 1) ys) ⟨h, g, dr, tk, os⟩ s₄ → Qf s₄) →
      wpAny (model prog w) A (cTests ifs (compEnvC scope cl C env)) (fun ok s₄ => if ok = true then wpAny (model prog w) A (eval elt (compEnvC scope cl C env)) Qc E' s₄ else Qf s₄) E' ⟨h, g, dr, tk, os⟩)
    (hRR : CRet h₀ L m news (J n) RR ⟨hp, g, dr, tk0, os⟩) :
    CompAt prog w A E env elt (.Name x px) iter ifs scope cl pos RR (.ref I) ⟨hp, g, dr, tk0, os⟩ := by
  refine comp_core S hsz F N (fun _ => cl) (fun C => [C]) (fun priv => ∃ C oC m', priv = [(C, oC)] ∧ NsObj oC m') (fun i v priv => ∃ C oC m', priv = [(C, oC)] ∧ NsObj oC m' ∧ m' x = some v ∧ P i v) (fun C a ha => Nat.le_of_eq (List.mem_singleton.mp ha).symm)
    (fun s₃ Q' h => newEnv_plain hcell hkind h) ?_ ?_ ?_ J h0 hJk ?_ hRR
  · intro C priv ha hp1_
    refine hideG fun Gd hGd => ?_
    obtain ⟨C', oC, m', rfl, hn⟩ := hp1_
    refine hGd ?_
    clear hGd Gd
    have e : C' = C := by simpa using ha
    subst e
    exact ⟨oC, m', .head _, hn⟩
  · intro i v priv hp1_
    refine hideG fun Gd hGd => ?_
    obtain ⟨C, oC, m', e, hn, _, _⟩ := hp1_
    refine hGd ?_
    clear hGd Gd
    exact ⟨C, oC, m', e, hn⟩
  · intro C i v h tk priv Q' E' ha hp1_ hv hP hQ
    refine hideG fun Gd hGd => ?_
    obtain ⟨C', oC, m', rfl, hn⟩ := hp1_
    refine hGd ?_
    clear hGd Gd
    have e : C' = C := by simpa using ha
    subst e
    have hns : h.Ns C' m' := hn.ns (hv _ (.head _))
    refine wpAny_assign_Name (wpAny_storeName_local (lookup_relabel_local hx) hns (fun h₃ hn₃ hs₃ => ?_) (by simp [compEnvC, relabel, hkind]))
    refine hideG fun Gd hGd => ?_
    obtain ⟨oC', heC, hoC⟩ := LCg.ns_obj hn₃
    refine hGd ?_
    clear hGd Gd
    exact hQ h₃ _ [(C', oC')] rfl ⟨_, _, _, rfl, hoC, by simp, hP⟩ (fun p hp => by rw [List.mem_singleton.mp hp]; exact heC) fun b o hb e => hs₃.extBut b o (fun q => hb (List.mem_singleton.mpr q)) e
  · intro C D i v ys nx h tk its priv E' hi hp1_ hJ ha ho F N
    refine hideG fun Gd hGd => ?_
    obtain ⟨C', oC, m', rfl, hn, hx', hP⟩ := hp1_
    refine hGd ?_
    clear hGd Gd
    have e : C' = C := by simpa using ha
    subst e
    exact turn C' D i v ys nx h tk its oC m' E' hi hP hn hx' hJ ho F N _ _ (fun _ _ h => h) fun _ h => h

/-- a block over a pair of plain names -/
theorem comp_pair {elt iter : Expr} {ifs : List Expr} {x x₂ : Str} {px px₂ tp : Pos} {kk : Nat} {scope : Scope} {cl : List (Str × Addr)} {pos : Pos} {hp : Heap} {tk0 : Nat} {g dr os} {keep : Led} {I : Addr} {n : Nat} {vs : List Value} {RR : Value → Addr → Result → Shared → Prop}
    (hh : A.handled = none)
    (S : Src prog w A h₀ L (.Tuple [.Name x px, .Name x₂ px₂] kk tp) keep I n (fun i v h => ∃ T t y, v = .ref T ∧ vs[i]? = some y ∧ IsTup h T #[.int (i : Int) t, y]) news hp) (hsz : n ≤ sizeLine) (F : Fr h₀ L hp m) (N : News h₀ L hp news)
    (hcell : ∀ y ∈ scope.names, y.2 ≠ .cell) (hkind : scope.kind = .function) (hx : scope.names.lookup x = some .local) (hx₂ : scope.names.lookup x₂ = some .local) (hxx : x ≠ x₂)
    (J : Nat → List Value → Led → Prop) (h0 : J 0 [] news) (hJk : ∀ i ys nx, J i ys nx → ∀ p ∈ keep, p ∈ nx)
    (turn : ∀ C D i y t ys nx h tk its oC m₂ (E' : Value → Shared → Prop), i < n → vs[i]? = some y → NsObj oC m₂ → m₂ x = some (.int (i : Int) t) → m₂ x₂ = some y → J i ys nx → Off ((C, oC) :: (D, lst ys) :: its) nx → Fr h₀ L h m → News h₀ L h (nx ++ ((C, oC) :: (D, lst ys) :: its)) →
      ∀ (Qc : Value → Shared → Prop) (Qf : Shared → Prop), (∀ y s₅, CEnd h₀ L m ((C, oC) :: (D, lst ys) :: its) (J (i + 1) (ys ++ [y])) ⟨h, g, dr, tk, os⟩ s₅ → Qc y s₅) → (∀ s₄, CEnd h₀ L m ((C, oC) :: (D, lst ys) :: its) (J (i + 1) ys) ⟨h, g, dr, tk, os⟩ s₄ → Qf s₄) →
      wpAny (model prog w) A (cTests ifs (compEnvC scope cl C env)) (fun ok s₄ => if ok = true then wpAny (model prog w) A (eval elt (compEnvC scope cl C env)) Qc E' s₄ else Qf s₄) E' ⟨h, g, dr, tk, os⟩)
    (hRR : CRet h₀ L m news (J n) RR ⟨hp, g, dr, tk0, os⟩) :
    CompAt prog w A E env elt (.Tuple [.Name x px, .Name x₂ px₂] kk tp) iter ifs scope cl pos RR (.ref I) ⟨hp, g, dr, tk0, os⟩ := by
  refine comp_core S hsz F N (fun _ => cl) (fun C => [C]) (fun priv => ∃ C oC m', priv = [(C, oC)] ∧ NsObj oC m') (fun i v priv => ∃ C oC m' t y, priv = [(C, oC)] ∧ NsObj oC m' ∧ m' x = some (.int (i : Int) t) ∧ m' x₂ = some y ∧ vs[i]? = some y) (fun C a ha => Nat.le_of_eq (List.mem_singleton.mp ha).symm)
    (fun s₃ Q' h => newEnv_plain hcell hkind h) ?_ ?_ ?_ J h0 hJk ?_ hRR
  · intro C priv ha hp1_
    refine hideG fun Gd hGd => ?_
    obtain ⟨C', oC, m', rfl, hn⟩ := hp1_
    refine hGd ?_
    clear hGd Gd
    have e : C' = C := by simpa using ha
    subst e
    exact ⟨oC, m', .head _, hn⟩
  · intro i v priv hp1_
    refine hideG fun Gd hGd => ?_
    obtain ⟨C, oC, m', t, y, e, hn, _⟩ := hp1_
    refine hGd ?_
    clear hGd Gd
    exact ⟨C, oC, m', e, hn⟩
  · intro C i v h tk priv Q' E' ha hp1_ hv hp2_ hQ
    refine hideG fun Gd hGd => ?_
    obtain ⟨C', oC, m', rfl, hn⟩ := hp1_
    obtain ⟨T, t, y, rfl, hy, hT⟩ := hp2_
    refine hGd ?_
    clear hGd Gd
    have e : C' = C := by simpa using ha
    subst e
    have hns : h.Ns C' m' := hn.ns (hv _ (.head _))
    refine assign_Tuple_tuple hh hT rfl rfl fun h₅ he => ?_
    have he' : ∀ b o, h.get? b = some o → h₅.get? b = some o := fun b o e => he b o (Nat.ne_of_lt (Heap.lt_size e)) e
    refine assignInOrder_cons (wpAny_assign_Name (wpAny_storeName_local (lookup_relabel_local hx) (hns.at' fun o e => he' _ o e) (fun h₆ hn₆ hs₆ => ?_) (by simp [compEnvC, relabel, hkind])))
    refine assignInOrder_cons (wpAny_assign_Name (wpAny_storeName_local (lookup_relabel_local hx₂) hn₆ (fun h₃ hn₃ hs₃ => ?_) (by simp [compEnvC, relabel, hkind])))
    refine assignInOrder_nil ?_
    refine hideG fun Gd hGd => ?_
    obtain ⟨oC', heC, hoC⟩ := LCg.ns_obj hn₃
    refine hGd ?_
    clear hGd Gd
    exact hQ h₃ _ [(C', oC')] rfl ⟨_, _, _, t, y, rfl, hoC, by simp [hxx], by simp, hy⟩ (fun p hp => by rw [List.mem_singleton.mp hp]; exact heC) fun b o hb e => hs₃.extBut b o (fun q => hb (List.mem_singleton.mpr q)) (hs₆.extBut b o (fun q => hb (List.mem_singleton.mpr q)) (he' b o e))
  · intro C D i v ys nx h tk its priv E' hi hp1_ hJ ha ho F N
    refine hideG fun Gd hGd => ?_
    obtain ⟨C', oC, m', t, y, rfl, hn, hx', hx₂', hy⟩ := hp1_
    refine hGd ?_
    clear hGd Gd
    have e : C' = C := by simpa using ha
    subst e
    exact turn C' D i y t ys nx h tk its oC m' E' hi hy hn hx' hx₂' hJ ho F N _ _ (fun _ _ h => h) fun _ h => h

/-- a block over one name that an inner block holds -/
theorem newEnv_cell {s₃ : Shared} {scope : Scope} {cl : List (Str × Addr)} {Q' : Env → Shared → Prop} {x : Str} (hcf : ∀ k, cellsFrom k scope.names cl = (x, k) :: cl) (hpc : ∀ h, pushCells h scope.names = h.push { cls := .type "cell", data := .cell none })
    (h : ∀ h₁ tk priv (cenv : Env), priv.map (·.1) = [s₃.heap.objs.size, s₃.heap.objs.size + 1] → (∃ C oC m' c oc v₀, priv = [(C, oC), (c, oc)] ∧ NsObj oC m' ∧ oc.data = .cell v₀) → (∀ p ∈ priv, h₁.get? p.1 = some p.2) → (∀ b o, s₃.heap.get? b = some o → h₁.get? b = some o) →
        cenv.locals = s₃.heap.objs.size → { cenv with scope := relabel scope env } = compEnvC scope ((x, s₃.heap.objs.size + 1) :: cl) s₃.heap.objs.size env → Q' cenv { s₃ with heap := h₁, toks := tk }) :
    wpAny (model prog w) A (newFunctionEnv scope env.globals cl [] env.qual none .none (some env)) Q' E s₃ := by
  simp only [newFunctionEnv, Option.isSome_some, if_true]
  refine wpAny_bind (wpAny_alloc ?_)
  refine wpAny_bind (wpAny_layCells _ (fun name kind cells => by cases kind == NameKind.cell <;> simp) _ _ _ _ ?_)
  rw [show ({ s₃ with heap := s₃.heap.push { cls := .type "dict", data := .dict #[] } } : Shared).heap.objs.size = s₃.heap.objs.size + 1 from Heap.size_push .., hcf, hpc]
  refine wpAny_bind ?_
  rw [List.forIn_nil]
  refine wpAny_pure (wpAny_pure ?_)
  have hns := Heap.Ns.new s₃.heap (.type "dict")
  refine hideG fun Gd hGd => ?_
  obtain ⟨oC, heC, hoC⟩ := LCg.ns_obj hns
  refine hGd ?_
  clear hGd Gd
  refine h _ _ [(s₃.heap.objs.size, oC), (s₃.heap.objs.size + 1, { cls := .type "cell", data := .cell none })] _ rfl ⟨_, _, _, _, _, _, rfl, hoC, rfl⟩ (fun p hp => ?_) (fun b o e => Heap.get?_push_of_some _ (Heap.get?_push_of_some _ e)) rfl rfl
  rcases List.mem_cons.mp hp with rfl | hp
  · exact Heap.get?_push_of_some _ heC
  · rw [List.mem_singleton.mp hp]
    have := Heap.get?_push_size (s₃.heap.push { cls := .type "dict", data := .dict #[] }) (o := { cls := .type "cell", data := .cell none }) rfl
    rw [Heap.size_push] at this
    exact this

theorem comp_cell {elt iter : Expr} {ifs : List Expr} {x : Str} {px : Pos} {scope : Scope} {cl : List (Str × Addr)} {pos : Pos} {hp : Heap} {tk0 : Nat} {g dr os} {keep : Led} {I : Addr} {n : Nat} {P : Nat → Value → Prop} {RR : Value → Addr → Result → Shared → Prop}
    (S : Src prog w A h₀ L (.Name x px) keep I n (fun i v _ => P i v) news hp) (hsz : n ≤ sizeLine) (F : Fr h₀ L hp m) (N : News h₀ L hp news)
    (hcf : ∀ k, cellsFrom k scope.names cl = (x, k) :: cl) (hpc : ∀ h, pushCells h scope.names = h.push { cls := .type "cell", data := .cell none }) (hkind : scope.kind = .function) (hx : (relabel scope env).names.lookup x = some .cell)
    (J : Nat → List Value → Led → Prop) (h0 : J 0 [] news) (hJk : ∀ i ys nx, J i ys nx → ∀ p ∈ keep, p ∈ nx)
    (turn : ∀ C c D i v ys nx h tk its oC m₂ oc (E' : Value → Shared → Prop), i < n → P i v → NsObj oC m₂ → oc.data = .cell (some v) → J i ys nx → Off ((C, oC) :: (c, oc) :: (D, lst ys) :: its) nx → Fr h₀ L h m → News h₀ L h (nx ++ ((C, oC) :: (c, oc) :: (D, lst ys) :: its)) →
      ∀ (Qc : Value → Shared → Prop) (Qf : Shared → Prop), (∀ y s₅, CEnd h₀ L m ((C, oC) :: (c, oc) :: (D, lst ys) :: its) (J (i + 1) (ys ++ [y])) ⟨h, g, dr, tk, os⟩ s₅ → Qc y s₅) → (∀ s₄, CEnd h₀ L m ((C, oC) :: (c, oc) :: (D, lst ys) :: its) (J (i + 1) ys) ⟨h, g, dr, tk, os⟩ s₄ → Qf s₄) →
      wpAny (model prog w) A (cTests ifs (compEnvC scope ((x, c) :: cl) C env)) (fun ok s₄ => if ok = true then wpAny (model prog w) A (eval elt (compEnvC scope ((x, c) :: cl) C env)) Qc E' s₄ else Qf s₄) E' ⟨h, g, dr, tk, os⟩)
    (hRR : CRet h₀ L m news (J n) RR ⟨hp, g, dr, tk0, os⟩) :
    CompAt prog w A E env elt (.Name x px) iter ifs scope cl pos RR (.ref I) ⟨hp, g, dr, tk0, os⟩ := by
  refine comp_core S hsz F N (fun C => (x, C + 1) :: cl) (fun C => [C, C + 1]) (fun priv => ∃ C oC m' c oc v₀, priv = [(C, oC), (c, oc)] ∧ NsObj oC m' ∧ oc.data = .cell v₀) (fun i v priv => ∃ C oC m' c oc, priv = [(C, oC), (c, oc)] ∧ NsObj oC m' ∧ oc.data = .cell (some v) ∧ P i v) (fun C a ha => ?_)
    (fun s₃ Q' h => newEnv_cell hcf hpc h) ?_ ?_ ?_ J h0 hJk ?_ hRR
  · rcases List.mem_cons.mp ha with rfl | ha
    · exact Nat.le_refl _
    · rw [List.mem_singleton.mp ha]; exact Nat.le_succ _
  · intro C priv ha hp1_
    refine hideG fun Gd hGd => ?_
    obtain ⟨C', oC, m', c, oc, v₀, rfl, hn, _⟩ := hp1_
    have e : C' = C ∧ c = C + 1 := by simpa using ha
    obtain ⟨rfl, rfl⟩ := e
    refine hGd ?_
    clear hGd Gd
    exact ⟨oC, m', .head _, hn⟩
  · intro i v priv hp1_
    refine hideG fun Gd hGd => ?_
    obtain ⟨C, oC, m', c, oc, e, hn, hd, _⟩ := hp1_
    refine hGd ?_
    clear hGd Gd
    exact ⟨C, oC, m', c, oc, _, e, hn, hd⟩
  · intro C i v h tk priv Q' E' ha hp1_ hv hP hQ
    refine hideG fun Gd hGd => ?_
    obtain ⟨C', oC, m', c, oc, v₀, rfl, hn, hd⟩ := hp1_
    have e : C' = C ∧ c = C + 1 := by simpa using ha
    obtain ⟨rfl, rfl⟩ := e
    refine hGd ?_
    clear hGd Gd
    refine wpAny_assign_Name (wpAny_storeName_cell (c := C' + 1) (v₀ := v₀) hkind hx (by simp [compEnvC]) ⟨oc, hv (C' + 1, oc) (.tail _ (.head _)), hd⟩ fun h₃ hc₃ hs₃ => ?_)
    refine hideG fun Gd hGd => ?_
    obtain ⟨oc', heC, hoC⟩ := hc₃
    refine hGd ?_
    clear hGd Gd
    have hne : C' ≠ C' + 1 := Nat.ne_of_lt (Nat.lt_succ_self _)
    refine hQ h₃ _ [(C', oC), (C' + 1, oc')] rfl ⟨_, _, _, _, _, rfl, hn, hoC, hP⟩ (fun p hp => ?_) fun b o hb e => hs₃.extBut b o (fun q => hb (by rw [q]; simp)) e
    rcases List.mem_cons.mp hp with rfl | hp
    · exact hs₃.extBut _ _ hne (hv (C', oC) (.head _))
    · rw [List.mem_singleton.mp hp]; exact heC
  · intro C D i v ys nx h tk its priv E' hi hp1_ hJ ha ho F N
    refine hideG fun Gd hGd => ?_
    obtain ⟨C', oC, m', c, oc, rfl, hn, hd, hP⟩ := hp1_
    have e : C' = C ∧ c = C + 1 := by simpa using ha
    obtain ⟨rfl, rfl⟩ := e
    refine hGd ?_
    clear hGd Gd
    exact turn C' (C' + 1) D i v ys nx h tk its oC m' oc E' hi hP hn hd hJ ho F N _ _ (fun _ _ h => h) fun _ h => h

theorem tests0 {cenv : Env} {Q1 : Shared → Prop} {Qv : Value → Shared → Prop} {s : Shared} {elt : Expr} (h : wpAny (model prog w) A (eval elt cenv) Qv E s) :
    wpAny (model prog w) A (cTests [] cenv) (fun ok s₄ => if ok = true then wpAny (model prog w) A (eval elt cenv) Qv E s₄ else Q1 s₄) E s :=
  wpAny_tests_nil (by simpa using h)
theorem tests1 {cenv : Env} {c : Expr} {Q1 : Shared → Prop} {Qv : Value → Shared → Prop} {s : Shared} {elt : Expr}
    (h : wpAny (model prog w) A (isTrue c cenv (eval c cenv)) (fun ok s₄ => if ok = true then wpAny (model prog w) A (eval elt cenv) Qv E s₄ else Q1 s₄) E s) :
    wpAny (model prog w) A (cTests [c] cenv) (fun ok s₄ => if ok = true then wpAny (model prog w) A (eval elt cenv) Qv E s₄ else Q1 s₄) E s :=
  wpAny_tests_one h

section
variable {s : Shared} {elt iter : Expr} {ifs : List Expr} {scope : Scope} {cl : List (Str × Addr)} {pos : Pos} {RR : Value → Addr → Result → Shared → Prop}
theorem srcC_list {hp : Heap} {tk0 : Nat} {g dr os} {ax : Addr} {vs : List Value} {k : Nat} (hh : A.handled = none) (F : Fr h₀ L hp m) (N : News h₀ L hp news) (hm : (ax, listOf vs.toArray k) ∈ news)
    (h : ∀ I h', Src prog w A h₀ L target [(ax, listOf vs.toArray k)] I vs.length (fun i v _ => vs[i]? = some v) news h' → Fr h₀ L h' m → News h₀ L h' news → CompAt prog w A E env elt target iter ifs scope cl pos RR (.ref I) ⟨h', g, dr, tk0, os⟩) :
    wpAny (model prog w) A (pyIter (.ref ax)) (CompAt prog w A E env elt target iter ifs scope cl pos RR) E ⟨hp, g, dr, tk0, os⟩ := src_list (s := ⟨hp, g, dr, tk0, os⟩) hh F N hm h
theorem srcC_range {hp : Heap} {tk0 : Nat} {g dr os} {r : Addr} {a b : Int} {t u v : Tok} {n : Nat} {x : Str} {px : Pos} (hh : A.handled = none) (F : Fr h₀ L hp m) (N : News h₀ L hp news)
    (hr : IsRange hp r a b 1 t u v) (ha : -(2 ^ 62) ≤ a) (ha' : a < 2 ^ 62) (hb : -(2 ^ 62) ≤ b) (hb' : b < 2 ^ 62) (hn : n = (b - a).toNat)
    (h : ∀ I h', Src prog w A h₀ L (.Name x px) [] I n (fun i v _ => ∃ t, v = .int (a + (i : Int)) t) news h' → Fr h₀ L h' m → News h₀ L h' news → CompAt prog w A E env elt (.Name x px) iter ifs scope cl pos RR (.ref I) ⟨h', g, dr, tk0, os⟩) :
    wpAny (model prog w) A (pyIter (.ref r)) (CompAt prog w A E env elt (.Name x px) iter ifs scope cl pos RR) E ⟨hp, g, dr, tk0, os⟩ := src_range (s := ⟨hp, g, dr, tk0, os⟩) hh F N hr ha ha' hb hb' hn (fun _ _ => rfl) h
theorem srcC_enum {hp : Heap} {tk0 : Nat} {g dr os} {elts : List Expr} {kk : Nat} {tp : Pos} {l e it : Addr} {vs : List Value} {k : Nat} (hh : A.handled = none) (F : Fr h₀ L hp m) (N : News h₀ L hp news) (hm : (l, listOf vs.toArray k) ∈ news)
    (hE : IsEnum hp e it 0 .none) (hI : hp.IsListIter it l 0) (he : e = it + 1) (hlt : ∀ p ∈ news, p.1 < it) (hL : L < it) (h1 : h₀.get? e = none) (h2 : h₀.get? it = none)
    (h : Src prog w A h₀ L (.Tuple elts kk tp) [(l, listOf vs.toArray k)] e vs.length (fun i v h => ∃ T t x, v = .ref T ∧ vs[i]? = some x ∧ IsTup h T #[.int (i : Int) t, x]) news hp → CompAt prog w A E env elt (.Tuple elts kk tp) iter ifs scope cl pos RR (.ref e) ⟨hp, g, dr, tk0, os⟩) :
    wpAny (model prog w) A (pyIter (.ref e)) (CompAt prog w A E env elt (.Tuple elts kk tp) iter ifs scope cl pos RR) E ⟨hp, g, dr, tk0, os⟩ := src_enum (s := ⟨hp, g, dr, tk0, os⟩) hh F N hm hE hI he hlt hL h1 h2 h
end
section
variable {s : Shared} {body : List Stmt} {Q : Flow → Shared → Prop}
theorem srcF_list {hp : Heap} {tk0 : Nat} {g dr os} {ax : Addr} {vs : List Value} {k : Nat} (hh : A.handled = none) (F : Fr h₀ env.locals hp m) (N : News h₀ env.locals hp news) (hm : (ax, listOf vs.toArray k) ∈ news)
    (h : ∀ I h', Src prog w A h₀ env.locals target [(ax, listOf vs.toArray k)] I vs.length (fun i v _ => vs[i]? = some v) news h' → Fr h₀ env.locals h' m → News h₀ env.locals h' news → TurnsAt prog w A h₀ env target body Q E (.ref I) ⟨h', g, dr, tk0, os⟩) :
    wpAny (model prog w) A (pyIter (.ref ax)) (fun it s₂ => TurnsAt prog w A h₀ env target body Q E it s₂) E ⟨hp, g, dr, tk0, os⟩ := src_list (s := ⟨hp, g, dr, tk0, os⟩) hh F N hm h
theorem srcF_range {hp : Heap} {tk0 : Nat} {g dr os} {r : Addr} {a b : Int} {t u v : Tok} {n : Nat} {x : Str} {px : Pos} (hh : A.handled = none) (F : Fr h₀ env.locals hp m) (N : News h₀ env.locals hp news)
    (hr : IsRange hp r a b 1 t u v) (ha : -(2 ^ 62) ≤ a) (ha' : a < 2 ^ 62) (hb : -(2 ^ 62) ≤ b) (hb' : b < 2 ^ 62) (hn : n = (b - a).toNat)
    (h : ∀ I h', Src prog w A h₀ env.locals (.Name x px) [] I n (fun i v _ => ∃ t, v = .int (a + (i : Int)) t) news h' → Fr h₀ env.locals h' m → News h₀ env.locals h' news → TurnsAt prog w A h₀ env (.Name x px) body Q E (.ref I) ⟨h', g, dr, tk0, os⟩) :
    wpAny (model prog w) A (pyIter (.ref r)) (fun it s₂ => TurnsAt prog w A h₀ env (.Name x px) body Q E it s₂) E ⟨hp, g, dr, tk0, os⟩ := src_range (s := ⟨hp, g, dr, tk0, os⟩) hh F N hr ha ha' hb hb' hn (fun _ _ => rfl) h
theorem srcF_enum {hp : Heap} {tk0 : Nat} {g dr os} {elts : List Expr} {kk : Nat} {tp : Pos} {l e it : Addr} {vs : List Value} {k : Nat} (hh : A.handled = none) (F : Fr h₀ env.locals hp m) (N : News h₀ env.locals hp news) (hm : (l, listOf vs.toArray k) ∈ news)
    (hE : IsEnum hp e it 0 .none) (hI : hp.IsListIter it l 0) (he : e = it + 1) (hlt : ∀ p ∈ news, p.1 < it) (hL : env.locals < it) (h1 : h₀.get? e = none) (h2 : h₀.get? it = none)
    (h : Src prog w A h₀ env.locals (.Tuple elts kk tp) [(l, listOf vs.toArray k)] e vs.length (fun i v h => ∃ T t x, v = .ref T ∧ vs[i]? = some x ∧ IsTup h T #[.int (i : Int) t, x]) news hp → TurnsAt prog w A h₀ env (.Tuple elts kk tp) body Q E (.ref e) ⟨hp, g, dr, tk0, os⟩) :
    wpAny (model prog w) A (pyIter (.ref e)) (fun it s₂ => TurnsAt prog w A h₀ env (.Tuple elts kk tp) body Q E it s₂) E ⟨hp, g, dr, tk0, os⟩ := src_enum (s := ⟨hp, g, dr, tk0, os⟩) hh F N hm hE hI he hlt hL h1 h2 h
end
end
end Mine
-- part: Data
namespace Mine

def All2 {α β : Type} (R : α → β → Prop) : List α → List β → Prop
  | [], [] => True
  | a :: as, b :: bs => R a b ∧ All2 R as bs
  | _, _ => False
section
variable {α β : Type} {R R' : α → β → Prop}
theorem All2.length : ∀ {as : List α} {bs : List β}, All2 R as bs → as.length = bs.length
  | [], [], _ => rfl
  | _ :: _, _ :: _, h => congrArg (· + 1) (All2.length h.2)
  | [], _ :: _, h => h.elim
  | _ :: _, [], h => h.elim
theorem All2.mono (hR : ∀ a b, R a b → R' a b) : ∀ {as : List α} {bs : List β}, All2 R as bs → All2 R' as bs
  | [], [], _ => trivial
  | _ :: _, _ :: _, h => ⟨hR _ _ h.1, All2.mono hR h.2⟩
  | [], _ :: _, h => h.elim
  | _ :: _, [], h => h.elim
theorem All2.get : ∀ {as : List α} {bs : List β}, All2 R as bs → ∀ {i : Nat} {a : α}, as[i]? = some a → ∃ b, bs[i]? = some b ∧ R a b
  | [], [], _, i, a, h => by simp at h
  | x :: _, y :: _, h, 0, a, e => by
    have e' : x = a := by simpa using e
    exact ⟨y, rfl, e' ▸ h.1⟩
  | _ :: _, _ :: _, h, i + 1, a, e => All2.get (i := i) h.2 (by simpa using e)
  | [], _ :: _, h, _, _, _ => h.elim
  | _ :: _, [], h, _, _, _ => h.elim
theorem All2.get' {as : List α} {bs : List β} (h : All2 R as bs) {i : Nat} {b : β} (e : bs[i]? = some b) : ∃ a, as[i]? = some a ∧ R a b := by
  have hi : i < bs.length := by
    rcases Nat.lt_or_ge i bs.length with h1 | h1
    · exact h1
    · rw [List.getElem?_eq_none h1] at e; cases e
  have hi' : i < as.length := by rw [h.length]; exact hi
  obtain ⟨b', e', hr⟩ := h.get (List.getElem?_eq_getElem hi')
  rw [e] at e'
  cases e'
  exact ⟨_, List.getElem?_eq_getElem hi', hr⟩
theorem All2.append : ∀ {as : List α} {bs : List β} {cs : List α} {ds : List β}, All2 R as bs → All2 R cs ds → All2 R (as ++ cs) (bs ++ ds)
  | [], [], _, _, _, h => h
  | _ :: _, _ :: _, _, _, h, k => ⟨h.1, All2.append h.2 k⟩
  | [], _ :: _, _, _, h, _ => h.elim
  | _ :: _, [], _, _, h, _ => h.elim
theorem All2.snoc {as : List α} {bs : List β} {a : α} {b : β} (h : All2 R as bs) (k : R a b) : All2 R (as ++ [a]) (bs ++ [b]) := h.append ⟨k, trivial⟩
theorem All2.set : ∀ {as : List α} {bs : List β} (i : Nat) {a : α} {b : β}, All2 R as bs → R a b → All2 R (as.set i a) (bs.set i b)
  | [], [], _, _, _, _, _ => trivial
  | _ :: _, _ :: _, 0, _, _, h, k => ⟨k, h.2⟩
  | _ :: _, _ :: _, i + 1, _, _, h, k => ⟨h.1, All2.set i h.2 k⟩
  | [], _ :: _, _, _, _, h, _ => h.elim
  | _ :: _, [], _, _, _, h, _ => h.elim
theorem All2.take : ∀ {as : List α} {bs : List β} (k : Nat), All2 R as bs → All2 R (as.take k) (bs.take k)
  | _, _, 0, _ => trivial
  | [], [], _ + 1, _ => trivial
  | _ :: _, _ :: _, k + 1, h => ⟨h.1, All2.take k h.2⟩
  | [], _ :: _, _, h => h.elim
  | _ :: _, [], _, h => h.elim
theorem All2.drop : ∀ {as : List α} {bs : List β} (k : Nat), All2 R as bs → All2 R (as.drop k) (bs.drop k)
  | _, _, 0, h => h
  | [], [], _ + 1, _ => trivial
  | _ :: _, _ :: _, k + 1, h => All2.drop k h.2
  | [], _ :: _, _, h => h.elim
  | _ :: _, [], _, h => h.elim
end

/-- a list of the ledger whose items bear xs -/
def LiAt {α : Type} (news : Led) (R : Value → α → Prop) (v : Value) (xs : List α) : Prop := ∃ a vs k, v = .ref a ∧ (a, listOf vs.toArray k) ∈ news ∧ All2 R vs xs
theorem LiAt.mono {α : Type} {news news' : Led} {R R' : Value → α → Prop} {v : Value} {xs : List α} (h : LiAt news R v xs) (hs : ∀ p ∈ news, p ∈ news') (hR : ∀ a b, R a b → R' a b) : LiAt news' R' v xs :=
  let ⟨a, vs, k, e, hm, hA⟩ := h; ⟨a, vs, k, e, hs _ hm, hA.mono hR⟩
def IntIn (v : Value) (x : Int) : Prop := ∃ t, v = .int x t
/-- rows of ints, tables of ints, rows of ratios, tables of ratios -/
abbrev IRow (news : Led) : Value → List Int → Prop := LiAt news IntIn
abbrev IMat (news : Led) : Value → List (List Int) → Prop := LiAt news (IRow news)
abbrev QRow (w : World) (news : Led) : Value → List Rat → Prop := LiAt news (NumIn w news)
abbrev QMat (w : World) (news : Led) : Value → List (List Rat) → Prop := LiAt news (QRow w news)
section
variable {w : World} {news news' : Led} {v : Value}
theorem IRow.mono {xs : List Int} (h : IRow news v xs) (hs : ∀ p ∈ news, p ∈ news') : IRow news' v xs := LiAt.mono h hs fun _ _ x => x
theorem IMat.mono {xs : List (List Int)} (h : IMat news v xs) (hs : ∀ p ∈ news, p ∈ news') : IMat news' v xs := LiAt.mono h hs fun _ _ x => IRow.mono x hs
theorem QRow.mono {xs : List Rat} (h : QRow w news v xs) (hs : ∀ p ∈ news, p ∈ news') : QRow w news' v xs := LiAt.mono h hs fun _ _ x => NumIn.mono x hs
theorem QMat.mono {xs : List (List Rat)} (h : QMat w news v xs) (hs : ∀ p ∈ news, p ∈ news') : QMat w news' v xs := LiAt.mono h hs fun _ _ x => QRow.mono x hs
end

section
variable {prog : Program} {w : World} {A : Around} {E : Value → Shared → Prop} {s : Shared} {h₀ : Heap} {L : Addr} {m : Str → Option Value} {news : Led}
theorem li_len {l : Addr} {vs : List Value} {k : Nat} {Q : Value → Shared → Prop} (N : News h₀ L s.heap news) (hm : (l, listOf vs.toArray k) ∈ news) (hfit : (vs.length : Int) < 2 ^ 63)
    (h : Q (.int (vs.length : Int) (s.toks + 1)) { s with toks := s.toks + 1 + 1 }) : wpAny (model prog w) A (call (.builtin "len") [.ref l]) Q E s := by
  have hl : s.heap.IsList l vs.toArray := ⟨_, (N _ hm).1, rfl, k, rfl⟩
  exact len_list hl (by simpa using hfit) (by simpa using h)
theorem li_item {value slice : PySem.Expr} {l : Addr} {vs : List Value} {n : Nat} {k : Int} {u : Tok} {x : Value} {Q : Value → Shared → Prop} (N : News h₀ L s.heap news) (hm : (l, listOf vs.toArray n) ∈ news)
    (h0 : 0 ≤ k) (hfit : k < 2 ^ 63) (hx : vs[k.toNat]? = some x) (h : Q x s)
    (hs : subscripted slice false (.ref l) (.int k u) = operate [.ref l, .int k u] (getItem (.ref l) (.int k u)) := by with_unfolding_all rfl) :
    wpAny (model prog w) A (subscriptTail value slice (.ref l) (.int k u)) Q E s := by
  have hl : s.heap.IsList l vs.toArray := ⟨_, (N _ hm).1, rfl, n, rfl⟩
  exact tail_any hl.typeIs slot_list_getitem.lookup (wpAny_getItem_list hl h0 hfit (by simpa using hx) h) hs
theorem li_itemN {value slice : PySem.Expr} {l : Addr} {vs : List Value} {n i : Nat} {u : Tok} {x : Value} {Q : Value → Shared → Prop} (N : News h₀ L s.heap news) (hm : (l, listOf vs.toArray n) ∈ news)
    (hi : i < 1000) (hx : vs[i]? = some x) (h : Q x s)
    (hs : subscripted slice false (.ref l) (.int (i : Int) u) = operate [.ref l, .int (i : Int) u] (getItem (.ref l) (.int (i : Int) u)) := by with_unfolding_all rfl) :
    wpAny (model prog w) A (subscriptTail value slice (.ref l) (.int (i : Int) u)) Q E s :=
  li_item N hm (Int.natCast_nonneg i) (by omega) (by rw [Int.toNat_natCast]; exact hx) h hs
theorem li_set {l : Addr} {vs : List Value} {n : Nat} {k : Int} {t : Tok} {v : Value} {rest : Led} {Q : Unit → Shared → Prop} (F : Fr h₀ L s.heap m) (N : News h₀ L s.heap ((l, listOf vs.toArray n) :: rest)) (off : ∀ p ∈ rest, p.1 ≠ l)
    (h0 : 0 ≤ k) (hfit : k < 2 ^ 63) (hk : k < (vs.length : Int)) (h : ∀ h', Fr h₀ L h' m → News h₀ L h' ((l, listOf (vs.set k.toNat v).toArray n) :: rest) → Q () { s with heap := h' }) :
    wpAny (model prog w) A (setItem (.ref l) (.int k t) v) Q E s := by
  have z := N (l, listOf vs.toArray n) (.head _)
  have e : vs.toArray.setIfInBounds k.toNat v = (vs.set k.toNat v).toArray := by
    apply Array.toList_inj.mp
    simp
  refine ki_setAt z.1 h0 hfit (by simpa using hk) (h _ (F.change (Heap.SameBut.update ..) z.2.1 z.2.2) ?_)
  exact ki_turn (pre := []) (post := rest) _ N (fun _ hp => nomatch hp) off e (by simp)
/-- D lies above all of a ledger -/
def Fresh (D : Addr) (news : Led) : Prop := ∀ q ∈ news, q.1 < D
theorem Fresh.sub {D : Addr} {news news' : Led} (h : Fresh D news) (s : ∀ p ∈ news', p ∈ news) : Fresh D news' := fun q hq => h q (s q hq)
theorem Fresh.off {D : Addr} {o : Obj} {news its : Led} (h : Fresh D news) (s : ∀ p ∈ its, p ∈ news) : ∀ q ∈ its, (D, o).1 ≠ q.1 := fun q hq e => Nat.lt_irrefl _ (e ▸ h q (s q hq))
theorem Fresh.ne {D : Addr} {news : Led} (h : Fresh D news) : ∀ q ∈ news, q.1 ≠ D := fun q hq e => Nat.lt_irrefl _ (e ▸ h q hq)
theorem li_copy {l : Addr} {vs : List Value} {k : Nat} {Q : Value → Shared → Prop} (F : Fr h₀ L s.heap m) (N : News h₀ L s.heap news) (hm : (l, listOf vs.toArray k) ∈ news) (hsz : vs.length ≤ sizeLine)
    (h : ∀ D c h', Fr h₀ L h' m → News h₀ L h' ((D, listOf vs.toArray c) :: news) → Fresh D news → Q (.ref D) { s with heap := h' }) :
    wpAny (model prog w) A (call (.type "list") [.ref l]) Q E s := list_copyK F N ⟨_, (N _ hm).1, rfl, k, rfl⟩ h (by simpa using hsz)
theorem li_isList {l : Addr} {vs : List Value} {k : Nat} (N : News h₀ L s.heap news) (hm : (l, listOf vs.toArray k) ∈ news) : s.heap.IsList l vs.toArray := ⟨_, (N _ hm).1, rfl, k, rfl⟩
theorem take_snoc {α : Type} {M : List α} {i : Nat} {x : α} (h : M[i]? = some x) : M.take (i + 1) = M.take i ++ [x] := by rw [List.take_add_one, h]; rfl
theorem all2_step {α β : Type} {R R' : α → β → Prop} {ys : List α} {M : List β} {i : Nat} {x : β} {y : α} (h : All2 R ys (M.take i)) (hR : ∀ a b, R a b → R' a b) (hx : M[i]? = some x) (k : R' y x) : All2 R' (ys ++ [y]) (M.take (i + 1)) := by
  rw [take_snoc hx]
  exact (h.mono hR).snoc k
theorem cend {s₁ : Shared} {priv all nx : Led} {Jn : Led → Prop} {h' : Heap} {tk : Nat} (F : Fr h₀ L h' m) (N : News h₀ L h' all) (hp : ∀ p ∈ priv, p ∈ all) (hn : ∀ p ∈ nx, p ∈ all) (ho : Off priv nx) (hj : Jn nx) :
    CEnd h₀ L m priv Jn s₁ { s₁ with heap := h', toks := tk } := ⟨h', tk, all, nx, rfl, F, N, hp, hn, ho, hj⟩
/-- a turn's end where the ledger has grown in front -/
theorem cend1 {s₁ : Shared} {priv nx : Led} {Jn : Led → Prop} {h' : Heap} {tk : Nat} {p : Addr × Obj} (F : Fr h₀ L h' m) (N : News h₀ L h' (p :: (nx ++ priv))) (hf : Fresh p.1 (nx ++ priv)) (ho : Off priv nx) (hj : Jn (p :: nx)) :
    CEnd h₀ L m priv Jn s₁ { s₁ with heap := h', toks := tk } :=
  cend F N (fun q hq => .tail _ (List.mem_append_right _ hq)) (fun q hq => (List.mem_cons.mp hq).elim (fun e => e ▸ .head _) fun h => .tail _ (List.mem_append_left _ h)) (.cons (fun q hq e => Nat.lt_irrefl _ (e ▸ hf q (List.mem_append_right _ hq))) ho) hj
theorem cend0 {s₁ : Shared} {priv nx : Led} {Jn : Led → Prop} {h' : Heap} {tk : Nat} (F : Fr h₀ L h' m) (N : News h₀ L h' (nx ++ priv)) (ho : Off priv nx) (hj : Jn nx) :
    CEnd h₀ L m priv Jn s₁ { s₁ with heap := h', toks := tk } :=
  cend F N (fun q hq => List.mem_append_right _ hq) (fun q hq => List.mem_append_left _ hq) ho hj

/-- a ledger grown in front of base by what lies above it -/
def Gr (base : Led) (P : Led → Prop) (nx : Led) : Prop := ∃ add, nx = add ++ base ∧ (∀ p ∈ add, Fresh p.1 base) ∧ P add
theorem Gr.refl {base : Led} {P : Led → Prop} (h : P []) : Gr base P base := ⟨[], rfl, fun _ h => (nomatch h), h⟩
theorem Gr.sub {base nx : Led} {P : Led → Prop} (h : Gr base P nx) : ∀ p ∈ base, p ∈ nx := by
  obtain ⟨add, rfl, _, _⟩ := h
  exact fun p hp => List.mem_append_right _ hp
theorem Gr.mono {base nx : Led} {P P' : Led → Prop} (h : Gr base P nx) (hP : ∀ add, P add → P' add) : Gr base P' nx := let ⟨add, e, f, p⟩ := h; ⟨add, e, f, hP _ p⟩
theorem Gr.one {base : Led} {P : Led → Prop} {q : Addr × Obj} (hq : Fresh q.1 base) (hP : P [q]) : Gr base P (q :: base) := ⟨[q], rfl, fun x hx => by rw [List.mem_singleton.mp hx]; exact hq, hP⟩
theorem Gr.cons {base nx : Led} {P P' : Led → Prop} {q : Addr × Obj} (h : Gr base P nx) (hq : Fresh q.1 nx) (hP : ∀ add, P add → P' (q :: add)) : Gr base P' (q :: nx) := by
  obtain ⟨add, rfl, f, p⟩ := h
  refine ⟨q :: add, rfl, fun x hx => ?_, hP _ p⟩
  rcases List.mem_cons.mp hx with rfl | hx
  · exact hq.sub fun p hp => List.mem_append_right _ hp
  · exact f x hx
theorem Gr.consB {base nx : Led} {P P' : Led → Prop} {q : Addr × Obj} (h : Gr base P nx) (hq : Fresh q.1 base) (hP : ∀ add, P add → P' (q :: add)) : Gr base P' (q :: nx) := by
  obtain ⟨add, rfl, f, p⟩ := h
  refine ⟨q :: add, rfl, fun x hx => ?_, hP _ p⟩
  rcases List.mem_cons.mp hx with rfl | hx
  · exact hq
  · exact f x hx
theorem Gr.trans {base nx n2 : Led} {P P1 P' : Led → Prop} (h : Gr base P nx) (k : Gr nx P1 n2) (hP : ∀ add1 add, P add → P1 add1 → P' (add1 ++ add)) : Gr base P' n2 := by
  obtain ⟨add, rfl, f, p⟩ := h
  obtain ⟨add1, rfl, f1, p1⟩ := k
  refine ⟨add1 ++ add, by rw [List.append_assoc], fun x hx => ?_, hP _ _ p p1⟩
  rcases List.mem_append.mp hx with hx | hx
  · exact (f1 x hx).sub fun p hp => List.mem_append_right _ hp
  · exact f x hx
/-- a turn's end where the ledger has grown -/
theorem cendG {s₁ : Shared} {priv nx n2 : Led} {Jn P1 : Led → Prop} {h' : Heap} {tk : Nat} (F : Fr h₀ L h' m) (N : News h₀ L h' n2) (G : Gr (nx ++ priv) P1 n2) (ho : Off priv nx) (hj : ∀ add, P1 add → (∀ p ∈ add, Fresh p.1 nx) → Jn (add ++ nx)) :
    CEnd h₀ L m priv Jn s₁ { s₁ with heap := h', toks := tk } := by
  obtain ⟨add, rfl, f, p⟩ := G
  refine cend F N (fun q hq => List.mem_append_right _ (List.mem_append_right _ hq)) (nx := add ++ nx) (fun q hq => ?_) (.app (fun q hq r hr e => Nat.lt_irrefl _ (e ▸ f q hq r (List.mem_append_right _ hr))) ho) (hj _ p fun q hq => (f q hq).sub fun p hp => List.mem_append_left _ hp)
  rcases List.mem_append.mp hq with hq | hq
  · exact List.mem_append_left _ hq
  · exact List.mem_append_right _ (List.mem_append_left _ hq)
theorem lend {s₁ : Shared} {its all nx : Led} {Jn : (Str → Option Value) → Led → Prop} {h' : Heap} {tk : Nat} {m' : Str → Option Value} (F : Fr h₀ L h' m') (N : News h₀ L h' all) (hp : ∀ p ∈ its, p ∈ all) (hn : ∀ p ∈ nx, p ∈ all) (ho : Off its nx) (hj : Jn m' nx) :
    LEnd h₀ L its Jn s₁ { s₁ with heap := h', toks := tk } := ⟨h', tk, m', all, nx, rfl, F, N, hp, hn, ho, hj⟩
theorem lend0 {s₁ : Shared} {its nx : Led} {Jn : (Str → Option Value) → Led → Prop} {h' : Heap} {tk : Nat} {m' : Str → Option Value} (F : Fr h₀ L h' m') (N : News h₀ L h' (nx ++ its)) (ho : Off its nx) (hj : Jn m' nx) :
    LEnd h₀ L its Jn s₁ { s₁ with heap := h', toks := tk } := lend F N (fun q hq => List.mem_append_right _ hq) (fun q hq => List.mem_append_left _ hq) ho hj
theorem lendG {s₁ : Shared} {its nx n2 : Led} {Jn : (Str → Option Value) → Led → Prop} {P1 : Led → Prop} {h' : Heap} {tk : Nat} {m' : Str → Option Value} (F : Fr h₀ L h' m') (N : News h₀ L h' n2) (G : Gr (nx ++ its) P1 n2) (ho : Off its nx) (hj : ∀ add, P1 add → (∀ p ∈ add, Fresh p.1 nx) → Jn m' (add ++ nx)) :
    LEnd h₀ L its Jn s₁ { s₁ with heap := h', toks := tk } := by
  obtain ⟨add, rfl, f, p⟩ := G
  refine lend F N (fun q hq => List.mem_append_right _ (List.mem_append_right _ hq)) (nx := add ++ nx) (fun q hq => ?_) (.app (fun q hq r hr e => Nat.lt_irrefl _ (e ▸ f q hq r (List.mem_append_right _ hr))) ho) (hj _ p fun q hq => (f q hq).sub fun p hp => List.mem_append_left _ hp)
  rcases List.mem_append.mp hq with hq | hq
  · exact List.mem_append_left _ hq
  · exact List.mem_append_right _ (List.mem_append_left _ hq)
end

/-- a new outer list D of rows that bear M over add ++ core -/
def NewMat (w : World) (core news : Led) (M : List (List Rat)) (r : Value) (n' : Led) : Prop :=
  ∃ D ys nx, r = .ref D ∧ n' = (D, LCg.lst ys) :: nx ∧ Fresh D news ∧ (∀ p ∈ nx, p.1 ≠ D) ∧ Gr news (fun add => All2 (QRow w (add ++ core)) ys M) nx
theorem NumIn.add {w : World} {core add : Led} {q : Addr × Obj} {v : Value} {x : Rat} (h : NumIn w (add ++ core) v x) : NumIn w ((q :: add) ++ core) v x := h.mono fun _ h => .tail _ h
theorem mem_mid {α : Type} {a b c : List α} : ∀ p ∈ b ++ c, p ∈ (a ++ b) ++ c := fun _ hp => by rw [List.append_assoc]; exact List.mem_append_right _ hp
theorem NewMat.weaken {w : World} {core news base : Led} {M : List (List Rat)} {r : Value} {n' : Led} (h : NewMat w core base M r n') (hb : Gr news (fun _ => True) base) : NewMat w core news M r n' := by
  obtain ⟨D, ys, nx, rfl, rfl, hf, ho, hg⟩ := h
  exact ⟨D, ys, nx, rfl, rfl, hf.sub hb.sub, ho, hb.trans hg fun add1 add _ h => h.mono fun _ _ h => QRow.mono h fun p hp => (List.mem_append.mp hp).elim (fun h => List.mem_append_left _ (List.mem_append_left _ h)) fun h => List.mem_append_right _ h⟩
theorem fresh_succ {news : Led} {L : Addr} (h : ∀ p ∈ news, p.1 < L) (k : Nat) : Fresh (L + k) news := fun q hq => Nat.lt_of_lt_of_le (h q hq) (Nat.le_add_right L k)
end Mine
-- part: W1
namespace Mine
theorem kfill_W1 : (PySem.Challenge.rw_xm0074_01 = PySem.Challenge.rw_xm0074_01) ∧ Mine.hd.heap_1 = Mine.hd.heap_1 := by
  k_fill
  exact ⟨rfl, rfl⟩
local macro_rules | `(tactic| walk_at "exec While Compare cons nil") => `(tactic| (k_here; refine Stop.go ?_))
local macro_rules | `(tactic| walk_at "call ref") => `(tactic| (k_here; refine Stop.go ?_))
local macro_rules | `(tactic| walk_at "binaryOp FloorDiv int int") => `(tactic| (k_here; refine' floordiv_int ?kb ?_ ?kp; (case kb => first | assumption | omega); (case kp => exact Or.inl (by assumption))))

theorem gcd_turn {x y : Int} (hy : 0 ≤ y) (h : y ≠ 0) : 0 ≤ x.fmod y ∧ (x.fmod y).toNat < y.toNat ∧ Int.gcd y (x.fmod y) = Int.gcd x y := by
  have e : x.fmod y = x % y := Int.fmod_eq_emod_of_nonneg x hy
  rw [e]
  have h1 := Int.emod_nonneg x h
  have h2 := Int.emod_lt_of_pos x (show 0 < y by omega)
  refine ⟨h1, by omega, ?_⟩
  rw [Int.emod_def, Int.gcd_sub_mul_left_right, Int.gcd_comm]

theorem gcd_con {w mean mg mb} (news : Led) (a b : Int) (t u : Tok) : Con w mean mg mb 41 3 30 news [.int a t, .int b u] (fun r n' => n' = news ∧ ∃ t', r = .int (Int.gcd a b : Int) t') := by
  unfold Con
  intro dp un gd cn cs a' ccd cl outer A₀ base h₀ L m s Q E B F X N T hk hd hu hret
  refine wpAny_call ?_
  k_dflt ktr_enter
  refine letAE ?_
  intro tk1 Q1 hQ1 e1 A1
  k_steps
  rename Fr _ _ _ _ => F1
  rename News _ _ _ _ => N1
  refine while_rule (fun n m nx => nx = news ∧ ∃ x y t u, Kn m [("a", .int x t), ("b", .int y u)] ∧ 0 ≤ x ∧ 0 ≤ y ∧ y.toNat = n ∧ Int.gcd x y = Int.gcd a b) b.natAbs F1 (fun p hp => N1 p (.tail _ hp)) ⟨rfl, _, _, _, _, ⟨rfl, rfl, trivial⟩, ?_, ?_, ?_, ?_⟩ ?_
  · split <;> omega
  · split <;> omega
  · split <;> omega
  · split <;> split <;> simp
  clear F1 N1
  rintro n m₁ nx h₁ tk₁ F2 N2 ⟨hnx, x, y, t, u, hkn, hx, hy, hn, hg⟩
  replace F2 := fr_ov F2 hkn.all
  k_steps
  · rename _ ≠ _ => hne
    have hT := gcd_turn (x := x) hy hne
    rename Fr _ _ _ _ => F3
    rename News _ _ _ _ => N3
    exact ⟨_, _, _, nx, _, rfl, F3, fun p hp => N3 p (.tail _ hp), by rw [← hn]; exact hT.2.1, hnx, _, _, _, _, ⟨rfl, rfl, trivial⟩, hy, hT.1, rfl, by rw [hT.2.2]; exact hg⟩
  · rename _ = (0 : Int) => h0
    refine hQ1 _ _ ?_
    (try dsimp only)
    k_steps
    rename Fr _ _ _ _ => F3
    rename News _ _ _ _ => N3
    refine hret _ _ _ _ F3 N3 ⟨hnx, t, ?_⟩
    rw [← hg, h0, Int.gcd_zero_right]
    congr 1
    omega

theorem rat_pos {x y : Int} (h : 0 < y) : x.fdiv (Int.gcd x y) = (Rat.divInt x y).num ∧ y.fdiv (Int.gcd x y) = (Rat.divInt x y).den := by
  have hd : ((Int.gcd x y : Nat) : Int) ∣ y := Int.gcd_dvd_right x y
  rw [Rat.num_divInt, Rat.den_divInt, if_neg (Int.ne_of_gt h), Int.gcd_comm y x, Int.sign_eq_one_of_pos h, Int.one_mul,
    Int.fdiv_eq_ediv_of_nonneg _ (Int.natCast_nonneg _), Int.fdiv_eq_ediv_of_nonneg _ (Int.natCast_nonneg _)]
  refine ⟨rfl, ?_⟩
  rw [Int.natCast_ediv, Int.natAbs_of_nonneg (Int.le_of_lt h)]
theorem rat_neg {x y : Int} (h : y < 0) : x.fdiv (0 - Int.gcd x y) = (Rat.divInt x y).num ∧ y.fdiv (0 - Int.gcd x y) = (Rat.divInt x y).den := by
  have h1 := rat_pos (x := -x) (y := -y) (by omega)
  rw [Rat.neg_divInt_neg, Int.neg_gcd, Int.gcd_neg] at h1
  have e : (0 : Int) - (Int.gcd x y : Nat) = -(Int.gcd x y : Nat) := Int.zero_sub _
  rw [e, ← h1.1, ← h1.2]
  have hx : ((Int.gcd x y : Nat) : Int) ∣ x := Int.gcd_dvd_left x y
  have hy : ((Int.gcd x y : Nat) : Int) ∣ y := Int.gcd_dvd_right x y
  have key : ∀ {z d : Int}, d ∣ z → z.fdiv (-d) = (-z).fdiv d := by
    intro z d hd
    rw [Int.fdiv_eq_ediv_of_dvd ((Int.neg_dvd).mpr hd), Int.fdiv_eq_ediv_of_dvd (Int.dvd_neg.mpr hd), Int.ediv_neg, Int.neg_ediv_of_dvd hd]
  exact ⟨key hx, key hy⟩
theorem gcd_log {x y : Int} (h : y ≠ 0) : ((Int.gcd x y : Nat) : Int).natAbs.log2 ≤ y.natAbs.log2 ∧ (0 - ((Int.gcd x y : Nat) : Int)).natAbs.log2 ≤ y.natAbs.log2 := by
  have h1 : Int.gcd x y ≤ y.natAbs := Int.gcd_le_natAbs_right x h
  have key : (Int.gcd x y).log2 ≤ y.natAbs.log2 := by
    have h0 : Int.gcd x y ≠ 0 := by have := Int.gcd_pos_of_ne_zero_right x h; omega
    rw [Nat.le_log2 (by omega)]
    exact Nat.le_trans (Nat.log2_self_le h0) h1
  constructor
  · simpa using key
  · rw [Int.zero_sub, Int.natAbs_neg]; simpa using key

theorem rat_con {w mean mg mb} (news : Led) (x y : Int) (t u : Tok) (hy : y ≠ 0) (hb : y.natAbs.log2 < 9000) :
    Con w mean mg mb 50 6 60 news [.int x t, .int y u] (fun r n' => ∃ D t u n, r = .ref D ∧ n' = (D, ({ cls := .type "tuple", data := .seq #[.int (Rat.divInt x y).num t, .int (Rat.divInt x y).den u] n } : Obj)) :: news ∧ ∀ p ∈ news, p.1 < D) := by
  have g1 := fun z : Int => PyProof.noPylong_of_log2 (x := z) (Nat.lt_of_le_of_lt (gcd_log (x := x) hy).1 hb)
  have g2 := fun z : Int => PyProof.noPylong_of_log2 (x := z) (Nat.lt_of_le_of_lt (gcd_log (x := x) hy).2 hb)
  have g3 : ((Int.gcd x y : Nat) : Int) ≠ 0 := by
    have := Int.gcd_pos_of_ne_zero_right x hy
    omega
  have g4 : 0 - ((Int.gcd x y : Nat) : Int) ≠ 0 := by omega
  have g1x := g1 x
  have g1y := g1 y
  have g2x := g2 x
  have g2y := g2 y
  clear g1 g2
  unfold Con
  intro dp un gd cn cs a' ccd cl outer A₀ base h₀ L m s Q E B F X N T hk hd hu hret
  refine wpAny_call ?_
  k_dflt ktr_enter
  refine letAE ?_
  intro tk1 Q1 hQ1 e1 A1
  k_steps
  · exact absurd (by assumption) hy
  · rename 0 < y => hp
    refine' Con.use (gcd_con _ _ _ _ _) ?k1 ?k2 ?k3 ?k4 ?k5 ?kK ?kd ?ku ?_
    (case k1 => k_asm)
    (case k2 => k_asm)
    (case k3 => k_asm)
    (case k4 => k_asm)
    (case k5 => k_asm)
    (case kK => first | exact rfl | assumption)
    (case kd => ktr_room)
    (case ku => ktr_units)
    rintro r n2 h2 tk2 F2 N2 ⟨rfl, t2, rfl⟩
    rw [← (rat_pos hp).1, ← (rat_pos hp).2] at hret
    k_steps
    refine hQ1 _ _ ?_
    (try dsimp only)
    k_steps
    exact hret _ _ _ _ (by assumption) (by assumption) ⟨_, _, _, _, rfl, rfl, by assumption⟩
  · refine' Con.use (gcd_con _ _ _ _ _) ?k1 ?k2 ?k3 ?k4 ?k5 ?kK ?kd ?ku ?_
    (case k1 => k_asm)
    (case k2 => k_asm)
    (case k3 => k_asm)
    (case k4 => k_asm)
    (case k5 => k_asm)
    (case kK => first | exact rfl | assumption)
    (case kd => ktr_room)
    (case ku => ktr_units)
    rintro r n2 h2 tk2 F2 N2 ⟨rfl, t2, rfl⟩
    have hp : y < 0 := by omega
    rw [← (rat_neg hp).1, ← (rat_neg hp).2] at hret
    k_steps
    refine hQ1 _ _ ?_
    (try dsimp only)
    k_steps
    exact hret _ _ _ _ (by assumption) (by assumption) ⟨_, _, _, _, rfl, rfl, by assumption⟩
local macro_rules | `(tactic| mul_fits) => `(tactic| assumption)
local macro_rules | `(tactic| walk_at "subscriptTail") => `(tactic| (k_here; (with_reducible show wpAny _ _ (subscriptTail _ _ (Value.ref _) (Value.int _ _)) _ _ _); k_dflt (refine' item_tupleT ?t ?a ?b ?c ?d ?_; (case t => exact TupAt.tup (by assumption) (by assumption) (by assumption) (by assumption) (fun _ h => h)); (case a => decide); (case b => decide); (case c => rfl); (case d => rfl); k_whole)))

/-- a ratio's numbers below 2 ^ b -/
def Sz (b : Nat) (q : Rat) : Prop := q.num.natAbs < 2 ^ b ∧ q.den < 2 ^ b
theorem Sz.mono {b c : Nat} {q : Rat} (h : Sz b q) (hbc : b ≤ c) : Sz c q :=
  ⟨Nat.lt_of_lt_of_le h.1 (Nat.pow_le_pow_right (by decide) hbc), Nat.lt_of_lt_of_le h.2 (Nat.pow_le_pow_right (by decide) hbc)⟩
theorem bits_of_lt {x : Int} {b : Nat} (h : x.natAbs < 2 ^ b) : Builtin.Int.intBits x ≤ b := by
  unfold Builtin.Int.intBits
  split
  · exact Nat.zero_le _
  · rename_i h0
    have h0' : x.natAbs ≠ 0 := by
      intro e
      apply h0
      first | (simp; omega) | omega
    have := (Nat.log2_lt h0').mpr h
    omega
theorem mulOk_of {x y : Int} {b c : Nat} (hx : x.natAbs < 2 ^ b) (hy : y.natAbs < 2 ^ c) (hb : b ≤ 1048576) (hc : c ≤ 1048576) : IntMulOk x y :=
  IntMulOk.of_bits (Nat.le_trans (bits_of_lt hx) (by simpa using hb)) (Nat.le_trans (bits_of_lt hy) (by simpa using hc))
theorem log_of_lt {x : Nat} {b : Nat} (h : x < 2 ^ b) (hb : 0 < b) : x.log2 < b := by
  by_cases h0 : x = 0
  · subst h0; simpa using hb
  · exact (Nat.log2_lt h0).mpr h
theorem mul_lt {x y b c : Nat} (hx : x < 2 ^ b) (hy : y < 2 ^ c) : x * y < 2 ^ (b + c) := by
  rw [Nat.pow_add]
  exact Nat.lt_of_le_of_lt (Nat.mul_le_mul_left x (Nat.le_of_lt hy)) (Nat.mul_lt_mul_of_pos_right hx (Nat.pow_pos (by decide)))
theorem divInt_le (a b : Int) (hb : b ≠ 0) : (Rat.divInt a b).num.natAbs ≤ a.natAbs ∧ (Rat.divInt a b).den ≤ b.natAbs := by
  rw [Rat.num_divInt, Rat.den_divInt, if_neg hb]
  constructor
  · have hd : ((Int.gcd b a : Nat) : Int) ∣ b.sign * a := Int.dvd_trans (Int.gcd_dvd_right b a) (Int.dvd_mul_left _ _)
    rw [Int.natAbs_ediv_of_dvd hd, Int.natAbs_mul, Int.natAbs_sign_of_ne_zero hb, Nat.one_mul]
    exact Nat.div_le_self _ _
  · exact Nat.div_le_self _ _
theorem sz_of {a b : Int} {c : Nat} (ha : a.natAbs < 2 ^ c) (hb : b.natAbs < 2 ^ c) (h0 : b ≠ 0) : Sz c (Rat.divInt a b) :=
  ⟨Nat.lt_of_le_of_lt (divInt_le a b h0).1 ha, Nat.lt_of_le_of_lt (divInt_le a b h0).2 hb⟩
theorem rat_mul (p q : Rat) : Rat.divInt (p.num * q.num) (p.den * q.den) = p * q := by
  rw [← Rat.divInt_mul_divInt, Rat.num_divInt_den, Rat.num_divInt_den]
theorem rat_sub (p q : Rat) : Rat.divInt (p.num * q.den - q.num * p.den) (p.den * q.den) = p - q := by
  have h := Rat.divInt_sub_divInt p.num q.num (d₁ := p.den) (d₂ := q.den) (by exact_mod_cast p.den_nz) (by exact_mod_cast q.den_nz)
  rw [Rat.num_divInt_den, Rat.num_divInt_den] at h
  exact h.symm
theorem rat_div (p q : Rat) : Rat.divInt (p.num * q.den) (p.den * q.num) = p / q := by
  rw [Rat.div_def, ← Rat.divInt_mul_divInt, Rat.num_divInt_den, ← Rat.inv_divInt, Rat.num_divInt_den]

/-- a new tuple for q at the head of the ledger -/
def NewNum (news : Led) (q : Rat) (r : Value) (n' : Led) : Prop :=
  ∃ D t u n, r = .ref D ∧ n' = (D, ({ cls := .type "tuple", data := .seq #[.int q.num t, .int q.den u] n } : Obj)) :: news ∧ ∀ p ∈ news, p.1 < D
theorem NewNum.num {w : World} {news n' : Led} {q : Rat} {r : Value} (h : NewNum news q r n') : NumIn w n' r q := by
  obtain ⟨D, t, u, n, rfl, rfl, _⟩ := h
  exact ⟨D, t, u, n, rfl, .inl (.head _)⟩

theorem rmul_con {w mean mg mb} (news : Led) (va vb : Value) (p q : Rat) (ha : NumIn w news va p) (hb : NumIn w news vb q) (bp bq : Nat) (hp : Sz bp p) (hq : Sz bq q) (hs : bp + bq < 9000) :
    Con w mean mg mb 64 10 100 news [va, vb] (NewNum news (p * q)) := by
  obtain ⟨a1, t1, u1, n1, rfl, ha⟩ := ha
  obtain ⟨b1, t2, u2, n2, rfl, hb⟩ := hb
  have hm1 : IntMulOk p.num q.num := mulOk_of hp.1 hq.1 (by omega) (by omega)
  have hm2 : IntMulOk (p.den : Int) (q.den : Int) := mulOk_of (b := bp) (c := bq) (by simpa using hp.2) (by simpa using hq.2) (by omega) (by omega)
  unfold Con
  intro dp un gd cn cs a' ccd cl outer A₀ base h₀ L m s Q E B F X N T hk hd hu hret
  refine wpAny_call ?_
  k_dflt ktr_enter
  refine letAE ?_
  intro tk1 Q1 hQ1 e1 A1
  k_steps
  have h0 : (p.den : Int) * (q.den : Int) ≠ 0 := Int.mul_ne_zero (by exact_mod_cast p.den_nz) (by exact_mod_cast q.den_nz)
  refine' Con.use (rat_con _ _ _ _ _ h0 ?kl) ?k1 ?k2 ?k3 ?k4 ?k5 ?kK ?kd ?ku ?_
  (case k1 => k_asm)
  (case k2 => k_asm)
  (case k3 => k_asm)
  (case k4 => k_asm)
  (case k5 => k_asm)
  (case kK => first | exact rfl | assumption)
  (case kd => ktr_room)
  (case ku => ktr_units)
  (case kl => (refine log_of_lt (Nat.lt_of_lt_of_le (show _ < 2 ^ (bp + bq) from ?_) (Nat.pow_le_pow_right (by decide) (Nat.le_of_lt hs))) (by decide); rw [Int.natAbs_mul]; exact mul_lt (by simpa using hp.2) (by simpa using hq.2)))
  rintro r n9 h9 tk9 F9 N9 ⟨D, t9, u9, k9, rfl, rfl, hlt⟩
  rw [rat_mul] at N9
  k_steps
  refine hQ1 _ _ ?_
  (try dsimp only)
  k_steps
  exact hret _ _ _ _ (by assumption) (by assumption) ⟨_, _, _, _, rfl, rfl, hlt⟩
theorem rsub_con {w mean mg mb} (news : Led) (va vb : Value) (p q : Rat) (ha : NumIn w news va p) (hb : NumIn w news vb q) (bp bq : Nat) (hp : Sz bp p) (hq : Sz bq q) (hs : bp + bq < 9000) :
    Con w mean mg mb 57 10 100 news [va, vb] (NewNum news (p - q)) := by
  obtain ⟨a1, t1, u1, n1, rfl, ha⟩ := ha
  obtain ⟨b1, t2, u2, n2, rfl, hb⟩ := hb
  have hm1 : IntMulOk p.num (q.den : Int) := mulOk_of (b := bp) (c := bq) hp.1 (by simpa using hq.2) (by omega) (by omega)
  have hm2 : IntMulOk q.num (p.den : Int) := mulOk_of (b := bq) (c := bp) hq.1 (by simpa using hp.2) (by omega) (by omega)
  have hm3 : IntMulOk (p.den : Int) (q.den : Int) := mulOk_of (b := bp) (c := bq) (by simpa using hp.2) (by simpa using hq.2) (by omega) (by omega)
  unfold Con
  intro dp un gd cn cs a' ccd cl outer A₀ base h₀ L m s Q E B F X N T hk hd hu hret
  refine wpAny_call ?_
  k_dflt ktr_enter
  refine letAE ?_
  intro tk1 Q1 hQ1 e1 A1
  k_steps
  have h0 : (p.den : Int) * (q.den : Int) ≠ 0 := Int.mul_ne_zero (by exact_mod_cast p.den_nz) (by exact_mod_cast q.den_nz)
  refine' Con.use (rat_con _ _ _ _ _ h0 ?kl) ?k1 ?k2 ?k3 ?k4 ?k5 ?kK ?kd ?ku ?_
  (case k1 => k_asm)
  (case k2 => k_asm)
  (case k3 => k_asm)
  (case k4 => k_asm)
  (case k5 => k_asm)
  (case kK => first | exact rfl | assumption)
  (case kd => ktr_room)
  (case ku => ktr_units)
  (case kl => (refine log_of_lt (Nat.lt_of_lt_of_le (show _ < 2 ^ (bp + bq) from ?_) (Nat.pow_le_pow_right (by decide) (Nat.le_of_lt hs))) (by decide); rw [Int.natAbs_mul]; exact mul_lt (by simpa using hp.2) (by simpa using hq.2)))
  rintro r n9 h9 tk9 F9 N9 ⟨D, t9, u9, k9, rfl, rfl, hlt⟩
  rw [rat_sub] at N9
  k_steps
  refine hQ1 _ _ ?_
  (try dsimp only)
  k_steps
  exact hret _ _ _ _ (by assumption) (by assumption) ⟨_, _, _, _, rfl, rfl, hlt⟩
theorem rdiv_con {w mean mg mb} (news : Led) (va vb : Value) (p q : Rat) (ha : NumIn w news va p) (hb : NumIn w news vb q) (bp bq : Nat) (hp : Sz bp p) (hq : Sz bq q) (hs : bp + bq < 9000) (hq0 : q ≠ 0) :
    Con w mean mg mb 71 10 100 news [va, vb] (NewNum news (p / q)) := by
  obtain ⟨a1, t1, u1, n1, rfl, ha⟩ := ha
  obtain ⟨b1, t2, u2, n2, rfl, hb⟩ := hb
  have hm1 : IntMulOk p.num (q.den : Int) := mulOk_of (b := bp) (c := bq) hp.1 (by simpa using hq.2) (by omega) (by omega)
  have hm2 : IntMulOk (p.den : Int) q.num := mulOk_of (b := bp) (c := bq) (by simpa using hp.2) hq.1 (by omega) (by omega)
  unfold Con
  intro dp un gd cn cs a' ccd cl outer A₀ base h₀ L m s Q E B F X N T hk hd hu hret
  refine wpAny_call ?_
  k_dflt ktr_enter
  refine letAE ?_
  intro tk1 Q1 hQ1 e1 A1
  k_steps
  have h0 : (p.den : Int) * q.num ≠ 0 := Int.mul_ne_zero (by exact_mod_cast p.den_nz) (fun e => hq0 (Rat.num_eq_zero.mp e))
  refine' Con.use (rat_con _ _ _ _ _ h0 ?kl) ?k1 ?k2 ?k3 ?k4 ?k5 ?kK ?kd ?ku ?_
  (case k1 => k_asm)
  (case k2 => k_asm)
  (case k3 => k_asm)
  (case k4 => k_asm)
  (case k5 => k_asm)
  (case kK => first | exact rfl | assumption)
  (case kd => ktr_room)
  (case ku => ktr_units)
  (case kl => (refine log_of_lt (Nat.lt_of_lt_of_le (show _ < 2 ^ (bp + bq) from ?_) (Nat.pow_le_pow_right (by decide) (Nat.le_of_lt hs))) (by decide); rw [Int.natAbs_mul]; exact mul_lt (by simpa using hp.2) hq.1))
  rintro r n9 h9 tk9 F9 N9 ⟨D, t9, u9, k9, rfl, rfl, hlt⟩
  rw [rat_div] at N9
  k_steps
  refine hQ1 _ _ ?_
  (try dsimp only)
  k_steps
  exact hret _ _ _ _ (by assumption) (by assumption) ⟨_, _, _, _, rfl, rfl, hlt⟩
theorem sz_mul {p q : Rat} {b c : Nat} (hp : Sz b p) (hq : Sz c q) : Sz (b + c) (p * q) := by
  rw [← rat_mul]
  exact sz_of (by rw [Int.natAbs_mul]; exact mul_lt hp.1 hq.1) (by rw [Int.natAbs_mul]; exact mul_lt (by simpa using hp.2) (by simpa using hq.2)) (Int.mul_ne_zero (by exact_mod_cast p.den_nz) (by exact_mod_cast q.den_nz))
theorem sz_div {p q : Rat} {b c : Nat} (hp : Sz b p) (hq : Sz c q) (hq0 : q ≠ 0) : Sz (b + c) (p / q) := by
  rw [← rat_div]
  exact sz_of (by rw [Int.natAbs_mul]; exact mul_lt hp.1 (by simpa using hq.2)) (by rw [Int.natAbs_mul]; exact mul_lt (by simpa using hp.2) hq.1) (Int.mul_ne_zero (by exact_mod_cast p.den_nz) (fun e => hq0 (Rat.num_eq_zero.mp e)))
theorem sz_sub {p q : Rat} {b c : Nat} (hp : Sz b p) (hq : Sz c q) : Sz (b + c + 1) (p - q) := by
  rw [← rat_sub]
  refine sz_of ?_ (Nat.lt_of_lt_of_le (m := 2 ^ (b + c)) ?_ (Nat.pow_le_pow_right (by decide) (by omega))) (Int.mul_ne_zero (by exact_mod_cast p.den_nz) (by exact_mod_cast q.den_nz))
  · have h1 : (p.num * (q.den : Int)).natAbs < 2 ^ (b + c) := by rw [Int.natAbs_mul]; exact mul_lt hp.1 (by simpa using hq.2)
    have h2 : (q.num * (p.den : Int)).natAbs < 2 ^ (b + c) := by rw [Int.natAbs_mul, Nat.add_comm]; exact mul_lt hq.1 (by simpa using hp.2)
    rw [Nat.pow_succ]
    omega
  · rw [Int.natAbs_mul]; exact mul_lt (by simpa using hp.2) (by simpa using hq.2)
end Mine
-- part: W2
namespace Mine
theorem kfill_W2 : (PySem.Challenge.rw_xm0074_01 = PySem.Challenge.rw_xm0074_01) ∧ Mine.hd.heap_1 = Mine.hd.heap_1 := by
  k_fill
  exact ⟨rfl, rfl⟩
local macro_rules | `(tactic| walk_at "exec While Compare cons nil") => `(tactic| (k_here; refine Stop.go ?_))
local macro_rules | `(tactic| walk_at "call ref") => `(tactic| (k_here; refine Stop.go ?_))
local macro_rules | `(tactic| walk_at "subscriptTail") => `(tactic| (k_here; refine Stop.go ?_))
local macro_rules | `(tactic| walk_at "pyIter ref") => `(tactic| (k_here; refine Stop.go ?_))
local macro_rules | `(tactic| walk_at "call builtin:len") => `(tactic| (k_here; (with_reducible show wpAny _ _ (call (Value.builtin "len") [Value.ref _]) _ _ _); refine' li_len ?k1 ?k2 ?k3 ?_; (case k1 => k_asm); (case k2 => k_mem); (case k3 => omega)))

local macro_rules | `(tactic| walk_at "call type:list") => `(tactic| (k_here; (with_reducible show wpAny _ _ (call (Value.type _) [Value.ref _]) _ _ _); refine' li_copy ?k1 ?k2 ?k3 ?z ?_; (case k1 => k_asm); (case k2 => k_asm); (case k3 => k_mem); (case z => assumption); intro D' c' h' F' N' l1; (try k_sweep)))

/-- a new tuple of two ints at the head of the ledger -/
def NewPair (news : Led) (x y : Int) (r : Value) (n' : Led) : Prop :=
  ∃ D t u n, r = .ref D ∧ n' = (D, ({ cls := .type "tuple", data := .seq #[.int x t, .int y u] n } : Obj)) :: news ∧ ∀ p ∈ news, p.1 < D

theorem shape_con {w mean mg mb} (news : Led) (a : Addr) (vs : List Value) (k : Nat) (c : Nat) (hm : (a, listOf vs.toArray k) ∈ news) (hl : vs.length < 100) (h0 : vs.length = 0 → c = 0)
    (h1 : 0 < vs.length → ∃ b, ∃ us : List Value, ∃ j, vs[0]? = some (.ref b) ∧ (b, listOf us.toArray j) ∈ news ∧ us.length = c) (hc : c < 100) :
    Con w mean mg mb 78 3 40 news [.ref a] (NewPair news vs.length c) := by
  have h1' : 0 < (vs.length : Int) → ∃ b, ∃ us : List Value, ∃ j, vs[0]? = some (Value.ref b) ∧ (b, listOf us.toArray j) ∈ news ∧ us.length = c := fun h => h1 (by omega)
  unfold Con
  intro dp un gd cn cs a' ccd cl outer A₀ base h₀ L m s Q E B F X N T hk hd hu hret
  refine wpAny_call ?_
  k_dflt ktr_enter
  refine letAE ?_
  intro tk1 Q1 hQ1 e1 A1
  k_steps
  · obtain ⟨b, us, j, e, hb, he⟩ := h1' (by assumption)
    refine Stop.mk (li_item (by assumption) (by k_mem) (by decide) (by decide) e ?_)
    have hfit : (us.length : Int) < 2 ^ 63 := by omega
    rw [← he] at hret
    k_steps
    refine hQ1 _ _ ?_
    (try dsimp only)
    k_steps
    exact hret _ _ _ _ (by assumption) (by assumption) ⟨_, _, _, _, rfl, rfl, by assumption⟩
  · have e : c = 0 := h0 (by omega)
    subst e
    refine hQ1 _ _ ?_
    (try dsimp only)
    k_steps
    exact hret _ _ _ _ (by assumption) (by assumption) ⟨_, _, _, _, rfl, rfl, by assumption⟩

theorem need_shape_con {w mean mg mb} (news : Led) (x : Str) (t : Tok) : Con w mean mg mb 85 3 40 news [.bool true, .str x t] (fun r n' => r = .none ∧ n' = news) := by
  unfold Con
  intro dp un gd cn cs a' ccd cl outer A₀ base h₀ L m s Q E B F X N T hk hd hu hret
  refine wpAny_call ?_
  k_dflt ktr_enter
  refine letAE ?_
  intro tk1 Q1 hQ1 e1 A1
  k_steps
  refine hQ1 _ _ ?_
  (try dsimp only)
  k_steps
  exact hret _ _ _ _ (by assumption) (by assumption) ⟨rfl, rfl⟩

local macro_rules | `(tactic| walk_at "eval ListComp") => `(tactic| (k_here; k_dflt (refine comp_E (by with_unfolding_all rfl) (by rfl) (by decide) ?_)))

theorem copied_con {w mean mg mb} (core news : Led) (hsub : ∀ p ∈ core, p ∈ news) (va : Value) (M : List (List Rat)) (hM : QMat w core va M) (hl : M.length < 100) (hr : ∀ r ∈ M, r.length < 100) :
    Con w mean mg mb 90 3 40 news [va] (NewMat w core news M) := by
  obtain ⟨a, vs, k, rfl, hm, hA⟩ := hM
  have hm' := hsub _ hm
  unfold Con
  intro dp un gd cn cs a' ccd cl outer A₀ base h₀ L m s Q E B F X N T hk hd hu hret
  refine wpAny_call ?_
  k_dflt ktr_enter
  refine letAE ?_
  intro tk1 Q1 hQ1 e1 A1
  rename Fr _ _ _ _ => F0
  replace F0 : Fr _ _ _ (fun y => List.lookup y ([("a", .ref a)] : List (Str × Value))) := F0
  k_steps
  rename Fr _ _ _ _ => FS
  rename News _ _ _ _ => NS
  refine Stop.mk (srcC_list (by rfl) FS NS (hm') ?_)
  clear FS NS
  intro I hI S FI NI
  refine comp_local S (by rw [sizeLine_eq, hA.length]; omega) FI NI (by decide) (by rfl) (by rfl) (fun i ys nx => Gr news (fun add => All2 (QRow w (add ++ core)) ys (M.take i)) nx) (.refl trivial) (fun i ys nx hj p hp => by rw [List.mem_singleton.mp hp]; exact hj.sub _ hm') ?_ (ret_E ?_)
  · intro C D i v ys nx h2 tk2 its oC m2 E2 hi hv hn hx hJ ho F2 N2 Qc Qf hQ hQf
    obtain ⟨row, hrow, b, us, j, rfl, hb, hB⟩ := hA.get hv
    have hb' := hJ.sub _ (hsub _ hb)
    have hlen : us.length ≤ sizeLine := by
      rw [hB.length, sizeLine_eq]
      have := hr row (List.mem_of_getElem? hrow)
      omega
    refine tests0 ?_
    k_steps
    rename Fr _ _ _ _ => F3
    rename News _ _ _ _ => N3
    rename Fresh _ _ => l1
    refine hQ _ _ ?_
    refine cend1 F3 N3 l1 ho (hJ.cons (l1.sub fun p hp => List.mem_append_left _ hp) fun add h => all2_step h (fun _ _ h => QRow.mono h fun _ h => .tail _ h) hrow ⟨_, _, _, rfl, .head _, hB.mono fun _ _ h => NumIn.mono h fun p hp => List.mem_append_right _ hp⟩)
  · intro D ys nx h2 tk2 hf hJ F2 N2 ho
    rw [hA.length, List.take_length] at hJ
    k_steps
    refine hQ1 _ _ ?_
    (try dsimp only)
    k_steps
    exact hret _ _ _ _ (by assumption) (by assumption) ⟨_, _, _, rfl, rfl, hf, fun p hp => ho p hp _ (.head _), hJ⟩
end Mine
-- part: W3
namespace Mine
theorem kfill_W3 : (PySem.Challenge.rw_xm0074_01 = PySem.Challenge.rw_xm0074_01) ∧ Mine.hd.heap_1 = Mine.hd.heap_1 := by
  k_fill
  exact ⟨rfl, rfl⟩
local macro_rules | `(tactic| walk_at "exec While Compare cons nil") => `(tactic| (k_here; refine Stop.go ?_))
local macro_rules | `(tactic| walk_at "call ref") => `(tactic| (k_here; refine Stop.go ?_))
local macro_rules | `(tactic| walk_at "subscriptTail") => `(tactic| (k_here; refine Stop.go ?_))
local macro_rules | `(tactic| walk_at "pyIter ref") => `(tactic| (k_here; refine Stop.go ?_))
local macro_rules | `(tactic| walk_at "call builtin:len") => `(tactic| (k_here; (with_reducible show wpAny _ _ (call (Value.builtin "len") [Value.ref _]) _ _ _); refine' li_len ?k1 ?k2 ?k3 ?_; (case k1 => k_asm); (case k2 => k_mem); (case k3 => omega)))
local macro_rules | `(tactic| walk_at "call type:list") => `(tactic| (k_here; (with_reducible show wpAny _ _ (call (Value.type _) [Value.ref _]) _ _ _); refine' li_copy ?k1 ?k2 ?k3 ?z ?_; (case k1 => k_asm); (case k2 => k_asm); (case k3 => k_mem); (case z => assumption); intro D' c' h' F' N' l1; (try k_sweep)))
local macro_rules | `(tactic| walk_at "eval ListComp") => `(tactic| (k_here; k_dflt (refine comp_E (by with_unfolding_all rfl) (by rfl) (by decide) ?_)))

theorem num_R0 {w : World} {news : Led} : NumIn w news (.ref 42) 0 := ⟨42, _, _, _, rfl, Or.inr (show List.lookup 42 (Mine.hd.heap_1 w.params) = some { cls := .type "tuple", data := .seq #[.int 0 _, .int 1 _] _ } by k_dflt k_is)⟩
theorem num_R1 {w : World} {news : Led} : NumIn w news (.ref 43) 1 := ⟨43, _, _, _, rfl, Or.inr (show List.lookup 43 (Mine.hd.heap_1 w.params) = some { cls := .type "tuple", data := .seq #[.int 1 _, .int 1 _] _ } by k_dflt k_is)⟩


theorem unit_con {w mean mg mb} (core news : Led) (n : Nat) (t : Tok) (hn : n < 100) :
    Con w mean mg mb 95 3 40 news [.int n t] (NewMat w core news (unitMat n)) := by
  unfold Con
  intro dp un gd cn cs a' ccd cl outer A₀ base h₀ L m s Q E B F X N T hk hd hu hret
  refine wpAny_call ?_
  k_dflt ((refine' code_defC ?k1 ?k2 ?k3 ?k4 ?k5 ?kA ?kF ?kK ?k6 ?k7 ?k8 ?k9 ?kB ?kD ?_ ?c2 ?c3 ?c4; (case kA => exact rfl); (case kF => exact rfl); (case kK => assumption); (case k1 => k_asm); (case k2 => k_asm); (case k3 => k_asm); (case k4 => k_asm); (case k5 => k_asm); (case k6 => k_is); (case k7 => k_is); (case k8 => ktr_room); (case k9 => exact BindsTo.of_eq rfl); (case kB => exact rfl); (case kD => decide +kernel); (case c2 => exact rfl); (case c3 => exact rfl); (case c4 => exact rfl); k_whole; intro g' L' h' tk' cells' FG' F' N' Y' B' X' T' l1; (try k_lt l1); k_cells Y'; (try simp only [List.cons_append, List.nil_append] at N'); (try dsimp only); (try k_fold)))
  refine letAE ?_
  intro tk1 Q1 hQ1 e1 A1
  rename Obj => o1
  rename _ = Data.cell _ => d1
  replace d1 : _ = Data.cell (some (.int (n : Int) t)) := d1
  rename Fr _ _ _ _ => F0
  replace F0 : Fr _ _ _ (fun _ => none) := F0
  have hbase : Gr news (fun _ => True) ((L' + 1, o1) :: news) := .one (fresh_succ l1 1) trivial
  k_steps
  rename Fr _ _ _ _ => FS
  rename News _ _ _ _ => NS
  rename IsRange _ _ _ _ _ _ _ _ => RS
  refine Stop.mk (srcC_range (n := n) (by rfl) FS NS RS (by omega) (by omega) (by omega) (by omega) (by omega) ?_)
  clear FS NS RS
  intro I hI S FI NI
  refine comp_cell S ?_ FI NI ?_ ?_ ?_ ?_ (fun i ys nx => Gr ((L' + 1, o1) :: news) (fun add => All2 (QRow w (add ++ core)) ys ((unitMat n).take i)) nx) (.refl trivial) (fun i ys nx hj p hp => nomatch hp) ?_ (ret_E ?_)
  · rw [sizeLine_eq]; omega
  · intro k; rfl
  · intro h; rfl
  · rfl
  · rfl
  · intro C c D i v ys nx h2 tk2 its oC m2 oc E2 hi ⟨t2, hv⟩ hn hx hJ ho F2 N2 Qc Qf hQ hQf
    subst hv
    have hm1 : (L' + 1, o1) ∈ nx := hJ.sub _ (.head _)
    refine tests0 ?_
    k_steps
    rename Fr _ _ _ _ => FS
    rename News _ _ _ _ => NS
    rename IsRange _ _ _ _ _ _ _ _ => RS
    refine Stop.mk (srcC_range (n := n) (by rfl) FS NS RS (by omega) (by omega) (by omega) (by omega) (by omega) ?_)
    clear FS NS RS
    intro I hI S FI NI
    refine comp_local S (by rw [sizeLine_eq]; omega) FI NI (by decide) (by rfl) (by rfl) (fun i2 ys2 nx2 => Gr (nx ++ ((C, oC) :: (c, oc) :: (D, LCg.lst ys) :: its)) (fun add => All2 (NumIn w (add ++ core)) ys2 ((unitRow n i).take i2)) nx2) (.refl trivial) (fun i ys nx hj p hp => nomatch hp) ?_ (ret_E ?_)
    · intro C3 D3 i3 v3 ys3 nx3 h3 tk3 its3 oC3 m3 E3 hi3 ⟨t3, hv3⟩ hn3 hx3 hJ3 ho3 F3 N3 Qc Qf hQ hQf
      subst hv3
      have hm3 : (c, oc) ∈ nx3 := hJ3.sub _ (List.mem_append_right _ (.tail _ (.head _)))
      refine tests0 ?_
      k_steps
      · rename (0 : Int) + _ = _ => he
        have e : i = i3 := by omega
        refine hQ _ _ ?_
        refine cend0 (by assumption) (by assumption) ho3 (hJ3.mono fun add h => all2_step h (fun _ _ h => h) (x := 1) ?_ num_R1)
        simp [unitRow, hi3, e]
      · rename (0 : Int) + _ ≠ _ => he
        have e : i ≠ i3 := by omega
        refine hQ _ _ ?_
        refine cend0 (by assumption) (by assumption) ho3 (hJ3.mono fun add h => all2_step h (fun _ _ h => h) (x := 0) ?_ num_R0)
        simp [unitRow, hi3, e]
    · intro D3 ys3 nx3 h3 tk3 hf3 hJ3 F3 N3 ho3
      have e : (unitRow n i).take n = unitRow n i := List.take_of_length_le (by simp [unitRow])
      rw [e] at hJ3
      have hu : (unitMat n)[i]? = some (unitRow n i) := by simp [unitMat, hi]
      refine hQ _ _ ?_
      refine cendG F3 N3 (P1 := fun add => QRow w (add ++ core) (.ref D3) (unitRow n i)) (hJ3.consB hf3 fun add h => ⟨_, _, _, rfl, .head _, h.mono fun _ _ h => NumIn.add h⟩) ho fun add1 h1 hf1 => ?_
      exact hJ.trans ⟨add1, rfl, hf1, h1⟩ fun add1 add h k => all2_step h (fun _ _ h => QRow.mono h mem_mid) hu (QRow.mono k fun p hp => (List.mem_append.mp hp).elim (fun h => List.mem_append_left _ (List.mem_append_left _ h)) fun h => List.mem_append_right _ h)
  · intro D ys nx h2 tk2 hf hJ F2 N2 ho
    have e : (unitMat n).take n = unitMat n := List.take_of_length_le (by simp [unitMat])
    rw [e] at hJ
    k_steps
    refine hQ1 _ _ ?_
    (try dsimp only)
    k_steps
    exact hret _ _ _ _ (by assumption) (by assumption) (NewMat.weaken ⟨_, _, _, rfl, rfl, hf, fun p hp => ho p hp _ (.head _), hJ⟩ hbase)
end Mine
namespace Mine
theorem kfill_all : (PySem.Challenge.rw_xm0074_01 = PySem.Challenge.rw_xm0074_01) ∧ Mine.hd.heap_1 = Mine.hd.heap_1 := by
  k_fill
  exact ⟨rfl, rfl⟩
local macro_rules | `(tactic| k_mem) => `(tactic| first | exact List.mem_cons_self | (refine List.mem_cons_of_mem _ ?_; k_mem))
local macro_rules | `(tactic| walk_at "mem") => `(tactic| first | exact List.mem_cons_self | (refine List.mem_cons_of_mem _ ?_; walk_at "mem") | (refine List.mem_append_left _ ?_; walk_at "mem") | (refine List.mem_append_right _ ?_; walk_at "mem") | assumption)
local macro_rules | `(tactic| walk_at "sub") => `(tactic| first | exact sub_nil | exact off_nil | (refine sub_cons ?_ ?_; walk_at "mem"; walk_at "sub") | (refine sub_app ?_ ?_ <;> walk_at "sub") | (refine off_cons ?_ ?_; walk_at "ne"; walk_at "sub") | (refine off_app ?_ ?_ <;> walk_at "sub") | assumption | (intro q hq; first | walk_at "mem" | walk_at "ne"))
local macro_rules | `(tactic| walk_at "ne") => `(tactic| first | exact Ne.symm (by assumption) | exact neLt (by assumption) | exact neGt (by assumption) | exact cn12 | exact cn13 | exact cn14 | exact cn15 | exact cn16 | exact cn21 | exact cn23 | exact cn24 | exact cn25 | exact cn26 | exact cn31 | exact cn32 | exact cn34 | exact cn35 | exact cn36 | exact cn41 | exact cn42 | exact cn43 | exact cn45 | exact cn46 | exact cn51 | exact cn52 | exact cn53 | exact cn54 | exact cn56 | exact cn61 | exact cn62 | exact cn63 | exact cn64 | exact cn65 | exact cb1 (by assumption) | exact cb2 (by assumption) | exact cb3 (by assumption) | exact cb4 (by assumption) | exact cb5 (by assumption) | exact cb6 (by assumption) | exact (cb1 (by assumption)).symm | exact (cb2 (by assumption)).symm | exact (cb3 (by assumption)).symm | exact (cb4 (by assumption)).symm | exact (cb5 (by assumption)).symm | exact (cb6 (by assumption)).symm | exact cd1 (by assumption) | exact cd2 (by assumption) | exact cd3 (by assumption) | exact (cd1 (by assumption)).symm | exact (cd2 (by assumption)).symm | exact (cd3 (by assumption)).symm | exact neN (by dsimp only; omega))
local macro_rules | `(tactic| walk_at "exec While Compare cons nil") => `(tactic| (k_here; refine Stop.go ?_))
local macro_rules | `(tactic| walk_at "call ref") => `(tactic| (k_here; refine Stop.go ?_))
local macro_rules | `(tactic| walk_at "subscriptTail") => `(tactic| (k_here; refine Stop.go ?_))
local macro_rules | `(tactic| walk_at "pyIter ref") => `(tactic| (k_here; refine Stop.go ?_))
local macro_rules | `(tactic| walk_at "setItem ref int") => `(tactic| (k_here; refine Stop.go ?_))
local macro_rules | `(tactic| walk_at "call type:enumerate") => `(tactic| (k_here; refine Stop.go ?_))
local macro_rules | `(tactic| walk_at "call builtin:len") => `(tactic| (k_here; (with_reducible show wpAny _ _ (call (Value.builtin "len") [Value.ref _]) _ _ _); refine' li_len ?k1 ?k2 ?k3 ?_; (case k1 => k_asm); (case k2 => k_mem); (case k3 => omega)))
local macro_rules | `(tactic| walk_at "call type:list") => `(tactic| (k_here; (with_reducible show wpAny _ _ (call (Value.type _) [Value.ref _]) _ _ _); refine' li_copy ?k1 ?k2 ?k3 ?z ?_; (case k1 => k_asm); (case k2 => k_asm); (case k3 => k_mem); (case z => assumption); intro D' c' h' F' N' l1; (try k_sweep)))
local macro_rules | `(tactic| walk_at "eval ListComp") => `(tactic| (k_here; k_dflt (refine comp_E (by with_unfolding_all rfl) (by rfl) (by decide) ?_)))
local macro_rules | `(tactic| walk_at "exec Assign cons ListComp") => `(tactic| (k_here; first | (with_reducible refine wpAny_Assign_Subscript ?_ ?_; rotate_left; with_unfolding_all rfl) | k_dflt (refine comp_A (by with_unfolding_all rfl) (by with_unfolding_all rfl) (by rfl) (by decide) ?_) | refine wpAny_Assign_Name ?_))
local macro_rules | `(tactic| walk_at "storeName") => `(tactic| (k_here; first | k_dflt (refine' storeX_L ?F ?N ?_ ?a ?b; (case F => k_asm); (case N => k_asm); (case a => rfl); (case b => rfl); k_whole; intro h' F' N'; (try k_sweep)) | refine Stop.go ?_))
local macro_rules | `(tactic| walk_at "compareOp NotEq ref ref") => `(tactic| (k_here; refine Stop.go ?_))
local macro_rules | `(tactic| walk_at "compareOp NotEq ref") => `(tactic| (k_here; refine Stop.go ?_))
local macro_rules | `(tactic| walk_at "compareOp Eq ref ref") => `(tactic| (k_here; refine Stop.go ?_))
local macro_rules | `(tactic| walk_at "compareOp Eq ref") => `(tactic| (k_here; refine Stop.go ?_))
local macro_rules | `(tactic| walk_at "call builtin:list.append") => `(tactic| (k_here; refine Stop.go ?_))
local macro_rules | `(tactic| walk_at "binaryOp Add ref ref") => `(tactic| (k_here; refine Stop.go ?_))
local macro_rules | `(tactic| walk_at "subscriptTail Name Slice ref ref") => `(tactic| (k_here; refine Stop.go ?_))
local macro_rules | `(tactic| walk_at "exec For Name Call cons nil") => `(tactic| (k_here; (rename Fr _ _ _ _ => lF9); k_dflt (refine For_turns lF9 ?_)))
local macro_rules | `(tactic| walk_at "exec For Name Name cons nil") => `(tactic| (k_here; (rename Fr _ _ _ _ => lF9); k_dflt (refine For_turns lF9 ?_)))
local macro_rules | `(tactic| walk_at "exec For Name Subscript cons nil") => `(tactic| (k_here; (rename Fr _ _ _ _ => lF9); k_dflt (refine For_turns lF9 ?_)))
local macro_rules | `(tactic| walk_at "exec For Tuple Call cons nil") => `(tactic| (k_here; (rename Fr _ _ _ _ => lF9); k_dflt (refine For_turns lF9 ?_)))
local macro_rules | `(tactic| mul_fits) => `(tactic| assumption)
local macro_rules | `(tactic| walk_at "tupItem") => `(tactic| (k_here; (with_reducible show wpAny _ _ (subscriptTail _ _ (Value.ref _) (Value.int _ _)) _ _ _); k_dflt (refine' item_tupleT ?t ?a ?b ?c ?d ?_; (case t => first | exact TupAt.tup (by assumption) (by assumption) (by assumption) (by assumption) (fun _ h => h) | exact News.isTup (by k_asm) (by k_mem)); (case a => decide); (case b => decide); (case c => rfl); (case d => rfl); k_whole)))
local macro_rules | `(tactic| walk_at "subscriptTail") => `(tactic| walk_at "tupItem")
local macro_rules | `(tactic| walk_at "subscriptTail Name Constant ref int") => `(tactic| (k_here; refine Stop.go ?_))
local macro_rules | `(tactic| walk_at "subscriptTail Name Constant ref int") => `(tactic| walk_at "tupItem")
local macro_rules | `(tactic| walk_at "subscriptTail Name Name ref int") => `(tactic| (k_here; refine Stop.go ?_))
local macro_rules | `(tactic| walk_at "subscriptTail Name Name ref int") => `(tactic| walk_at "tupItem")
local macro_rules | `(tactic| walk_at "subscriptTail Subscript Name ref int") => `(tactic| (k_here; refine Stop.go ?_))
local macro_rules | `(tactic| walk_at "subscriptTail Subscript Name ref int") => `(tactic| walk_at "tupItem")
local macro_rules | `(tactic| walk_at "subscriptTail Subscript Constant ref int") => `(tactic| (k_here; refine Stop.go ?_))
local macro_rules | `(tactic| walk_at "subscriptTail Subscript Constant ref int") => `(tactic| walk_at "tupItem")
local macro_rules | `(tactic| walk_at "subscriptTail Call Constant ref int") => `(tactic| (k_here; refine Stop.go ?_))
local macro_rules | `(tactic| walk_at "subscriptTail Call Constant ref int") => `(tactic| walk_at "tupItem")
-- part: W4
section

theorem swap_con {w mean mg mb} (rest : Led) (D : Addr) (vs : List Value) (k i j : Nat) (t u : Tok) (vi vj : Value) (hoff : ∀ p ∈ rest, p.1 ≠ D) (hl : vs.length < 100) (hi : vs[i]? = some vi) (hj : vs[j]? = some vj) :
    Con w mean mg mb 102 3 40 ((D, listOf vs.toArray k) :: rest) [.ref D, .int i t, .int j u] (fun r n' => r = .none ∧ n' = (D, listOf ((vs.set i vj).set j vi).toArray k) :: rest) := by
  have hi' : i < vs.length := by
    rcases Nat.lt_or_ge i vs.length with h | h
    · exact h
    · rw [List.getElem?_eq_none h] at hi; cases hi
  have hj' : j < vs.length := by
    rcases Nat.lt_or_ge j vs.length with h | h
    · exact h
    · rw [List.getElem?_eq_none h] at hj; cases hj
  unfold Con
  intro dp un gd cn cs a' ccd cl outer A₀ base h₀ L m s Q E B F X N T hk hd hu hret
  refine wpAny_call ?_
  k_dflt ktr_enter
  refine letAE ?_
  intro tk1 Q1 hQ1 e1 A1
  rename Fr _ _ _ _ => F0
  replace F0 : Fr _ _ _ (fun y => List.lookup y ([("other", .int j u), ("one", .int i t), ("a", .ref D)] : List (Str × Value))) := F0
  k_steps
  refine Stop.mk (li_item (by assumption) (by k_mem) (by lia) (by lia) (x := vj) (by simpa using hj) ?_)
  k_steps
  refine Stop.mk (li_item (by assumption) (by k_mem) (by lia) (by lia) (x := vi) (by simpa using hi) ?_)
  k_steps
  rename Fr _ _ _ _ => F1
  rename News _ _ _ _ => N1
  refine Stop.mk (li_set F1 (fun p hp => N1 p (.tail _ hp)) hoff (by lia) (by lia) (by lia) fun h5 F5 N5 => ?_)
  clear F1 N1
  k_steps
  rename Fr _ _ _ _ => F1
  rename News _ _ _ _ => N1
  refine Stop.mk (li_set F1 N1 hoff (by lia) (by lia) (by rw [List.length_set]; lia) fun h6 F6 N6 => ?_)
  clear F1 N1
  k_steps
  refine hQ1 _ _ ?_
  (try dsimp only)
  k_steps
  exact hret _ _ _ _ (by assumption) (by assumption) ⟨rfl, rfl⟩

theorem take_con {w mean mg mb} (rest : Led) (D : Addr) (vs : List Value) (k i j : Nat) (t u : Tok) (vi vj : Value) (hoff : ∀ p ∈ rest, p.1 ≠ D) (hl : vs.length < 100) (hi : vs[i]? = some vi) (hj : vs[j]? = some vj)
    (vq : Value) (q : Rat) (hq : NumIn w rest vq q) (ri rj : List Rat) (hri : QRow w rest vi ri) (hrj : QRow w rest vj rj) (hlen : ri.length ≤ rj.length) (hc : ri.length < 100) (b : Nat) (hb : b < 1000)
    (hzi : ∀ x ∈ ri, Sz b x) (hzj : ∀ x ∈ rj, Sz (2 * b) x) (hzq : Sz b q) :
    Con w mean mg mb 107 14 140 ((D, listOf vs.toArray k) :: rest) [.ref D, .int i t, .int j u, vq] (fun r n' => r = .none ∧ ∃ b' ys add, n' = (D, listOf (vs.set i (.ref b')).toArray k) :: ((b', LCg.lst ys) :: (add ++ rest)) ∧
      (∀ p ∈ (b', LCg.lst ys) :: add, Fresh p.1 ((D, listOf vs.toArray k) :: rest)) ∧ All2 (NumIn w add) ys (ri.zipWith (fun x y => x - q * y) rj)) := by
  unfold Con
  intro dp un gd cn cs a' ccd cl outer A₀ base h₀ L m s Q E B F X N T hk hd hu hret
  refine wpAny_call ?_
  k_dflt ((refine' code_defC ?k1 ?k2 ?k3 ?k4 ?k5 ?kA ?kF ?kK ?k6 ?k7 ?k8 ?k9 ?kB ?kD ?_ ?c2 ?c3 ?c4; (case kA => exact rfl); (case kF => exact rfl); (case kK => assumption); (case k1 => k_asm); (case k2 => k_asm); (case k3 => k_asm); (case k4 => k_asm); (case k5 => k_asm); (case k6 => k_is); (case k7 => k_is); (case k8 => ktr_room); (case k9 => exact BindsTo.of_eq rfl); (case kB => exact rfl); (case kD => decide +kernel); (case c2 => exact rfl); (case c3 => exact rfl); (case c4 => exact rfl); k_whole; intro g' L' h' tk' cells' FG' F' N' Y' B' X' T' l1; (try k_lt l1); k_cells Y'; (try simp only [List.cons_append, List.nil_append] at N'); (try dsimp only); (try k_fold)))
  refine letAE ?_
  intro tk1 Q1 hQ1 e1 A1
  rename_i o1 o2 o3 d1 d2 d3
  replace d1 : o1.data = Data.cell (some vq) := d1
  replace d2 : o2.data = Data.cell (some (.int (j : Int) u)) := d2
  replace d3 : o3.data = Data.cell (some (.ref D)) := d3
  rename Fr _ _ _ _ => F0
  replace F0 : Fr _ _ _ (fun y => if y = "row" then some (Value.int (i : Int) t) else none) := F0
  refine hideG fun Gd hGd => ?_
  obtain ⟨bi, usi, ki, rfl, hbi, hAi⟩ := hri
  obtain ⟨bj, usj, kj, rfl, hbj, hAj⟩ := hrj
  refine hGd ?_
  clear hGd Gd
  have hi' : i < vs.length := by
    rcases Nat.lt_or_ge i vs.length with h | h
    · exact h
    · rw [List.getElem?_eq_none h] at hi; cases hi
  have hj' : j < vs.length := by
    rcases Nat.lt_or_ge j vs.length with h | h
    · exact h
    · rw [List.getElem?_eq_none h] at hj; cases hj
  have hD : (D, listOf vs.toArray k) ∈ (L' + 1 + 1 + 1, o1) :: (L' + 1 + 1, o2) :: (L' + 1, o3) :: (D, listOf vs.toArray k) :: rest := by walk_at "mem"
  k_steps
  refine Stop.mk (li_item (by assumption) (by k_mem) (by lia) (by lia) (x := .ref bi) (by simpa using hi) ?_)
  k_steps
  have hbi' : (bi, listOf usi.toArray ki) ∈ (L' + 1 + 1 + 1, o1) :: (L' + 1 + 1, o2) :: (L' + 1, o3) :: (D, listOf vs.toArray k) :: rest := by walk_at "mem"
  rename Fr _ _ _ _ => FS
  rename News _ _ _ _ => NS
  refine Stop.mk (enum_call FS NS (hbi') ?_)
  clear FS NS
  intro eE eI hE FE NE hEn hEl hEe hElt hELt hE1 hE2
  k_steps
  refine Stop.mk (srcC_enum (by rfl) FE NE (hbi') hEn hEl hEe hElt hELt hE1 hE2 ?_)
  intro S
  refine comp_pair (by rfl) S (by rw [sizeLine_eq, hAi.length]; lia) FE NE (by decide) (by rfl) (by rfl) (by rfl) (by decide) (fun n ys nx => Gr ((L' + 1 + 1 + 1, o1) :: (L' + 1 + 1, o2) :: (L' + 1, o3) :: (D, listOf vs.toArray k) :: rest) (fun add => All2 (NumIn w add) ys ((ri.zipWith (fun x y => x - q * y) rj).take n)) nx) (.refl trivial) (fun i ys nx hj p hp => by rw [List.mem_singleton.mp hp]; exact hj.sub _ hbi') ?_ (ret_E ?_)
  · intro C D2 n y tn ys nx h2 tk2 its oC m2 E2 hn hv hNs hx1 hx2 hJ ho F2 N2 Qc Qf hQ hQf
    refine hideG fun Gd hGd => ?_
    obtain ⟨x, hx, hxn⟩ := hAi.get hv
    have hnj : n < rj.length := by rw [hAi.length] at hn; lia
    obtain ⟨vz, hvz, hzn⟩ := hAj.get' (List.getElem?_eq_getElem hnj)
    refine hGd ?_
    clear hGd Gd
    have hn100 : n < 100 := by rw [hAi.length] at hn; lia
    have c1 : (L' + 1 + 1 + 1, o1) ∈ nx := hJ.sub _ (by walk_at "mem")
    have c2 : (L' + 1 + 1, o2) ∈ nx := hJ.sub _ (by walk_at "mem")
    have c3 : (L' + 1, o3) ∈ nx := hJ.sub _ (by walk_at "mem")
    have c4 : (D, listOf vs.toArray k) ∈ nx := hJ.sub _ hD
    have c5 : (bj, listOf usj.toArray kj) ∈ nx := hJ.sub _ (by walk_at "mem")
    refine tests0 ?_
    k_steps
    refine Stop.mk (li_item (by assumption) (by k_mem) (by lia) (by lia) (x := .ref bj) (by simpa using hj) ?_)
    k_steps
    refine Stop.mk (li_item (by assumption) (by k_mem) (by lia) (by lia) (x := vz) (by simpa using hvz) ?_)
    k_steps
    have hsub : ∀ p ∈ rest, p ∈ nx ++ ((C, oC) :: (D2, LCg.lst ys) :: its) := fun p hp => List.mem_append_left _ (hJ.sub _ (by walk_at "mem"))
    refine' Con.use (rmul_con _ _ _ _ _ (hq.mono hsub) (hzn.mono hsub) _ _ hzq (hzj _ (List.getElem_mem hnj)) (by lia)) ?k1 ?k2 ?k3 ?k4 ?k5 ?kK ?kd ?ku ?_
    (case k1 => k_asm)
    (case k2 => k_asm)
    (case k3 => k_asm)
    (case k4 => k_asm)
    (case k5 => k_asm)
    (case kK => first | exact rfl | assumption)
    (case kd => ktr_room)
    (case ku => ktr_units)
    intro r9 n9 h9 tk9 F9 N9 R9
    have hr9 := R9.num (w := w)
    refine hideG fun Gd hGd => ?_
    obtain ⟨D9, t9, u9, k9, rfl, rfl, hf9⟩ := R9
    refine hGd ?_
    clear hGd Gd
    k_steps
    refine' Con.use (rsub_con _ _ _ _ _ (hxn.mono fun p hp => .tail _ (hsub p hp)) hr9 _ _ (hzi _ (List.mem_of_getElem? hx)) (sz_mul hzq (hzj _ (List.getElem_mem hnj))) (by lia)) ?k1 ?k2 ?k3 ?k4 ?k5 ?kK ?kd ?ku ?_
    (case k1 => k_asm)
    (case k2 => k_asm)
    (case k3 => k_asm)
    (case k4 => k_asm)
    (case k5 => k_asm)
    (case kK => first | exact rfl | assumption)
    (case kd => ktr_room)
    (case ku => ktr_units)
    intro r8 n8 h8 tk8 F8 N8 hp1_
    refine hideG fun Gd hGd => ?_
    obtain ⟨D8, t8, u8, k8, rfl, rfl, hf8⟩ := hp1_
    refine hGd ?_
    clear hGd Gd
    k_steps
    have hz : ((ri.zipWith (fun x y => x - q * y) rj))[n]? = some (x - q * rj[n]) := by
      rw [List.getElem?_zipWith, hx, List.getElem?_eq_getElem hnj]
    refine hQ _ _ ?_
    refine cendG F8 N8 (P1 := fun add => NumIn w add (.ref D8) (x - q * rj[n])) ((Gr.one (P := fun _ => True) (q := (D9, _)) hf9 trivial).cons (q := (D8, _)) hf8 fun add _ => ⟨D8, t8, u8, k8, rfl, .inl (.head _)⟩) ho fun add1 h1 hf1 => ?_
    exact hJ.trans ⟨add1, rfl, hf1, h1⟩ fun add1 add h k => all2_step h (fun _ _ h => NumIn.mono h fun _ hp => List.mem_append_right _ hp) hz (NumIn.mono k fun _ hp => List.mem_append_left _ hp)
  · intro D2 ys nx h2 tk2 hf hJ F2 N2 ho
    have c3 : (L' + 1, o3) ∈ nx := hJ.sub _ (by walk_at "mem")
    have e : (ri.zipWith (fun x y => x - q * y) rj).take usi.length = ri.zipWith (fun x y => x - q * y) rj := List.take_of_length_le (by rw [List.length_zipWith, hAi.length]; exact Nat.min_le_left _ _)
    rw [e] at hJ
    refine hideG fun Gd hGd => ?_
    obtain ⟨add, rfl, hfa, hA2⟩ := hJ
    refine hGd ?_
    clear hGd Gd
    (try dsimp only)
    k_steps

    rename Fr _ _ _ _ => F5
    rename News _ _ _ _ => N5
    have hmD : (D, listOf vs.toArray k) ∈ (L' + 1 + 1 + 1, o1) :: (L' + 1 + 1, o2) :: (L' + 1, o3) :: (D, listOf vs.toArray k) :: rest := hD
    refine Stop.mk (li_set (vs := vs) (n := k) (rest := (D2, LCg.lst ys) :: (add ++ rest)) F5 (fun p hp => N5 p ?_) (fun p hp => ?_) (by lia) (by lia) (by lia) fun h5 F6 N6 => ?_)
    · rcases List.mem_cons.mp hp with rfl | hp
      · exact .tail _ (List.mem_append_right _ hmD)
      · rcases List.mem_cons.mp hp with rfl | hp
        · exact .head _
        · rcases List.mem_append.mp hp with hp | hp
          · exact .tail _ (List.mem_append_left _ hp)
          · exact .tail _ (List.mem_append_right _ (by walk_at "mem"))
    · rcases List.mem_cons.mp hp with rfl | hp
      · exact fun e => Nat.lt_irrefl _ (e ▸ hf _ hmD)
      · rcases List.mem_append.mp hp with hp | hp
        · exact fun e => Nat.lt_irrefl _ (e ▸ hfa _ hp _ hmD)
        · exact hoff _ hp
    clear F5 N5
    k_steps
    refine hQ1 _ _ ?_
    (try dsimp only)
    k_steps
    refine hret _ _ _ _ (by assumption) (by assumption) ⟨rfl, D2, ys, add, rfl, fun p hp => ?_, hA2⟩
    rcases List.mem_cons.mp hp with rfl | hp
    · exact Fresh.sub hf fun p hp => .tail _ (.tail _ (.tail _ hp))
    · exact (hfa p hp).sub fun p hp => .tail _ (.tail _ (.tail _ hp))
end
-- part: EchInv
section
structure EInv (nr nc : Nat) (st : List (List Rat) × List Nat) : Prop where
  rows : st.1.length = nr
  cols : ∀ r ∈ st.1, r.length = nc
  piv : st.2.length ≤ nr
  lt : ∀ c ∈ st.2, c < nc
  sz : ∀ r ∈ st.1, ∀ x ∈ r, Sz (bd st.2.length) x

theorem getD_mem {α : Type} {l : List α} {i : Nat} {d : α} (h : i < l.length) : l.getD i d ∈ l := by
  rw [List.getD_eq_getElem?_getD, List.getElem?_eq_getElem h]
  exact List.getElem_mem h
theorem spots_mem {M : List (List Rat)} {r c p : Nat} (h : p ∈ spots M r c) : r ≤ p ∧ p < M.length ∧ ent (M.getD p []) c ≠ 0 := by
  unfold spots at h
  rw [List.mem_filter, List.mem_range'_1] at h
  refine hideG fun Gd hGd => ?_
  obtain ⟨⟨h1, h2⟩, h3⟩ := h
  refine hGd ?_
  clear hGd Gd
  exact ⟨h1, by lia, by simpa using h3⟩
theorem swapL_length {α : Type} {M : List α} {d : α} {i j : Nat} : (swapL M d i j).length = M.length := by simp [swapL]
theorem swapL_mem {α : Type} {M : List α} {d x : α} {i j : Nat} (hi : i < M.length) (hj : j < M.length) (h : x ∈ swapL M d i j) : x ∈ M := by
  unfold swapL at h
  rcases List.mem_or_eq_of_mem_set h with h | h
  · rcases List.mem_or_eq_of_mem_set h with h | h
    · exact h
    · rw [h]; exact getD_mem hj
  · rw [h]; exact getD_mem hi
theorem bd_mono {a b : Nat} (h : a ≤ b) : bd a ≤ bd b := by
  induction b with
  | zero => rw [Nat.le_zero.mp h]; exact Nat.le_refl _
  | succ n ih =>
    rcases Nat.lt_or_ge a (n + 1) with h1 | h1
    · have := ih (by lia)
      simp only [bd]
      lia
    · rw [Nat.le_antisymm h h1]; exact Nat.le_refl _
theorem sz_zero {b : Nat} (hb : 0 < b) : Sz b 0 := ⟨by simpa using Nat.two_pow_pos b, by simpa using Nat.one_lt_two_pow (by lia)⟩
theorem ent_mem {row : List Rat} {c : Nat} (h : c < row.length) : ent row c ∈ row := getD_mem h

/-- after the swap and the division -/
structure EMid (nr nc r c b : Nat) (M : List (List Rat)) : Prop where
  rows : M.length = nr
  cols : ∀ x ∈ M, x.length = nc
  hr : r < nr
  hc : c < nc
  szr : ∀ x ∈ M.getD r [], Sz (2 * b) x
  sz : ∀ o, o < nr → o ≠ r → ∀ x ∈ M.getD o [], Sz b x

theorem swap_sz {nr nc p c : Nat} {st : List (List Rat) × List Nat} (I : EInv nr nc st) (hp : p ∈ spots st.1 st.2.length c) :
    st.2.length < nr ∧ p < nr ∧ (swapL st.1 [] st.2.length p).length = nr ∧ (∀ x ∈ swapL st.1 [] st.2.length p, x.length = nc ∧ ∀ y ∈ x, Sz (bd st.2.length) y) ∧ (swapL st.1 [] st.2.length p).getD st.2.length [] = st.1.getD p [] := by
  refine hideG fun Gd hGd => ?_
  obtain ⟨h1, h2, h3⟩ := spots_mem hp
  refine hGd ?_
  clear hGd Gd
  have hr : st.2.length < st.1.length := by lia
  refine ⟨by rw [← I.rows]; exact hr, by rw [← I.rows]; exact h2, by rw [swapL_length, I.rows], fun x hx => ?_, ?_⟩
  · have hm := swapL_mem hr h2 hx
    exact ⟨I.cols x hm, I.sz x hm⟩
  · unfold swapL
    rw [List.getD_eq_getElem?_getD, List.getElem?_set, List.getElem?_set]
    by_cases e : p = st.2.length
    · subst e
      simp [hr]
    · rw [if_neg e, if_pos rfl, if_pos hr]; simp

theorem mid_of {nr nc p c : Nat} {st : List (List Rat) × List Nat} (I : EInv nr nc st) (hc : c < nc) (hp : p ∈ spots st.1 st.2.length c) :
    EMid nr nc st.2.length c (bd st.2.length) ((swapL st.1 [] st.2.length p).set st.2.length (pivotRow (swapL st.1 [] st.2.length p) st.2.length c)) := by
  refine hideG fun Gd hGd => ?_
  obtain ⟨h1, h2, h3, h4, h5⟩ := swap_sz I hp
  obtain ⟨_, _, h6⟩ := spots_mem hp
  refine hGd ?_
  clear hGd Gd
  have hm : (swapL st.1 [] st.2.length p).getD st.2.length [] ∈ swapL st.1 [] st.2.length p := getD_mem (by lia)
  have hlen := (h4 _ hm).1
  have hne : ent ((swapL st.1 [] st.2.length p).getD st.2.length []) c ≠ 0 := by rw [h5]; exact h6
  have hpr : (pivotRow (swapL st.1 [] st.2.length p) st.2.length c).length = nc := by rw [pivotRow, List.length_map, hlen]
  refine ⟨by rw [List.length_set, h3], fun x hx => ?_, h1, hc, fun x hx => ?_, fun o ho hor x hx => ?_⟩
  · rcases List.mem_or_eq_of_mem_set hx with h | h
    · exact (h4 x h).1
    · rw [h]; exact hpr
  · rw [List.getD_eq_getElem?_getD, List.getElem?_set, if_pos rfl, if_pos (by lia)] at hx
    simp only [Option.getD_some, pivotRow, List.mem_map] at hx
    refine hideG fun Gd hGd => ?_
    obtain ⟨y, hy, rfl⟩ := hx
    refine hGd ?_
    clear hGd Gd
    have := sz_div ((h4 _ hm).2 y hy) ((h4 _ hm).2 _ (ent_mem (by lia))) hne
    rw [Nat.two_mul]
    exact this
  · rw [List.getD_eq_getElem?_getD, List.getElem?_set, if_neg (Ne.symm hor), ← List.getD_eq_getElem?_getD] at hx
    exact (h4 _ (getD_mem (by lia))).2 x hx

theorem elim_length {pr row : List Rat} {c : Nat} (h : row.length ≤ pr.length) : (elim pr c row).length = row.length := by
  unfold elim
  split
  · rfl
  · rw [List.length_zipWith]; lia
theorem elimAll_length {M : List (List Rat)} {r c k : Nat} : (elimAll M r c k).length = M.length := by simp [elimAll]
theorem elimAll_get {M : List (List Rat)} {r c k o : Nat} (ho : o < M.length) : (elimAll M r c k).getD o [] = if o < k ∧ o ≠ r then elim (M.getD r []) c (M.getD o []) else M.getD o [] := by
  simp only [elimAll, List.getD_eq_getElem?_getD, List.getElem?_mapIdx, List.getElem?_eq_getElem ho, Option.map_some, Option.getD_some]
theorem elimAll_zero {M : List (List Rat)} {r c : Nat} : elimAll M r c 0 = M := by
  apply List.ext_getElem
  · exact elimAll_length
  · intro i h1 h2
    simp [elimAll]
theorem elimAll_succ {M : List (List Rat)} {r c k : Nat} (hk : k < M.length) : elimAll M r c (k + 1) = if k ≠ r then (elimAll M r c k).set k (elim (M.getD r []) c (M.getD k [])) else elimAll M r c k := by
  apply List.ext_getElem?
  intro i
  by_cases hr : k = r
  · subst hr
    simp only [elimAll, List.getElem?_mapIdx, ne_eq, not_true, if_false]
    congr 1
    funext row
    by_cases h : i < k
    · rw [if_pos ⟨by lia, by lia⟩, if_pos ⟨h, by lia⟩]
    · rw [if_neg (by lia), if_neg (by lia)]
  · rw [if_pos hr]
    simp only [elimAll, List.getElem?_set, List.getElem?_mapIdx, List.length_mapIdx]
    by_cases h : k = i
    · subst h
      rw [if_pos rfl, if_pos hk, List.getElem?_eq_getElem hk]
      simp [hr, List.getD_eq_getElem?_getD, List.getElem?_eq_getElem hk]
    · rw [if_neg h]
      congr 1
      funext row
      by_cases h2 : i < k ∧ i ≠ r
      · rw [if_pos h2, if_pos ⟨by lia, h2.2⟩]
      · rw [if_neg h2, if_neg (by lia)]

theorem elim_sz {pr row : List Rat} {c b : Nat} (hb : 0 < b) (hpr : ∀ x ∈ pr, Sz (2 * b) x) (hrow : ∀ x ∈ row, Sz b x) (hc : c < row.length) : ∀ x ∈ elim pr c row, Sz (4 * b + 1) x := by
  intro x hx
  unfold elim at hx
  split at hx
  · exact (hrow x hx).mono (by lia)
  · rw [List.mem_iff_getElem?] at hx
    refine hideG fun Gd hGd => ?_
    obtain ⟨i, hi⟩ := hx
    refine hGd ?_
    clear hGd Gd
    rw [List.getElem?_zipWith] at hi
    cases h1 : row[i]? with
    | none => rw [h1] at hi; cases hi
    | some y =>
      cases h2 : pr[i]? with
      | none => rw [h1, h2] at hi; cases hi
      | some z =>
        rw [h1, h2] at hi
        cases hi
        have hq := hrow _ (ent_mem hc)
        have := sz_sub (hrow y (List.mem_of_getElem? h1)) (sz_mul hq (hpr z (List.mem_of_getElem? h2)))
        exact this.mono (by lia)

theorem step_inv {nr nc c : Nat} {st : List (List Rat) × List Nat} (I : EInv nr nc st) (hc : c < nc) : EInv nr nc (stepM st c) := by
  unfold stepM
  split
  · exact I
  · rename_i p t he
    have hp : p ∈ spots st.1 st.2.length c := by rw [he]; exact .head _
    have D := mid_of I hc hp
    have hb : 0 < bd st.2.length := Nat.lt_of_lt_of_le (by decide) (bd_mono (Nat.zero_le _))
    dsimp only
    generalize hM2 : (swapL st.1 [] st.2.length p).set st.2.length (pivotRow (swapL st.1 [] st.2.length p) st.2.length c) = M2 at D
    have hlen : ∀ o, o < nr → (M2.getD o []).length = nc := fun o ho => D.cols _ (getD_mem (by rw [D.rows]; exact ho))
    have row_at : ∀ x ∈ elimAll M2 st.2.length c M2.length, ∃ o, o < nr ∧ x = (elimAll M2 st.2.length c M2.length).getD o [] := fun x hx => by
      refine hideG fun Gd hGd => ?_
      obtain ⟨o, ho, rfl⟩ := List.getElem_of_mem hx
      refine hGd ?_
      clear hGd Gd
      rw [elimAll_length, D.rows] at ho
      exact ⟨o, ho, by rw [List.getD_eq_getElem?_getD, List.getElem?_eq_getElem]; rfl⟩
    refine ⟨by rw [elimAll_length, D.rows], fun x hx => ?_, by rw [List.length_append, List.length_singleton]; exact D.hr, fun x hx => ?_, fun x hx y hy => ?_⟩
    · refine hideG fun Gd hGd => ?_
      obtain ⟨o, ho, rfl⟩ := row_at x hx
      refine hGd ?_
      clear hGd Gd
      rw [elimAll_get (by rw [D.rows]; exact ho)]
      split
      · rw [elim_length (by rw [hlen o ho, hlen _ D.hr]; exact Nat.le_refl _), hlen o ho]
      · exact hlen o ho
    · rcases List.mem_append.mp hx with h | h
      · exact I.lt x h
      · rw [List.mem_singleton.mp h]; exact hc
    · refine hideG fun Gd hGd => ?_
      obtain ⟨o, ho, rfl⟩ := row_at x hx
      refine hGd ?_
      clear hGd Gd
      rw [elimAll_get (by rw [D.rows]; exact ho)] at hy
      rw [List.length_append, List.length_singleton]
      simp only [bd]
      split at hy
      · rename_i hcond
        exact elim_sz hb D.szr (D.sz o ho hcond.2) (by rw [hlen o ho]; exact hc) y hy
      · rename_i hcond
        by_cases e : o = st.2.length
        · subst e
          exact (D.szr y hy).mono (by lia)
        · exact absurd ⟨by rw [D.rows]; exact ho, e⟩ hcond

theorem ech_inv {nr nc : Nat} {M : List (List Rat)} (hl : M.length = nr) (hr : ∀ r ∈ M, r.length = nc) (hs : ∀ r ∈ M, ∀ x ∈ r, Sz 6 x) : ∀ k, k ≤ nc → EInv nr nc ((List.range k).foldl stepM (M, []))
  | 0, _ => ⟨hl, hr, Nat.zero_le _, fun _ h => (nomatch h), hs⟩
  | k + 1, h => by
    rw [List.range_succ, List.foldl_append]
    exact step_inv (ech_inv hl hr hs k (by lia)) (by lia)
end
-- part: Tools
section
section
variable {prog : Program} {w : World} {A : Around} {E : Value → Shared → Prop} {s : Shared} {h₀ : Heap} {L : Addr} {m : Str → Option Value} {news : Led}
theorem NumIn.reads {v : Value} {q : Rat} (h : NumIn w news v q) (F : Fr h₀ L s.heap m) (X : (Mine.hd.heap_1 w.params).In h₀) (N : News h₀ L s.heap news) : Reads s.heap v (.tuple [.int q.num, .int q.den]) [] := by
  obtain ⟨a, t, u, n, rfl, hA⟩ := h
  obtain ⟨o, h1, h2, k, h3⟩ := hA.tup F X N fun _ h => h
  exact reads_tuple_at h1 h2 h3 (readsAll_cons_val (.int _ _) (readsAll_cons_val (.int _ _) .nil))
theorem eqv_num (p q : Rat) : PyData.eqv (.tuple [.int p.num, .int p.den]) (.tuple [.int q.num, .int q.den]) = decide (p = q) := by
  simp only [PyData.eqv, PyData.eqvAll, Bool.and_true]
  by_cases h : p = q
  · subst h; simp
  · rw [decide_eq_false h]
    simp only [Bool.and_eq_false_iff, beq_eq_false_iff_ne, ne_eq]
    by_cases h1 : p.num = q.num
    · refine .inr fun h2 => h (Rat.ext h1 (by exact_mod_cast h2))
    · exact .inl h1
theorem ne_num {v u : Value} {p q : Rat} {Q : Value → Shared → Prop} (hv : NumIn w news v p) (hu : NumIn w news u q) (F : Fr h₀ L s.heap m) (X : (Mine.hd.heap_1 w.params).In h₀) (N : News h₀ L s.heap news) (hr : A.units + 64 < cLine)
    (h : Q (.bool (!decide (p = q))) s) : wpAny (model prog w) A (compareOp .NotEq v u) Q E s :=
  ne_dataH (hv.reads F X N) (hu.reads F X N) (by rfl) (by rfl) hr (by rw [eqv_num]; exact h)
theorem li_append {l : Addr} {vs : List Value} {n : Nat} {v : Value} {rest : Led} {Q : Value → Shared → Prop} (F : Fr h₀ L s.heap m) (N : News h₀ L s.heap ((l, listOf vs.toArray n) :: rest)) (off : ∀ p ∈ rest, p.1 ≠ l) (hsz : vs.length ≤ sizeLine)
    (h : ∀ h', Fr h₀ L h' m → News h₀ L h' ((l, listOf (vs ++ [v]).toArray (n + 1)) :: rest) → Q .none { s with heap := h' }) :
    wpAny (model prog w) A (call (.builtin "list.append") [.ref l, v]) Q E s := by
  have z := N (l, listOf vs.toArray n) (.head _)
  refine append_at (hsz := by simpa using hsz) z.1 fun h' hs hD => h h' (F.change hs z.2.1 z.2.2) fun p hp => ?_
  rcases List.mem_cons.mp hp with rfl | hp
  · exact ⟨by rw [hD, List.push_toArray], z.2⟩
  · exact ⟨hs.extBut _ _ (off p hp) (N p (.tail _ hp)).1, (N p (.tail _ hp)).2⟩
theorem st_cell {a : Addr} {cn : Str} {cs : Scope} {ccd : Value} {cl : List (Str × Addr)} {x : Str} {v : Value} {Q : Unit → Shared → Prop} {c : Addr} {o : Obj} {v₀ : Option Value} {rest : Led} (F : Fr h₀ L s.heap m) (N : News h₀ L s.heap ((c, o) :: rest)) (off : ∀ p ∈ rest, p.1 ≠ c)
    (hc : cl.lookup x = some c) (hd : o.data = .cell v₀)
    (h : ∀ h' o', Fr h₀ L h' m → News h₀ L h' ((c, o') :: rest) → o'.data = .cell (some v) → Q () { s with heap := h' })
    (hk : cs.kind = .function) (hx : (envX cn cs L a ccd cl).kindOf x = some .cell) : wpAny (model prog w) A (storeName (envX cn cs L a ccd cl) x v) Q E s :=
  storeX_C F N hc (UpdF.head off) hd h hk hx
end
end
-- part: W5
section

/-- between the turns of echelon's loop -/
inductive EJ (w : World) (news : Led) (va : Value) (cl cc cf P D : Addr) (M0 : List (List Rat)) (i : Nat) (m : Str → Option Value) (nx : Led) : Prop
  | mk (o1 o2 o3 : Obj) (x1 x2 : Option Value) (pvs : List Value) (kp : Nat) (rows : List Value) (kd : Nat) (imm : Led)
    (h1 : nx = (cl, o1) :: (cc, o2) :: (cf, o3) :: (P, listOf pvs.toArray kp) :: (D, listOf rows.toArray kd) :: imm)
    (h2 : ∀ p ∈ imm, p.1 ≠ cl ∧ p.1 ≠ cc ∧ p.1 ≠ cf ∧ p.1 ≠ P ∧ p.1 ≠ D)
    (d1 : o1.data = Data.cell x1) (d2 : o2.data = Data.cell x2) (d3 : o3.data = Data.cell (some (.ref D))) (h3 : ∀ p ∈ news, p ∈ imm)
    (h4 : All2 (QRow w imm) rows ((List.range i).foldl stepM (M0, [])).1) (h5 : All2 IntIn pvs (((List.range i).foldl stepM (M0, [])).2.map Int.ofNat))
    (h6 : m "a" = some va) (h7 : m "pivots" = some (.ref P)) : EJ w news va cl cc cf P D M0 i m nx
/-- between the turns of its inner loop -/
inductive EK (w : World) (news its : Led) (va : Value) (D cl cc cf P : Addr) (q1 q2 q3 : Obj) (pvs : List Value) (kp kd : Nat) (M2 : List (List Rat)) (r c n k : Nat) (m : Str → Option Value) (nx : Led) : Prop
  | mk (rows3 : List Value) (imm3 : Led) (h1 : nx = (D, listOf rows3.toArray kd) :: (cl, q1) :: (cc, q2) :: (cf, q3) :: (P, listOf pvs.toArray kp) :: (imm3 ++ its))
    (h2 : ∀ p ∈ imm3, ∀ q ∈ its, p.1 ≠ q.1) (h3 : ∀ p ∈ imm3, p.1 ≠ cl ∧ p.1 ≠ cc ∧ p.1 ≠ cf ∧ p.1 ≠ P ∧ p.1 ≠ D) (h4 : ∀ p ∈ news, p ∈ imm3)
    (h5 : All2 (QRow w imm3) rows3 (elimAll M2 r c k)) (h6 : k ≤ n) (h7 : m "a" = some va) (h8 : m "pivots" = some (.ref P)) (tr : Tok) (h9 : m "row" = some (.int (pvs.length : Int) tr)) :
    EK w news its va D cl cc cf P q1 q2 q3 pvs kp kd M2 r c n k m nx
theorem ech_con {w mean mg mb} (news : Led) (va : Value) (M : List (List Rat)) (nc : Nat) (hM : QMat w news va M) (hl : M.length ≤ 4) (hl0 : 0 < M.length) (hr : ∀ r ∈ M, r.length = nc) (hc : nc ≤ 8) (hs : ∀ r ∈ M, ∀ x ∈ r, Sz 6 x) :
    Con w mean mg mb 112 20 220 news [va] (fun r n' => ∃ T D P tn, r = .ref T ∧ (T, ({ cls := .type "tuple", data := .seq #[.ref D, .ref P] tn } : Obj)) ∈ n' ∧ (∀ p ∈ news, p ∈ n') ∧ QMat w n' (.ref D) (ech M nc).1 ∧ LiAt n' IntIn (.ref P) ((ech M nc).2.map Int.ofNat)) := by
  refine hideG fun Gd hGd => ?_
  obtain ⟨a, vs, k, rfl, hm, hA0⟩ := hM
  refine hGd ?_
  clear hGd Gd
  unfold Con
  intro dp un gd cn cs a' ccd cl outer A₀ base h₀ L m s Q E B F X N T hk hd hu hret
  refine wpAny_call ?_
  k_dflt ((refine' code_defC ?k1 ?k2 ?k3 ?k4 ?k5 ?kA ?kF ?kK ?k6 ?k7 ?k8 ?k9 ?kB ?kD ?_ ?c2 ?c3 ?c4; (case kA => exact rfl); (case kF => exact rfl); (case kK => assumption); (case k1 => k_asm); (case k2 => k_asm); (case k3 => k_asm); (case k4 => k_asm); (case k5 => k_asm); (case k6 => k_is); (case k7 => k_is); (case k8 => ktr_room); (case k9 => exact BindsTo.of_eq rfl); (case kB => exact rfl); (case kD => decide +kernel); (case c2 => exact rfl); (case c3 => exact rfl); (case c4 => exact rfl); k_whole; intro g' L' h' tk' cells' FG' F' N' Y' B' X' T' l1; (try k_lt l1); k_cells Y'; (try simp only [List.cons_append, List.nil_append] at N'); (try dsimp only); (try k_fold)))
  refine letAE ?_
  intro tk1 Q1 hQ1 e1 A1
  rename_i o1 o2 o3 d1 d2 d3
  replace d1 : o1.data = Data.cell none := d1
  replace d2 : o2.data = Data.cell none := d2
  replace d3 : o3.data = Data.cell none := d3
  rename Fr _ _ _ _ => F0
  replace F0 : Fr _ _ _ (fun y => if y = "a" then some (.ref a) else none) := F0
  have hsub : ∀ p ∈ news, p ∈ (L' + 1 + 1 + 1, o1) :: (L' + 1 + 1, o2) :: (L' + 1, o3) :: news := fun p hp => .tail _ (.tail _ (.tail _ hp))
  k_steps
  refine' Con.use (copied_con _ _ hsub _ _ ⟨a, vs, k, rfl, hm, hA0⟩ (by lia) (fun r h => by rw [hr r h]; omega)) ?k1 ?k2 ?k3 ?k4 ?k5 ?kK ?kd ?ku ?_
  (case k1 => k_asm)
  (case k2 => k_asm)
  (case k3 => k_asm)
  (case k4 => k_asm)
  (case k5 => k_asm)
  (case kK => first | exact rfl | assumption)
  (case kd => ktr_room)
  (case ku => ktr_units)
  intro r1 n1 h1 tk1 F1 N1 hp1_
  refine hideG fun Gd hGd => ?_
  obtain ⟨D, ys, nx, rfl, rfl, hfD, hoD, hg⟩ := hp1_
  refine hGd ?_
  clear hGd Gd
  (try dsimp only)
  k_steps
  rename_i lP hp1 lt1 TT hp2 lt2 h3 F3 N3
  refine hideG fun Gd hGd => ?_
  obtain ⟨add, rfl, hfa, hA⟩ := hg
  refine hGd ?_
  clear hGd Gd
  have ltP : ∀ p ∈ add ++ ((L' + 1 + 1 + 1, o1) :: (L' + 1 + 1, o2) :: (L' + 1, o3) :: news), @LT.lt Nat _ p.1 lP := fun p hp => ktn_ltOf lt1.2 p hp
  have n0 : ∀ p ∈ news, @LT.lt Nat _ p.1 L' := by assumption
  have n1 : ∀ p ∈ news, @LT.lt Nat _ p.1 D ∧ @LT.lt Nat _ p.1 lP := fun p hp => ⟨hfD _ (hsub p hp), ltP p (List.mem_append_right _ (hsub p hp))⟩
  have n2 : @LT.lt Nat _ (L' + 1 + 1 + 1) D := hfD (_, o1) (.head _)
  have n3 : @LT.lt Nat _ D lP := lt1.1
  have n4 : ∀ p ∈ add, @LT.lt Nat _ (L' + 1 + 1 + 1) p.1 ∧ p.1 ≠ D ∧ @LT.lt Nat _ p.1 lP := fun p hp => ⟨hfa p hp (_, o1) (.head _), hoD p (List.mem_append_left _ hp), ltP p (List.mem_append_left _ hp)⟩
  have eD1 : @Ne Addr (L' + 1) D := cd1 n2
  have eD2 : @Ne Addr (L' + 1 + 1) D := cd2 n2
  have eD3 : @Ne Addr (L' + 1 + 1 + 1) D := cd3 n2
  have eP0 : @Ne Addr D lP := neLt n3
  have n5 : @LT.lt Nat _ (L' + 1 + 1 + 1) lP := Nat.lt_trans n2 n3
  have eP1 : @Ne Addr (L' + 1) lP := cd1 n5
  have eP2 : @Ne Addr (L' + 1 + 1) lP := cd2 n5
  have eP3 : @Ne Addr (L' + 1 + 1 + 1) lP := cd3 n5
  have himm : ∀ p ∈ add ++ news, p.1 ≠ L' + 1 + 1 + 1 ∧ p.1 ≠ L' + 1 + 1 ∧ p.1 ≠ L' + 1 ∧ p.1 ≠ lP ∧ p.1 ≠ D := by
    intro p hp
    rcases List.mem_append.mp hp with hp | hp
    · have q := n4 p hp
      exact ⟨neN (by lia), neN (by lia), neN (by lia), neN (by lia), q.2.1⟩
    · have q := n0 p hp
      have q1 := n1 p hp
      exact ⟨neN (by lia), neN (by lia), neN (by lia), neN (by lia), neN (by lia)⟩
  have N4 : News g' L' h3 ((L' + 1, o3) :: ((L' + 1 + 1 + 1, o1) :: (L' + 1 + 1, o2) :: (lP, listOf #[] 0) :: (D, LCg.lst ys) :: (add ++ news))) := nsub N3 (by walk_at "sub")
  have off4 : ∀ p ∈ (L' + 1 + 1 + 1, o1) :: (L' + 1 + 1, o2) :: (lP, listOf #[] 0) :: (D, LCg.lst ys) :: (add ++ news), p.1 ≠ L' + 1 := off_cons (by walk_at "ne") (off_cons (by walk_at "ne") (off_cons (by walk_at "ne") (off_cons (by walk_at "ne") fun p hp => (himm p hp).2.2.1)))
  clear N3
  refine Stop.mk (st_cell F3 N4 off4 (by rfl) d3 ?_ (by rfl) (by rfl))
  clear F3 N4 off4
  intro h4 o4 F4 N4 d4
  k_steps
  have hfirst : 0 < vs.length → ∃ b, ∃ us : List Value, ∃ j, vs[0]? = some (Value.ref b) ∧ (b, listOf us.toArray j) ∈ (L' + 1, o4) :: (L' + 1 + 1 + 1, o1) :: (L' + 1 + 1, o2) :: (lP, listOf #[] 0) :: (D, LCg.lst ys) :: (add ++ news) ∧ us.length = nc := by
    intro h
    refine hideG fun Gd hGd => ?_
    obtain ⟨x, hx, b, us, j, e, hb, hB⟩ := hA0.get (List.getElem?_eq_getElem h)
    refine hGd ?_
    clear hGd Gd
    exact ⟨b, us, j, by rw [List.getElem?_eq_getElem h, e], by walk_at "mem", by rw [hB.length]; exact hr x (List.mem_of_getElem? hx)⟩
  refine' Con.use (shape_con _ a vs k nc (by walk_at "mem") (by rw [hA0.length]; omega) (fun h => by rw [hA0.length] at h; omega) hfirst (by lia)) ?k1 ?k2 ?k3 ?k4 ?k5 ?kK ?kd ?ku ?_
  (case k1 => k_asm)
  (case k2 => k_asm)
  (case k3 => k_asm)
  (case k4 => k_asm)
  (case k5 => k_asm)
  (case kK => first | exact rfl | assumption)
  (case kd => ktr_room)
  (case ku => ktr_units)
  intro r5 n5 h5 tk5 F5 N5 hp1_
  refine hideG fun Gd hGd => ?_
  obtain ⟨T5, t5, u5, k5, rfl, rfl, hf5⟩ := hp1_
  refine hGd ?_
  clear hGd Gd
  (try dsimp only)
  k_steps
  rename News _ _ _ _ => N6
  have off6 : T5 ≠ L' + 1 + 1 + 1 ∧ T5 ≠ L' + 1 + 1 ∧ T5 ≠ L' + 1 ∧ T5 ≠ lP ∧ T5 ≠ D := by
    have fr := fun q hq => (Fresh.ne (D := T5) hf5 q hq).symm
    exact ⟨fr (L' + 1 + 1 + 1, o1) (by walk_at "mem"), fr (L' + 1 + 1, o2) (by walk_at "mem"), fr (L' + 1, o4) (by walk_at "mem"), fr (lP, listOf #[] 0) (by walk_at "mem"), fr (D, LCg.lst ys) (by walk_at "mem")⟩
  have N7 : News _ _ _ ((L' + 1 + 1 + 1, o1) :: (L' + 1 + 1, o2) :: (L' + 1, o4) :: (lP, listOf #[] 0) :: (D, LCg.lst ys) :: ((T5, ({ cls := .type "tuple", data := .seq #[.int (vs.length : Int) t5, .int (nc : Int) u5] k5 } : Obj)) :: (add ++ news))) := nsub N6 (by walk_at "sub")
  clear N6
  rename Fr _ _ _ _ => FS
  rename News _ _ _ _ => NS
  rename IsRange _ _ _ _ _ _ _ _ => RS
  refine Stop.mk (srcF_range (n := nc) (by rfl) FS NS RS (by omega) (by omega) (by omega) (by omega) (by omega) ?_)
  clear FS NS RS
  intro I hI S FI NI
  refine for_src S FI NI (fun i m nx => EJ w news (.ref a) (L' + 1 + 1 + 1) (L' + 1 + 1) (L' + 1) lP D M i m nx ∧ i ≤ nc) ?h0 (fun i m nx _ p hp => nomatch hp) ?turn ?done
  case h0 =>
    refine ⟨⟨o1, o2, o4, none, none, [], 0, ys, _, _, rfl, fun p hp => ?_, d1, d2, d4, fun p hp => .tail _ (List.mem_append_right _ hp), ?_, trivial, by rfl, by rfl⟩, Nat.zero_le _⟩
    · rcases List.mem_cons.mp hp with rfl | hp
      · exact off6
      · exact himm p hp
    · exact hA.mono fun _ _ h => QRow.mono h fun p hp => .tail _ hp
  case turn =>
    intro i v m1 nx h6 tk6 its hi hp1_ hp2_ ho6 F6 N6 Qt hQ
    refine hideG fun Gd hGd => ?_
    obtain ⟨t6, hv⟩ := hp1_
    obtain ⟨⟨q1, q2, q3, x1, x2, pvs, kp, rows, kd, imm, hnx, himm2, dq1, dq2, dq3, hni, hR, hP, hma, hmp⟩, hile⟩ := hp2_
    refine hGd ?_
    clear hGd Gd
    subst hv hnx
    replace F6 : Fr g' L' h6 (ov m1 [("a", .ref a), ("pivots", .ref lP)]) := fr_ov F6 (Kn.all (ps := [("a", .ref a), ("pivots", .ref lP)]) ⟨hma, hmp, trivial⟩)
    replace N6 : News g' L' h6 _ := N6
    replace N6 : News g' L' h6 ((L' + 1 + 1 + 1, q1) :: (L' + 1 + 1, q2) :: (L' + 1, q3) :: (lP, listOf pvs.toArray kp) :: (D, listOf rows.toArray kd) :: (imm ++ its)) := N6
    have I0 := ech_inv rfl hr hs i hile
    have hstep : (List.range (i + 1)).foldl stepM (M, []) = stepM ((List.range i).foldl stepM (M, [])) i := by rw [List.range_succ, List.foldl_append]; rfl
    generalize (List.range i).foldl stepM (M, []) = st at hR hP I0 hstep
    have hrl : rows.length = M.length := by rw [hR.length, I0.rows]
    have hpl : pvs.length = st.2.length := by rw [hP.length, List.length_map]
    have hpl4 := I0.piv
    have hrest : ∀ p ∈ imm ++ its, p.1 ≠ L' + 1 + 1 + 1 ∧ p.1 ≠ L' + 1 + 1 ∧ p.1 ≠ L' + 1 ∧ p.1 ≠ lP ∧ p.1 ≠ D := by
      intro p hp
      rcases List.mem_append.mp hp with hp | hp
      · exact himm2 p hp
      · exact ⟨fun e => ho6 (L' + 1 + 1 + 1, q1) (by walk_at "mem") p hp e.symm, fun e => ho6 (L' + 1 + 1, q2) (by walk_at "mem") p hp e.symm, fun e => ho6 (L' + 1, q3) (by walk_at "mem") p hp e.symm, fun e => ho6 (lP, listOf pvs.toArray kp) (by walk_at "mem") p hp e.symm, fun e => ho6 (D, listOf rows.toArray kd) (by walk_at "mem") p hp e.symm⟩
    have hRR := hR.mono (R' := QRow w (imm ++ its)) fun _ _ h => QRow.mono h fun _ h => List.mem_append_left _ h
    have hir : ∀ p ∈ imm, p ∈ imm ++ its := fun _ h => List.mem_append_left _ h
    have hitr : ∀ p ∈ its, p ∈ imm ++ its := fun _ h => List.mem_append_right _ h
    have hoi : ∀ p ∈ imm, ∀ q ∈ its, p.1 ≠ q.1 := fun p hp => ho6 p (by walk_at "mem")
    generalize hrd : imm ++ its = rest at hrest hRR N6 hir hitr
    k_steps
    rename Fr _ _ _ _ => FS
    rename News _ _ _ _ => NS
    refine Stop.mk (st_cell (rest := (L' + 1 + 1 + 1, q1) :: (L' + 1, q3) :: (lP, listOf pvs.toArray kp) :: (D, listOf rows.toArray kd) :: rest) FS (nsub NS (by walk_at "sub")) (off_cons (by walk_at "ne") (off_cons (by walk_at "ne") (off_cons (by walk_at "ne") (off_cons (by walk_at "ne") fun p hp => (hrest p hp).2.1)))) (by rfl) dq2 ?_ (by rfl) (by rfl))
    clear FS NS
    intro h7 q2' F7 N7 dq2'
    (try dsimp only)
    k_steps
    rename Fr _ _ _ _ => FS
    rename News _ _ _ _ => NS
    rename IsRange _ _ _ _ _ _ _ _ => RS
    refine Stop.mk (srcC_range (n := (rows.length - pvs.length)) (by rfl) FS NS RS (by omega) (by omega) (by omega) (by omega) (by omega) ?_)
    clear FS NS RS
    intro I hI S FI NI
    generalize hB : (L' + 1 + 1, q2') :: (L' + 1 + 1 + 1, q1) :: (L' + 1, q3) :: (lP, listOf pvs.toArray kp) :: (D, listOf rows.toArray kd) :: rest = B at NI S
    have mB1 : (L' + 1 + 1, q2') ∈ B := by rw [← hB]; walk_at "mem"
    have mB2 : (L' + 1, q3) ∈ B := by rw [← hB]; walk_at "mem"
    have mB3 : (D, listOf rows.toArray kd) ∈ B := by rw [← hB]; walk_at "mem"
    have mB4 : ∀ p ∈ rest, p ∈ B := fun p hp => by rw [← hB]; walk_at "mem"
    have mB5 : (lP, listOf pvs.toArray kp) ∈ B := by rw [← hB]; walk_at "mem"
    have mB6 : (L' + 1 + 1 + 1, q1) ∈ B := by rw [← hB]; walk_at "mem"
    refine comp_local S (by rw [sizeLine_eq]; omega) FI NI (by decide) (by rfl) (by rfl) (fun j ys nx => nx = B ∧ All2 IntIn ys (((List.range' st.2.length j).filter fun p => decide (ent (st.1.getD p []) i ≠ 0)).map Int.ofNat)) ⟨rfl, trivial⟩ (fun i ys nx hj p hp => nomatch hp) ?_ (ret_A ?_ ?_ ?_ ?_)
    · intro C D8 j v ys nx h8 tk8 its8 oC m8 E8 hj hp1_ hNs hx hp2_ ho8 F8 N8 Qc Qf hQ hQf
      refine hideG fun Gd hGd => ?_
      obtain ⟨t8, hv⟩ := hp1_
      obtain ⟨rfl, hys⟩ := hp2_
      refine hGd ?_
      clear hGd Gd
      subst hv
      have hjr : st.2.length + j < rows.length := by lia
      refine hideG fun Gd hGd => ?_
      obtain ⟨row, hrow, hQ⟩ := hRR.get (List.getElem?_eq_getElem hjr)
      have hcol := I0.cols row (List.mem_of_getElem? hrow)
      obtain ⟨b8, us8, k8, e8, hb8, hB8⟩ := hQ
      have mb8 := mB4 _ hb8
      obtain ⟨x8, hx8, hn8⟩ := hB8.get' (List.getElem?_eq_getElem (show i < row.length by lia))
      refine hGd ?_
      clear hGd Gd
      have hcl8 : rows[(↑pvs.length + ↑j : Int).toNat]? = some (.ref b8) := by
        rw [show (↑pvs.length + ↑j : Int).toNat = st.2.length + j by lia, List.getElem?_eq_getElem hjr, e8]
      refine tests1 ?_
      k_steps
      refine Stop.mk (li_item (by assumption) (by walk_at "mem") (by lia) (by lia) hcl8 ?_)
      k_steps
      refine Stop.mk (li_item (by assumption) (by walk_at "mem") (by lia) (by lia) (x := x8) (by rw [show (0 + (i : Int)).toNat = i by lia]; exact hx8) ?_)
      k_steps
      refine Stop.mk (ne_num (hn8.mono fun p hp => List.mem_append_left _ (mB4 p hp)) num_R0 (by assumption) (by assumption) (by assumption) (by (try show (Around.deeper _ _).units + _ < _); ktr_units) ?_)
      have hrg : List.range' st.2.length (j + 1) = List.range' st.2.length j ++ [st.2.length + j] := by rw [List.range'_1_concat]
      have hent : ent (st.1.getD (st.2.length + j) []) i = row[i] := by
        rw [List.getD_eq_getElem?_getD, hrow, Option.getD_some, ent, List.getD_eq_getElem?_getD, List.getElem?_eq_getElem, Option.getD_some]
      by_cases hz : row[i] = 0
      · rw [decide_eq_true hz]
        k_steps
        refine hQf _ ?_
        refine cend0 (by assumption) (by assumption) ho8 ⟨rfl, ?_⟩
        rw [hrg, List.filter_append, List.filter_cons_of_neg (by rw [hent]; simp [hz]), List.filter_nil, List.append_nil]
        exact hys
      · rw [decide_eq_false hz]
        k_steps
        refine hQ _ _ ?_
        refine cend0 (by assumption) (by assumption) ho8 ⟨rfl, ?_⟩
        rw [hrg, List.filter_append, List.filter_cons_of_pos (by rw [hent]; simp [hz]), List.filter_nil, List.map_append]
        exact hys.snoc ⟨_, by rw [hpl]; rfl⟩
    · rfl
    · rfl
    · rfl
    · clear NI FI S
      intro D8 ys nx h8 tk8 hf8 hJ8 F8 N8 ho8
      refine hideG fun Gd hGd => ?_
      obtain ⟨rfl, hys⟩ := hJ8
      refine hGd ?_
      clear hGd Gd
      have hsp : All2 IntIn ys ((spots st.1 st.2.length i).map Int.ofNat) := by
        have e : rows.length - pvs.length = M.length - st.2.length := by lia
        rw [e] at hys
        unfold spots
        rw [I0.rows]
        exact hys
      have hysl : ys.length ≤ 4 := by
        rw [hsp.length, List.length_map]
        unfold spots
        refine Nat.le_trans (List.length_filter_le _ _) ?_
        rw [List.length_range', I0.rows]
        omega
      (try dsimp only)
      k_steps
      · rename (ys.length : Int) = 0 => hy0
        have hsp0 : spots st.1 st.2.length i = [] := by
          have := hsp.length
          rw [List.length_map] at this
          exact List.length_eq_zero_iff.mp (by lia)
        have hst : stepM st i = st := by unfold stepM; rw [hsp0]
        rw [hst] at hstep
        dsimp only
        refine hQ _ _ ?_
        refine lend (nx := (L' + 1 + 1 + 1, q1) :: (L' + 1 + 1, q2') :: (L' + 1, q3) :: (lP, listOf pvs.toArray kp) :: (D, listOf rows.toArray kd) :: imm) F8 N8 (fun p hp => .tail _ (mB4 p (by rw [← hrd]; exact List.mem_append_right _ hp))) (fun p hp => .tail _ (sub_cons mB6 (sub_cons mB1 (sub_cons mB2 (sub_cons mB5 (sub_cons mB3 fun q hq => mB4 q (hir q hq))))) p hp)) (.cons (ho6 (L' + 1 + 1 + 1, q1) (.head _)) (.cons (ho6 (L' + 1 + 1, q2) (.tail _ (.head _))) fun p hp => ho6 p (.tail _ (.tail _ hp)))) ⟨⟨q1, q2', q3, x1, _, pvs, kp, rows, kd, imm, rfl, himm2, dq1, dq2', dq3, hni, ?_, ?_, by rfl, by rfl⟩, by lia⟩
        · rw [hstep]; exact hR
        · rw [hstep]; exact hP
      · rename ¬ (ys.length : Int) = 0 => hy0
        obtain ⟨p, pt, hpp⟩ : ∃ p pt, spots st.1 st.2.length i = p :: pt := by
          cases h : spots st.1 st.2.length i with
          | nil => rw [h] at hsp; have := hsp.length; simp only [List.map_nil, List.length_nil] at this; exact absurd (by lia) hy0
          | cons p pt => exact ⟨p, pt, rfl⟩
        have hpm : p ∈ spots st.1 st.2.length i := by rw [hpp]; exact .head _
        have hys0 : ∃ t0, ys[0]? = some (.int (p : Int) t0) := by
          refine hideG fun Gd hGd => ?_
          obtain ⟨y0, h1, t0, h2⟩ := hsp.get' (i := 0) (b := (p : Int)) (by rw [hpp]; rfl)
          refine hGd ?_
          clear hGd Gd
          exact ⟨t0, by rw [h1, h2]⟩
        refine hideG fun Gd hGd => ?_
        obtain ⟨t0, hys0⟩ := hys0
        obtain ⟨s1, s2, s3, s4, s5⟩ := swap_sz I0 hpm
        obtain ⟨_, sp2, sp3⟩ := spots_mem hpm
        refine hGd ?_
        clear hGd Gd
        refine Stop.mk (li_item (by assumption) (by walk_at "mem") (by decide) (by decide) hys0 ?_)
        k_steps
        have rp : rows[p]? = some (rows.getD p .none) := by rw [List.getD_eq_getElem?_getD, List.getElem?_eq_getElem (by lia)]; rfl
        have rr : rows[pvs.length]? = some (rows.getD pvs.length .none) := by rw [List.getD_eq_getElem?_getD, List.getElem?_eq_getElem (by lia)]; rfl
        have N9 : News g' L' h8 ((D, listOf rows.toArray kd) :: ((L' + 1 + 1, q2') :: (L' + 1 + 1 + 1, q1) :: (L' + 1, q3) :: (lP, listOf pvs.toArray kp) :: rest)) := nsub N8 (sub_cons (.tail _ mB3) (sub_cons (.tail _ mB1) (sub_cons (.tail _ mB6) (sub_cons (.tail _ mB2) (sub_cons (.tail _ mB5) fun q hq => .tail _ (mB4 q hq))))))
        clear N8
        have hoffD : ∀ p ∈ (L' + 1 + 1, q2') :: (L' + 1 + 1 + 1, q1) :: (L' + 1, q3) :: (lP, listOf pvs.toArray kp) :: rest, p.1 ≠ D := off_cons (by walk_at "ne") (off_cons (by walk_at "ne") (off_cons (by walk_at "ne") (off_cons (by walk_at "ne") fun p hp => (hrest p hp).2.2.2.2)))
        refine' Con.use (swap_con _ D rows kd pvs.length p _ _ _ _ hoffD (by lia) rr rp) ?k1 ?k2 ?k3 ?k4 ?k5 ?kK ?kd ?ku ?_
        (case k1 => k_asm)
        (case k2 => k_asm)
        (case k3 => k_asm)
        (case k4 => k_asm)
        (case k5 => k_asm)
        (case kK => first | exact rfl | assumption)
        (case kd => ktr_room)
        (case ku => ktr_units)
        intro r10 n10 h10 tk10 F10 N10 hp1_
        refine hideG fun Gd hGd => ?_
        obtain ⟨rfl, rfl⟩ := hp1_
        refine hGd ?_
        clear hGd Gd
        (try dsimp only)
        k_steps
        -- the rows behind the swap
        have hR1 : All2 (QRow w imm) ((rows.set pvs.length (rows.getD p .none)).set p (rows.getD pvs.length .none)) (swapL st.1 [] st.2.length p) := by
          unfold swapL
          rw [hpl]
          refine hideG fun Gd hGd => ?_
          obtain ⟨x1, hx1, hq1⟩ := hR.get rp
          obtain ⟨x2, hx2, hq2⟩ := hR.get rr
          refine hGd ?_
          clear hGd Gd
          refine (hR.set _ ?_).set _ ?_
          · rw [show st.1.getD p [] = x1 by rw [List.getD_eq_getElem?_getD, hx1]; rfl]; exact hq1
          · rw [hpl] at hx2; rw [show st.1.getD st.2.length [] = x2 by rw [List.getD_eq_getElem?_getD, hx2]; rfl, ← hpl]; exact hq2
        generalize hrows1 : (rows.set pvs.length (rows.getD p .none)).set p (rows.getD pvs.length .none) = rows1 at *
        have hr1l : rows1.length = M.length := by rw [hR1.length, s3]
        have D0 := mid_of I0 hi hpm
        generalize hM1 : swapL st.1 [] st.2.length p = M1 at *
        refine hideG fun Gd hGd => ?_
        obtain ⟨row, hrow, hQ⟩ := hR1.get (List.getElem?_eq_getElem (show st.2.length < rows1.length by lia))
        obtain ⟨b9, us9, k9, e9, hb9, hB9⟩ := hQ
        have hb9r := hir _ hb9
        have hrowm : M1.getD st.2.length [] = row := by rw [List.getD_eq_getElem?_getD, hrow]; rfl
        have hcol := (s4 row (List.mem_of_getElem? hrow)).1
        obtain ⟨x9, hx9, hn9⟩ := hB9.get' (List.getElem?_eq_getElem (show i < row.length by lia))
        refine hGd ?_
        clear hGd Gd
        have hcl9 : rows1[(↑pvs.length : Int).toNat]? = some (.ref b9) := by
          rw [show (↑pvs.length : Int).toNat = st.2.length by lia, List.getElem?_eq_getElem (show st.2.length < rows1.length by lia), e9]
        refine Stop.mk (li_item (by assumption) (by walk_at "mem") (by lia) (by lia) hcl9 ?_)
        k_steps
        refine Stop.mk (li_item (by assumption) (by walk_at "mem") (by lia) (by lia) (x := x9) (by rw [show (0 + (i : Int)).toNat = i by lia]; exact hx9) ?_)
        k_steps
        rename Fr _ _ _ _ => FS
        rename News _ _ _ _ => NS
        refine Stop.mk (st_cell (c := L' + 1 + 1 + 1) (o := q1) (rest := (D, listOf rows1.toArray kd) :: (L' + 1 + 1, q2') :: (L' + 1, q3) :: (lP, listOf pvs.toArray kp) :: rest) FS (nsub NS (by walk_at "sub")) (off_cons (by walk_at "ne") (off_cons (by walk_at "ne") (off_cons (by walk_at "ne") (off_cons (by walk_at "ne") fun p hp => (hrest p hp).1)))) (by rfl) dq1 ?_ (by rfl) (by rfl))
        clear FS NS
        intro h11 q1' F11 N11 dq1'
        (try dsimp only)
        k_steps
        generalize hB2 : (L' + 1 + 1 + 1, q1') :: (D, listOf rows1.toArray kd) :: (L' + 1 + 1, q2') :: (L' + 1, q3) :: (lP, listOf pvs.toArray kp) :: rest = B2 at N11
        have c1 : (L' + 1 + 1 + 1, q1') ∈ B2 := by rw [← hB2]; walk_at "mem"
        have c2 : (D, listOf rows1.toArray kd) ∈ B2 := by rw [← hB2]; walk_at "mem"
        have c3 : (L' + 1 + 1, q2') ∈ B2 := by rw [← hB2]; walk_at "mem"
        have c4 : (L' + 1, q3) ∈ B2 := by rw [← hB2]; walk_at "mem"
        have c5 : (lP, listOf pvs.toArray kp) ∈ B2 := by rw [← hB2]; walk_at "mem"
        have c6 : ∀ p ∈ rest, p ∈ B2 := fun p hp => by rw [← hB2]; walk_at "mem"
        refine Stop.mk (li_item (by assumption) (by assumption) (by lia) (by lia) hcl9 ?_)
        k_steps
        rename Fr _ _ _ _ => FS
        rename News _ _ _ _ => NS
        refine Stop.mk (srcC_list (by rfl) FS NS ((c6 _ (hir _ hb9))) ?_)
        clear FS NS
        intro I hI S FI NI
        have hb9l : us9.length = nc := by rw [hB9.length, hcol]
        refine comp_local S (by rw [sizeLine_eq, hb9l]; omega) FI NI (by decide) (by rfl) (by rfl) (fun n ys nx => Gr B2 (fun add => All2 (NumIn w add) ys ((pivotRow M1 st.2.length i).take n)) nx) (.refl trivial) (fun i ys nx hj p hp => by rw [List.mem_singleton.mp hp]; exact hj.sub _ (c6 _ (hir _ hb9))) ?_ (ret_E ?_)
        · intro C D2 n v ys nx h12 tk12 its12 oC m12 E12 hn hv hNs hx hJ ho F12 N12 Qc Qf hQ hQf
          refine hideG fun Gd hGd => ?_
          obtain ⟨y, hy, hyn⟩ := hB9.get hv
          refine hGd ?_
          clear hGd Gd
          have z1 : (L' + 1 + 1 + 1, q1') ∈ nx := hJ.sub _ c1
          have z2 : (D, listOf rows1.toArray kd) ∈ nx := hJ.sub _ c2
          have z3 : (L' + 1, q3) ∈ nx := hJ.sub _ c4
          refine tests0 ?_
          k_steps
          have hsub : ∀ p ∈ imm, p ∈ nx ++ ((C, oC) :: (D2, LCg.lst ys) :: its12) := fun p hp => List.mem_append_left _ (hJ.sub _ (c6 p (hir p hp)))
          have hy0 : row[i] ≠ 0 := by
            have q := (spots_mem hpm).2.2
            rw [← s5, hrowm, ent, List.getD_eq_getElem?_getD, List.getElem?_eq_getElem (by lia)] at q
            exact q
          have hbd : bd st.2.length ≤ 405 := bd_mono (b := 3) (by lia)
          have hszr := (s4 row (List.mem_of_getElem? hrow)).2
          refine' Con.use (rdiv_con _ _ _ _ _ (hyn.mono hsub) (hn9.mono hsub) _ _ (hszr y (List.mem_of_getElem? hy)) (hszr _ (List.getElem_mem (show i < row.length by lia))) (by lia) hy0) ?k1 ?k2 ?k3 ?k4 ?k5 ?kK ?kd ?ku ?_
          (case k1 => k_asm)
          (case k2 => k_asm)
          (case k3 => k_asm)
          (case k4 => k_asm)
          (case k5 => k_asm)
          (case kK => first | exact rfl | assumption)
          (case kd => ktr_room)
          (case ku => ktr_units)
          intro r9 n9 h9 tk9 F9 N9 hp1_
          refine hideG fun Gd hGd => ?_
          obtain ⟨D9, t9, u9, k9, rfl, rfl, hf9⟩ := hp1_
          refine hGd ?_
          clear hGd Gd
          k_steps
          have hz : (pivotRow M1 st.2.length i)[n]? = some (y / row[i]) := by
            rw [pivotRow, hrowm, List.getElem?_map, hy, ent, List.getD_eq_getElem?_getD, List.getElem?_eq_getElem (show i < row.length by lia)]
            rfl
          refine hQ _ _ ?_
          refine cendG F9 N9 (P1 := fun add => NumIn w add (.ref D9) (y / row[i])) (Gr.one (q := (D9, _)) hf9 ⟨D9, t9, u9, k9, rfl, .inl (.head _)⟩) ho fun add1 h1 hf1 => ?_
          exact hJ.trans ⟨add1, rfl, hf1, h1⟩ fun add1 add h k => all2_step h (fun _ _ h => NumIn.mono h fun _ hp => List.mem_append_right _ hp) hz (NumIn.mono k fun _ hp => List.mem_append_left _ hp)
        · clear NI FI S
          intro D10 ys10 nx h12 tk12 hf10 hJ F12 N12 ho12
          have z1 : (L' + 1 + 1 + 1, q1') ∈ nx := hJ.sub _ c1
          have z2 : (D, listOf rows1.toArray kd) ∈ nx := hJ.sub _ c2
          have z3 : (L' + 1, q3) ∈ nx := hJ.sub _ c4
          have hpr : (pivotRow M1 st.2.length i).length = nc := by rw [pivotRow, List.length_map, hrowm, hcol]
          rw [List.take_of_length_le (by lia)] at hJ
          refine hideG fun Gd hGd => ?_
          obtain ⟨add12, rfl, hfa12, hA12⟩ := hJ
          refine hGd ?_
          clear hGd Gd
          (try dsimp only)
          k_steps
          generalize hrest2 : (D10, LCg.lst ys10) :: (add12 ++ imm) = rest2
          have hoff2 : ∀ p ∈ rest2, p.1 ≠ L' + 1 + 1 + 1 ∧ p.1 ≠ L' + 1 + 1 ∧ p.1 ≠ L' + 1 ∧ p.1 ≠ lP ∧ p.1 ≠ D := by
            intro p hp
            rw [← hrest2] at hp
            have fr : Fresh p.1 B2 → p.1 ≠ L' + 1 + 1 + 1 ∧ p.1 ≠ L' + 1 + 1 ∧ p.1 ≠ L' + 1 ∧ p.1 ≠ lP ∧ p.1 ≠ D := fun hf => ⟨(hf.ne _ c1).symm, (hf.ne _ c3).symm, (hf.ne _ c4).symm, (hf.ne _ c5).symm, (hf.ne _ c2).symm⟩
            rcases List.mem_cons.mp hp with rfl | hp
            · exact fr hf10
            · rcases List.mem_append.mp hp with hp | hp
              · exact fr (hfa12 p hp)
              · exact hrest p (hir p hp)
          have hoi2 : ∀ p ∈ rest2, ∀ q ∈ its, p.1 ≠ q.1 := by
            intro p hp q hq
            rw [← hrest2] at hp
            rcases List.mem_cons.mp hp with rfl | hp
            · exact Ne.symm (Fresh.ne hf10 q (c6 q (hitr q hq)))
            · rcases List.mem_append.mp hp with hp | hp
              · exact Ne.symm ((hfa12 p hp).ne q (c6 q (hitr q hq)))
              · exact hoi p hp q hq
          have hoffD2 : ∀ p ∈ (L' + 1 + 1 + 1, q1') :: (L' + 1 + 1, q2') :: (L' + 1, q3) :: (lP, listOf pvs.toArray kp) :: (rest2 ++ its), p.1 ≠ D := off_cons (by walk_at "ne") (off_cons (by walk_at "ne") (off_cons (by walk_at "ne") (off_cons (by walk_at "ne") fun p hp => (List.mem_append.mp hp).elim (fun hp => (hoff2 p hp).2.2.2.2) fun hp => (hrest p (hitr p hp)).2.2.2.2)))
          have N12' : News g' L' h12 ((D, listOf rows1.toArray kd) :: ((L' + 1 + 1 + 1, q1') :: (L' + 1 + 1, q2') :: (L' + 1, q3) :: (lP, listOf pvs.toArray kp) :: (rest2 ++ its))) := nsub N12 (by
            rw [← hrest2, ← hB2, ← hrd]
            walk_at "sub")
          clear N12
          refine Stop.mk (li_set (vs := rows1) (n := kd) (rest := (L' + 1 + 1 + 1, q1') :: (L' + 1 + 1, q2') :: (L' + 1, q3) :: (lP, listOf pvs.toArray kp) :: (rest2 ++ its)) F12 N12' hoffD2 (by lia) (by lia) (by lia) fun h13 F13 N13 => ?_)
          clear F12 N12'
          have hR2 : All2 (QRow w rest2) (rows1.set (↑pvs.length : Int).toNat (.ref D10)) (M1.set st.2.length (pivotRow M1 st.2.length i)) := by
            rw [show (↑pvs.length : Int).toNat = st.2.length by lia]
            refine (hR1.mono fun _ _ h => QRow.mono h fun p hp => by rw [← hrest2]; exact .tail _ (List.mem_append_right _ hp)).set _ ⟨D10, ys10, _, rfl, by rw [← hrest2]; exact .head _, hA12.mono fun _ _ h => NumIn.mono h fun p hp => by rw [← hrest2]; exact .tail _ (List.mem_append_left _ hp)⟩
          have hsub2 : ∀ p ∈ news, p ∈ rest2 := fun p hp => by rw [← hrest2]; exact .tail _ (List.mem_append_right _ (hni p hp))
          generalize hrows2 : rows1.set (↑pvs.length : Int).toNat (.ref D10) = rows2 at hR2 N13
          generalize hM2 : M1.set st.2.length (pivotRow M1 st.2.length i) = M2 at hR2 D0
          have hr2l : rows2.length = M.length := by rw [hR2.length, D0.rows]
          k_steps
          rename Fr _ _ _ _ => FS
          rename News _ _ _ _ => NS
          rename IsRange _ _ _ _ _ _ _ _ => RS
          refine Stop.mk (srcF_range (n := rows2.length) (by rfl) FS NS RS (by omega) (by omega) (by omega) (by omega) (by omega) ?_)
          clear FS NS RS
          intro I hI S FI NI
          rename_i tr _ _ _ _ _ _
          refine for_src S FI NI (fun k m nx => EK w news its (.ref a) D (L' + 1 + 1 + 1) (L' + 1 + 1) (L' + 1) lP q1' q2' q3 pvs kp kd M2 st.2.length i M.length k m nx) ?h0i (fun i m nx _ p hp => nomatch hp) ?turni ?donei
          case h0i =>
            exact ⟨rows2, rest2, rfl, hoi2, hoff2, hsub2, by rw [elimAll_zero]; exact hR2, Nat.zero_le _, by rfl, by rfl, _, by rfl⟩
          case turni =>
            clear NI FI S
            intro k v m2 nx h14 tk14 its14 hkn hp1_ hp2_ ho14 F14 N14 Qt hQ
            refine hideG fun Gd hGd => ?_
            obtain ⟨t14, hv⟩ := hp1_
            obtain ⟨rows3, imm3, hnx3, hoi3, ho3, hs3, hR3, hk4, hma3, hmp3, tr3, hmr3⟩ := hp2_
            refine hGd ?_
            clear hGd Gd
            rw [Int.zero_add] at hv
            subst hv hnx3
            replace F14 : Fr g' L' h14 (ov m2 [("a", .ref a), ("pivots", .ref lP), ("row", .int (pvs.length : Int) tr3)]) := fr_ov F14 (Kn.all (ps := [("a", .ref a), ("pivots", .ref lP), ("row", .int (pvs.length : Int) tr3)]) ⟨hma3, hmp3, hmr3, trivial⟩)
            replace N14 : News g' L' h14 _ := N14
            simp only [List.cons_append] at N14
            have hr3l : rows3.length = M.length := by rw [hR3.length, elimAll_length, D0.rows]
            have hstep3 := elimAll_succ (M := M2) (r := st.2.length) (c := i) (k := k) (by rw [D0.rows]; omega)
            k_steps
            rotate_left
            · rename_i hkr
              rw [if_neg (by lia)] at hstep3
              refine hQ _ _ ?_
              exact lend0 (nx := (D, listOf rows3.toArray kd) :: (L' + 1 + 1 + 1, q1') :: (L' + 1 + 1, q2') :: (L' + 1, q3) :: (lP, listOf pvs.toArray kp) :: (imm3 ++ its)) (by assumption) (by assumption) ho14 ⟨rows3, imm3, rfl, hoi3, ho3, hs3, by rw [hstep3]; exact hR3, by lia, by rfl, by rfl, _, by rfl⟩
            · rename_i hkr
              rw [if_pos (by lia)] at hstep3
              refine hideG fun Gd hGd => ?_
              obtain ⟨rowk, hrowk, hQk⟩ := hR3.get (List.getElem?_eq_getElem (show k < rows3.length by lia))
              obtain ⟨rowr, hrowr, hQr⟩ := hR3.get (List.getElem?_eq_getElem (show st.2.length < rows3.length by lia))
              have ek : rowk = M2.getD k [] := by
                have := elimAll_get (M := M2) (r := st.2.length) (c := i) (k := k) (o := k) (by rw [D0.rows]; omega)
                rw [if_neg (by lia), List.getD_eq_getElem?_getD, hrowk] at this
                exact this
              have er : rowr = M2.getD st.2.length [] := by
                have := elimAll_get (M := M2) (r := st.2.length) (c := i) (k := k) (o := st.2.length) (by rw [D0.rows]; omega)
                rw [if_neg (by lia), List.getD_eq_getElem?_getD, hrowr] at this
                exact this
              have hck : rowk.length = nc := by rw [ek]; exact D0.cols _ (getD_mem (by rw [D0.rows]; omega))
              have hcr : rowr.length = nc := by rw [er]; exact D0.cols _ (getD_mem (by rw [D0.rows]; omega))
              have hbd : bd st.2.length ≤ 405 := bd_mono (b := 3) (by lia)
              have hzk : ∀ x ∈ rowk, Sz (bd st.2.length) x := by rw [ek]; exact D0.sz k (by lia) (by lia)
              have hzr : ∀ x ∈ rowr, Sz (2 * bd st.2.length) x := by rw [er]; exact D0.szr
              obtain ⟨bk, usk, kk, e15, hbk, hBk⟩ := hQk
              obtain ⟨x15, hx15, hn15⟩ := hBk.get' (List.getElem?_eq_getElem (show i < rowk.length by lia))
              refine hGd ?_
              clear hGd Gd
              have hcl15 : rows3[k]? = some (.ref bk) := by rw [List.getElem?_eq_getElem (show k < rows3.length by lia), e15]
              have hbk' : (bk, listOf usk.toArray kk) ∈ (D, listOf rows3.toArray kd) :: (L' + 1 + 1 + 1, q1') :: (L' + 1 + 1, q2') :: (L' + 1, q3) :: (lP, listOf pvs.toArray kp) :: (imm3 ++ its ++ its14) := by walk_at "mem"
              have hbase : ∀ p ∈ imm3, p ∈ (L' + 1 + 1 + 1, q1') :: (L' + 1 + 1, q2') :: (L' + 1, q3) :: (lP, listOf pvs.toArray kp) :: (imm3 ++ its ++ its14) := fun p hp => by walk_at "mem"
              have hent15 : ent rowk i = rowk[i] := by
                rw [ent, List.getD_eq_getElem?_getD, List.getElem?_eq_getElem (show i < rowk.length by lia), Option.getD_some]
              refine Stop.mk (li_itemN (by assumption) (by walk_at "mem") (by lia) hcl15 ?_)
              k_steps
              refine Stop.mk (li_item (by assumption) (by assumption) (by lia) (by lia) (x := x15) (by rw [show (0 + (i : Int)).toNat = i by lia]; exact hx15) ?_)
              k_steps
              refine Stop.mk (ne_num (hn15.mono fun p hp => .tail _ (hbase p hp)) num_R0 (by assumption) (by assumption) (by assumption) (by (try show (Around.deeper _ _).units + _ < _); ktr_units) ?_)
              by_cases hz : rowk[i] = 0
              · rw [decide_eq_true hz]
                have eset : (elimAll M2 st.2.length i k).set k (elim (M2.getD st.2.length []) i (M2.getD k [])) = elimAll M2 st.2.length i k := by
                  rw [elim, ← ek, hent15, if_pos hz]
                  have hkl : k < (elimAll M2 st.2.length i k).length := by rw [elimAll_length, D0.rows]; omega
                  have : rowk = (elimAll M2 st.2.length i k)[k] := by rw [List.getElem?_eq_getElem hkl] at hrowk; exact (Option.some.inj hrowk).symm
                  rw [this, List.set_getElem_self]
                k_steps
                refine hQ _ _ ?_
                exact lend0 (nx := (D, listOf rows3.toArray kd) :: (L' + 1 + 1 + 1, q1') :: (L' + 1 + 1, q2') :: (L' + 1, q3) :: (lP, listOf pvs.toArray kp) :: (imm3 ++ its)) (by assumption) (by assumption) ho14 ⟨rows3, imm3, rfl, hoi3, ho3, hs3, by rw [hstep3, eset]; exact hR3, by lia, by rfl, by rfl, _, by rfl⟩
              · rw [decide_eq_false hz]
                k_steps
                refine Stop.mk (li_itemN (by assumption) (by walk_at "mem") (by lia) hcl15 ?_)
                k_steps
                refine Stop.mk (li_item (by assumption) (by assumption) (by lia) (by lia) (x := x15) (by rw [show (0 + (i : Int)).toNat = i by lia]; exact hx15) ?_)
                k_steps
                have hoff15 : ∀ p ∈ (L' + 1 + 1 + 1, q1') :: (L' + 1 + 1, q2') :: (L' + 1, q3) :: (lP, listOf pvs.toArray kp) :: (imm3 ++ its ++ its14), p.1 ≠ D := off_cons (by walk_at "ne") (off_cons (by walk_at "ne") (off_cons (by walk_at "ne") (off_cons (by walk_at "ne") fun p hp => by
                  rcases List.mem_append.mp hp with hp | hp
                  · rcases List.mem_append.mp hp with hp | hp
                    · exact (ho3 p hp).2.2.2.2
                    · exact (hrest p (hitr p hp)).2.2.2.2
                  · exact fun e => ho14 (D, listOf rows3.toArray kd) (.head _) p hp e.symm)))
                have hQk' : QRow w ((L' + 1 + 1 + 1, q1') :: (L' + 1 + 1, q2') :: (L' + 1, q3) :: (lP, listOf pvs.toArray kp) :: (imm3 ++ its ++ its14)) (.ref bk) rowk := ⟨bk, usk, kk, rfl, hbase _ hbk, hBk.mono fun _ _ h => NumIn.mono h hbase⟩
                have hlast := List.getElem?_eq_getElem (show pvs.length < rows3.length by lia)
                have hQr' : QRow w ((L' + 1 + 1 + 1, q1') :: (L' + 1 + 1, q2') :: (L' + 1, q3) :: (lP, listOf pvs.toArray kp) :: (imm3 ++ its ++ its14)) (rows3[pvs.length]'(by lia)) rowr := QRow.mono (by simp only [hpl]; exact hQr) hbase
                refine' Con.use (take_con _ D rows3 kd k pvs.length _ _ _ _ hoff15 (by lia) hcl15 hlast _ _ (hn15.mono hbase) rowk rowr hQk' hQr' (by lia) (by lia) (bd st.2.length) (by lia) hzk hzr (hzk _ (List.getElem_mem (show i < rowk.length by lia)))) ?k1 ?k2 ?k3 ?k4 ?k5 ?kK ?kd ?ku ?_
                (case k1 => k_asm)
                (case k2 => k_asm)
                (case k3 => k_asm)
                (case k4 => k_asm)
                (case k5 => k_asm)
                (case kK => first | exact rfl | assumption)
                (case kd => ktr_room)
                (case ku => ktr_units)
                intro r16 n16 h16 tk16 F16 N16 hp1_
                refine hideG fun Gd hGd => ?_
                obtain ⟨rfl, b16, ys16, add16, rfl, hf16, hA16⟩ := hp1_
                refine hGd ?_
                clear hGd Gd
                k_steps
                have c7 := List.mem_cons_self (a := (D, listOf rows3.toArray kd)) (l := (L' + 1 + 1 + 1, q1') :: (L' + 1 + 1, q2') :: (L' + 1, q3) :: (lP, listOf pvs.toArray kp) :: (imm3 ++ its ++ its14))
                have fr : ∀ {x : Addr}, Fresh x ((D, listOf rows3.toArray kd) :: (L' + 1 + 1 + 1, q1') :: (L' + 1 + 1, q2') :: (L' + 1, q3) :: (lP, listOf pvs.toArray kp) :: (imm3 ++ its ++ its14)) →
                    (x ≠ L' + 1 + 1 + 1 ∧ x ≠ L' + 1 + 1 ∧ x ≠ L' + 1 ∧ x ≠ lP ∧ x ≠ D) ∧ (∀ q ∈ its, x ≠ q.1) ∧ (∀ q ∈ its14, x ≠ q.1) := fun hf =>
                  ⟨⟨(hf.ne (L' + 1 + 1 + 1, q1') (by walk_at "mem")).symm, (hf.ne (L' + 1 + 1, q2') (by walk_at "mem")).symm, (hf.ne (L' + 1, q3) (by walk_at "mem")).symm, (hf.ne (lP, listOf pvs.toArray kp) (by walk_at "mem")).symm, (hf.ne (D, listOf rows3.toArray kd) (by walk_at "mem")).symm⟩,
                    fun q hq => (hf.ne q (by walk_at "mem")).symm, fun q hq => (hf.ne q (by walk_at "mem")).symm⟩
                have hset : All2 (QRow w ((b16, LCg.lst ys16) :: (add16 ++ imm3))) (rows3.set k (.ref b16)) (elimAll M2 st.2.length i (k + 1)) := by
                  rw [hstep3, elim, ← ek, hent15, if_neg hz, ← er]
                  exact (hR3.mono fun _ _ h => QRow.mono h fun p hp => .tail _ (List.mem_append_right _ hp)).set _ ⟨b16, ys16, _, rfl, .head _, hA16.mono fun _ _ h => NumIn.mono h fun p hp => .tail _ (List.mem_append_left _ hp)⟩
                refine hQ _ _ ?_
                refine lend (nx := (D, listOf (rows3.set k (.ref b16)).toArray kd) :: (L' + 1 + 1 + 1, q1') :: (L' + 1 + 1, q2') :: (L' + 1, q3) :: (lP, listOf pvs.toArray kp) :: (((b16, LCg.lst ys16) :: (add16 ++ imm3)) ++ its)) F16 N16 (fun p hp => by walk_at "mem") (by walk_at "sub") (.cons (ho14 (D, listOf rows3.toArray kd) (.head _)) (.cons (ho14 (_, q1') (.tail _ (.head _))) (.cons (ho14 (_, q2') (.tail _ (.tail _ (.head _)))) (.cons (ho14 (_, q3) (.tail _ (.tail _ (.tail _ (.head _))))) (.cons (ho14 (lP, listOf pvs.toArray kp) (.tail _ (.tail _ (.tail _ (.tail _ (.head _)))))) (.app (.cons (fr (hf16 _ (.head _))).2.2 (.app (fun p h => (fr (hf16 _ (.tail _ h))).2.2) fun p h => ho14 p (by walk_at "mem"))) fun p h => ho14 p (by walk_at "mem"))))))) ⟨_, (b16, LCg.lst ys16) :: (add16 ++ imm3), rfl, fun p hp => ?_, fun p hp => ?_, fun p hp => .tail _ (List.mem_append_right _ (hs3 p hp)), hset, by lia, by rfl, by rfl, _, by rfl⟩
                · simp only [List.mem_cons, List.mem_append] at hp
                  rcases hp with h | h | h
                  · rw [h]; exact (fr (hf16 _ (.head _))).2.1
                  · exact (fr (hf16 _ (.tail _ h))).2.1
                  · exact hoi3 p h
                · simp only [List.mem_cons, List.mem_append] at hp
                  rcases hp with h | h | h
                  · rw [h]; exact (fr (hf16 _ (.head _))).1
                  · exact (fr (hf16 _ (.tail _ h))).1
                  · exact ho3 p h
          case donei =>
            clear NI FI S
            intro m3 nx h16 tk16 hp1_ F16 N16
            refine hideG fun Gd hGd => ?_
            obtain ⟨rows4, imm4, rfl, hoi4, ho4, hs4, hR4, _, hma4, hmp4, tr4, hmr4⟩ := hp1_
            refine hGd ?_
            clear hGd Gd
            replace F16 : Fr g' L' h16 (ov m3 [("a", .ref a), ("pivots", .ref lP), ("row", .int (pvs.length : Int) tr4)]) := fr_ov F16 (Kn.all (ps := [("a", .ref a), ("pivots", .ref lP), ("row", .int (pvs.length : Int) tr4)]) ⟨hma4, hmp4, hmr4, trivial⟩)
            (try dsimp only)
            k_steps
            rename Fr _ _ _ _ => FS
            rename News _ _ _ _ => NS
            have hoffP : ∀ p ∈ (L' + 1 + 1 + 1, q1') :: (L' + 1 + 1, q2') :: (L' + 1, q3) :: (D, listOf rows4.toArray kd) :: (imm4 ++ its), p.1 ≠ lP := off_cons (by walk_at "ne") (off_cons (by walk_at "ne") (off_cons (by walk_at "ne") (off_cons (by walk_at "ne") fun p hp => (List.mem_append.mp hp).elim (fun hp => (ho4 p hp).2.2.2.1) fun hp => (hrest p (hitr p hp)).2.2.2.1)))
            refine Stop.mk (li_append (vs := pvs) (n := kp) (rest := (L' + 1 + 1 + 1, q1') :: (L' + 1 + 1, q2') :: (L' + 1, q3) :: (D, listOf rows4.toArray kd) :: (imm4 ++ its)) FS (nsub NS (by walk_at "sub")) hoffP (by rw [sizeLine_eq]; omega) fun h17 F17 N17 => ?_)
            clear FS NS
            k_steps
            have hstM : stepM st i = (elimAll M2 st.2.length i rows2.length, st.2 ++ [i]) := by
              unfold stepM
              rw [hpp]
              dsimp only
              rw [hM1, hM2, hR2.length]
            rw [hstM] at hstep
            refine hQ _ _ ?_
            refine lend (nx := (L' + 1 + 1 + 1, q1') :: (L' + 1 + 1, q2') :: (L' + 1, q3) :: (lP, listOf (pvs ++ [Value.int (0 + (i : Int)) t6]).toArray (kp + 1)) :: (D, listOf rows4.toArray kd) :: imm4) F17 N17 (fun p hp => by walk_at "mem") (by walk_at "sub") (.cons (fun q hq => (hrest q (hitr q hq)).1.symm) (.cons (fun q hq => (hrest q (hitr q hq)).2.1.symm) (.cons (fun q hq => (hrest q (hitr q hq)).2.2.1.symm) (.cons (fun q hq => (hrest q (hitr q hq)).2.2.2.1.symm) (.cons (fun q hq => (hrest q (hitr q hq)).2.2.2.2.symm) hoi4))))) ⟨⟨q1', q2', q3, some x9, _, pvs ++ [.int (0 + (i : Int)) t6], kp + 1, rows4, kd, imm4, rfl, fun p hp => ho4 p hp, dq1', dq2', dq3, hs4, ?_, ?_, by rfl, by rfl⟩, by lia⟩
            · rw [hstep]; exact hR4
            · rw [hstep]
              dsimp only
              rw [List.map_append]
              exact hP.snoc ⟨t6, by rw [Int.zero_add]; rfl⟩
  case done =>
    clear NI FI S
    intro m1 nx h6 tk6 hp1_ F6 N6
    refine hideG fun Gd hGd => ?_
    obtain ⟨⟨q1, q2, q3, x1, x2, pvs, kp, rows, kd, imm, rfl, himm2, dq1, dq2, dq3, hni, hR, hP, hma, hmp⟩, _⟩ := hp1_
    refine hGd ?_
    clear hGd Gd
    replace F6 : Fr g' L' h6 (ov m1 [("a", .ref a), ("pivots", .ref lP)]) := fr_ov F6 (Kn.all (ps := [("a", .ref a), ("pivots", .ref lP)]) ⟨hma, hmp, trivial⟩)
    (try dsimp only)
    k_steps
    refine hQ1 _ _ ?_
    (try dsimp only)
    k_steps
    refine hret _ _ _ _ (by assumption) (by assumption) ⟨_, D, lP, _, rfl, .head _, fun p hp => ?_, ⟨D, rows, kd, rfl, by walk_at "mem", hR.mono fun _ _ h => QRow.mono h fun p hp => ?_⟩, ⟨lP, pvs, kp, rfl, by walk_at "mem", hP⟩⟩
    · have := hni p hp
      walk_at "mem"
    · walk_at "mem"
end
-- part: Tools2
section
section
variable {prog : Program} {w : World} {A : Around} {E : Value → Shared → Prop} {s : Shared} {h₀ : Heap} {L : Addr} {m : Str → Option Value} {news : Led}
theorem li_add {l b : Addr} {vs ws : List Value} {j k : Nat} {Q : Value → Shared → Prop} (F : Fr h₀ L s.heap m) (N : News h₀ L s.heap news) (hl : (l, listOf vs.toArray j) ∈ news) (hb : (b, listOf ws.toArray k) ∈ news) (hsz : vs.length + ws.length ≤ sizeLine)
    (h : ∀ D h', Fr h₀ L h' m → News h₀ L h' ((D, listOf (vs ++ ws).toArray 0) :: news) → Fresh D news → Q (.ref D) { s with heap := h' }) :
    wpAny (model prog w) A (binaryOp .Add (.ref l) (.ref b)) Q E s :=
  add_lists F N (li_isList N hl) (li_isList N hb) (fun h' F' N' => h _ h' F' N' fun p hp => Heap.lt_size (N p hp).1) hsz
theorem pick_upto (vs : List Value) (y : Nat) : slicePick vs.toArray none (some (y : Int)) none = (vs.take y).toArray := by
  have e : sliceBounds none (some (y : Int)) none vs.toArray.size = (((0 : Nat) : Int), ((min y vs.toArray.size : Nat) : Int), 1) := by
    simp only [sliceBounds, Option.getD_none, show (1 : Int) > 0 by decide, if_true, if_neg (show ¬ ((y : Int) < 0) by omega)]
    congr 1
    congr 1
    omega
  rw [kmk_pick_nat _ e]
  show ((vs.drop 0).take (min y vs.toArray.size - 0)).toArray = _
  rw [List.drop_zero, Nat.sub_zero, List.size_toArray, kmk_take_min]
theorem pick_from (vs : List Value) (x : Nat) : slicePick vs.toArray (some (x : Int)) none none = (vs.drop x).toArray := by
  have e : sliceBounds (some (x : Int)) none none vs.toArray.size = (((min x vs.toArray.size : Nat) : Int), ((vs.toArray.size : Nat) : Int), 1) := by
    simp only [sliceBounds, Option.getD_none, show (1 : Int) > 0 by decide, if_true, if_neg (show ¬ ((x : Int) < 0) by omega)]
    congr 1
    omega
  rw [kmk_pick_nat _ e]
  show ((vs.drop (min x vs.toArray.size)).take (vs.toArray.size - min x vs.toArray.size)).toArray = _
  rw [List.size_toArray, kmk_drop_min, List.take_of_length_le (by rw [List.length_drop]; omega)]
theorem li_upto {value slice : PySem.Expr} {l : Addr} {vs : List Value} {k y : Nat} {t : Tok} {Q : Value → Shared → Prop} (F : Fr h₀ L s.heap m) (N : News h₀ L s.heap news) (hl : (l, listOf vs.toArray k) ∈ news) (hz : vs.length ≤ sizeLine)
    (h : ∀ D h', Fr h₀ L h' m → News h₀ L h' ((D, listOf (vs.take y).toArray 0) :: news) → Fresh D news → Q (.ref D) { s with heap := h' })
    (hs : subscripted slice false (.ref l) (.ref s.heap.objs.size) = operate [.ref s.heap.objs.size, .ref l] (getItem (.ref l) (.ref s.heap.objs.size))) (ht : ∀ r, letTemporaryGo value (.ref l) r = pure ()) :
    wpAny (model prog w) A (subscriptTail value slice (.ref l) (.ref s.heap.objs.size)) Q E { s with heap := s.heap.push { cls := .type "slice", data := .fields #[.none, .int (y : Int) t, .none] } } :=
  kmk_slice F N (li_isList N hl) .none (.int _ _) (fun D h' F' N' l1 => by rw [pick_upto] at N'; exact h D h' F' N' l1) hs ht (by simpa using hz)
theorem li_uptoL {value slice : PySem.Expr} {l : Addr} {vs : List Value} {y : Nat} {t : Tok} {Q : Value → Shared → Prop} (F : Fr h₀ L s.heap m) (N : News h₀ L s.heap news) (hl : s.heap.IsList l vs.toArray) (hz : vs.length ≤ sizeLine)
    (h : ∀ D h', Fr h₀ L h' m → News h₀ L h' ((D, listOf (vs.take y).toArray 0) :: news) → Fresh D news → Q (.ref D) { s with heap := h' })
    (hs : subscripted slice false (.ref l) (.ref s.heap.objs.size) = operate [.ref s.heap.objs.size, .ref l] (getItem (.ref l) (.ref s.heap.objs.size))) (ht : ∀ r, letTemporaryGo value (.ref l) r = pure ()) :
    wpAny (model prog w) A (subscriptTail value slice (.ref l) (.ref s.heap.objs.size)) Q E { s with heap := s.heap.push { cls := .type "slice", data := .fields #[.none, .int (y : Int) t, .none] } } :=
  kmk_slice F N hl .none (.int _ _) (fun D h' F' N' l1 => by rw [pick_upto] at N'; exact h D h' F' N' l1) hs ht (by simpa using hz)
theorem li_from {value slice : PySem.Expr} {l : Addr} {vs : List Value} {k x : Nat} {t : Tok} {Q : Value → Shared → Prop} (F : Fr h₀ L s.heap m) (N : News h₀ L s.heap news) (hl : (l, listOf vs.toArray k) ∈ news) (hz : vs.length ≤ sizeLine)
    (h : ∀ D h', Fr h₀ L h' m → News h₀ L h' ((D, listOf (vs.drop x).toArray 0) :: news) → Fresh D news → Q (.ref D) { s with heap := h' })
    (hs : subscripted slice false (.ref l) (.ref s.heap.objs.size) = operate [.ref s.heap.objs.size, .ref l] (getItem (.ref l) (.ref s.heap.objs.size))) (ht : ∀ r, letTemporaryGo value (.ref l) r = pure ()) :
    wpAny (model prog w) A (subscriptTail value slice (.ref l) (.ref s.heap.objs.size)) Q E { s with heap := s.heap.push { cls := .type "slice", data := .fields #[.int (x : Int) t, .none, .none] } } :=
  kmk_slice F N (li_isList N hl) (.int _ _) .none (fun D h' F' N' l1 => by rw [pick_from] at N'; exact h D h' F' N' l1) hs ht (by simpa using hz)

theorem ints_of {vs : List Value} {ns : List Int} (h : IntsAre vs ns) : All2 IntIn vs ns := by
  induction h with
  | nil => trivial
  | cons n t _ ih => exact ⟨⟨t, rfl⟩, ih⟩
theorem readsAll_ints {hp : Heap} : ∀ {vs : List Value} {ns : List Int}, All2 IntIn vs ns → ReadsAll hp vs (ns.map .int) []
  | [], [], _ => .nil
  | _ :: _, _ :: _, ⟨⟨_, e⟩, h⟩ => by rw [e]; exact readsAll_cons_val (.int _ _) (readsAll_ints h)
  | [], _ :: _, h => h.elim
  | _ :: _, [], h => h.elim
theorem lay_ints : ∀ ns : List Int, PyData.canLayAll0 (ns.map .int) = true
  | [] => rfl
  | _ :: ns => by simp only [List.map_cons, PyData.canLayAll0, PyData.canLay0, lay_ints ns, Bool.and_self]
theorem depth_ints : ∀ ns : List Int, PyData.depthAll (ns.map .int) ≤ 1
  | [] => by simp [PyData.depthAll]
  | _ :: ns => by
    have := depth_ints ns
    simp only [List.map_cons, PyData.depthAll, PyData.depth]
    omega
theorem shaped_ints (ns : List Int) : PySem.SeqAt.shaped (.list (ns.map .int)) = true := by
  have := depth_ints ns
  simp only [PySem.SeqAt.shaped, PyData.canLay0, lay_ints, PyData.depth, Bool.true_and]
  exact decide_eq_true (by omega)
theorem eqvAll_ints : ∀ xs ys : List Int, PyData.eqvAll (xs.map .int) (ys.map .int) = decide (xs = ys)
  | [], [] => rfl
  | [], _ :: _ => by simp [PyData.eqvAll]
  | _ :: _, [] => by simp [PyData.eqvAll]
  | x :: xs, y :: ys => by
    simp only [List.map_cons, PyData.eqvAll, PyData.eqv, eqvAll_ints xs ys, List.cons.injEq]
    by_cases h1 : x = y <;> by_cases h2 : xs = ys <;> simp [h1, h2]
theorem reads_irow {v : Value} {ns : List Int} (N : News h₀ L s.heap news) (h : IRow news v ns) : ∃ as, Reads s.heap v (.list (ns.map .int)) as := by
  obtain ⟨a, vs, k, rfl, hm, hA⟩ := h
  exact ⟨_, reads_list_at (N _ hm).1 rfl rfl (readsAll_ints hA)⟩
theorem ne_ints {v u : Value} {xs ys : List Int} {Q : Value → Shared → Prop} (N : News h₀ L s.heap news) (hv : IRow news v xs) (hu : IRow news u ys) (hr : A.units + 64 < cLine)
    (h : Q (.bool (!decide (xs = ys))) s) : wpAny (model prog w) A (compareOp .NotEq v u) Q E s := by
  obtain ⟨as, h1⟩ := reads_irow N hv
  obtain ⟨bs, h2⟩ := reads_irow N hu
  exact ne_dataH h1 h2 (shaped_ints _) (shaped_ints _) hr (by simp only [PyData.eqv, eqvAll_ints]; exact h)
theorem readsAll_rows {hp : Heap} {h₀ : Heap} {L : Addr} (N : News h₀ L hp news) : ∀ {vs : List Value} {M : List (List Int)}, All2 (IRow news) vs M → ∃ as, ReadsAll hp vs (M.map fun r => .list (r.map .int)) as
  | [], [], _ => ⟨[], .nil⟩
  | _ :: _, _ :: _, ⟨⟨a, vs, k, e, hm, hA⟩, h⟩ => by
    obtain ⟨as, h2⟩ := readsAll_rows N h
    rw [e]
    exact ⟨_, .cons (reads_list_at (N _ hm).1 rfl rfl (readsAll_ints hA)) h2⟩
  | [], _ :: _, h => h.elim
  | _ :: _, [], h => h.elim
theorem lay_rows : ∀ M : List (List Int), PyData.canLayAll0 (M.map fun r => .list (r.map .int)) = true
  | [] => rfl
  | _ :: M => by simp only [List.map_cons, PyData.canLayAll0, PyData.canLay0, lay_rows M, lay_ints, Bool.and_self]
theorem depth_rows : ∀ M : List (List Int), PyData.depthAll (M.map fun r => .list (r.map .int)) ≤ 3
  | [] => by simp [PyData.depthAll]
  | r :: M => by
    have := depth_rows M
    have := depth_ints r
    simp only [List.map_cons, PyData.depthAll, PyData.depth]
    omega
theorem shaped_rows (M : List (List Int)) : PySem.SeqAt.shaped (.list (M.map fun r => .list (r.map .int))) = true := by
  have := depth_rows M
  simp only [PySem.SeqAt.shaped, PyData.canLay0, lay_rows, PyData.depth, Bool.true_and]
  exact decide_eq_true (by omega)
theorem reads_imat {v : Value} {M : List (List Int)} (N : News h₀ L s.heap news) (h : IMat news v M) : ∃ as, Reads s.heap v (.list (M.map fun r => .list (r.map .int))) as := by
  obtain ⟨a, vs, k, rfl, hm, hA⟩ := h
  obtain ⟨as, h2⟩ := readsAll_rows N hA
  exact ⟨_, reads_list_at (N _ hm).1 rfl rfl h2⟩
theorem eqv_nil (M : List (List Int)) : PyData.eqv (.list (M.map fun r => .list (r.map .int))) (.list []) = decide (M = []) := by
  cases M <;> simp [PyData.eqv, PyData.eqvAll]
/-- a table of ints beside an empty list -/
theorem eq_nil {v u : Value} {M : List (List Int)} {Q : Value → Shared → Prop} (N : News h₀ L s.heap news) (hv : IMat news v M) (hu : IRow news u []) (hr : A.units + 64 < cLine)
    (h : Q (.bool (decide (M = []))) s) : wpAny (model prog w) A (compareOp .Eq v u) Q E s := by
  obtain ⟨as, h1⟩ := reads_imat N hv
  obtain ⟨bs, h2⟩ := reads_irow N hu
  exact eq_dataH h1 h2 (shaped_rows _) (shaped_ints _) hr (by rw [List.map_nil, eqv_nil]; exact h)
theorem ne_nil {v u : Value} {M : List (List Int)} {Q : Value → Shared → Prop} (N : News h₀ L s.heap news) (hv : IMat news v M) (hu : IRow news u []) (hr : A.units + 64 < cLine)
    (h : Q (.bool (!decide (M = []))) s) : wpAny (model prog w) A (compareOp .NotEq v u) Q E s := by
  obtain ⟨as, h1⟩ := reads_imat N hv
  obtain ⟨bs, h2⟩ := reads_irow N hu
  exact ne_dataH h1 h2 (shaped_rows _) (shaped_ints _) hr (by rw [List.map_nil, eqv_nil]; exact h)
end
end
-- part: W6
section
def InvRes (w : World) (n' : Led) (r : Value) : Option (List (List Rat)) → Prop
  | none => r = .none
  | some C => QMat w n' r C
theorem inv_con {w mean mg mb} (news : Led) (va : Value) (M : List (List Rat)) (hM : QMat w news va M) (hl : M.length ≤ 4) (hl0 : 0 < M.length) (hr : ∀ r ∈ M, r.length = M.length) (hs : ∀ r ∈ M, ∀ x ∈ r, Sz 6 x) :
    Con w mean mg mb 117 30 320 news [va] (fun r n' => (∀ p ∈ news, p ∈ n') ∧ InvRes w n' r (invP M)) := by
  refine hideG fun Gd hGd => ?_
  obtain ⟨a, vs, k, rfl, hm, hA0⟩ := hM
  refine hGd ?_
  clear hGd Gd
  have hvl := hA0.length
  unfold Con
  intro dp un gd cn cs a' ccd cl outer A₀ base h₀ L m s Q E B F X N T hk hd hu hret
  refine wpAny_call ?_
  k_dflt ((refine' code_defC ?k1 ?k2 ?k3 ?k4 ?k5 ?kA ?kF ?kK ?k6 ?k7 ?k8 ?k9 ?kB ?kD ?_ ?c2 ?c3 ?c4; (case kA => exact rfl); (case kF => exact rfl); (case kK => assumption); (case k1 => k_asm); (case k2 => k_asm); (case k3 => k_asm); (case k4 => k_asm); (case k5 => k_asm); (case k6 => k_is); (case k7 => k_is); (case k8 => ktr_room); (case k9 => exact BindsTo.of_eq rfl); (case kB => exact rfl); (case kD => decide +kernel); (case c2 => exact rfl); (case c3 => exact rfl); (case c4 => exact rfl); k_whole; intro g' L' h' tk' cells' FG' F' N' Y' B' X' T' l1; (try k_lt l1); k_cells Y'; (try simp only [List.cons_append, List.nil_append] at N'); (try dsimp only); (try k_fold)))
  refine letAE ?_
  intro tk1 Q1 hQ1 e1 A1
  rename_i o1 d1
  replace d1 : o1.data = Data.cell none := d1
  rename Fr _ _ _ _ => F0
  replace F0 : Fr _ _ _ (fun y => if y = "a" then some (.ref a) else none) := F0
  k_steps
  rename Fr _ _ _ _ => FS
  rename News _ _ _ _ => NS
  have n0 : ∀ p ∈ news, @LT.lt Nat _ p.1 L' := by assumption
  refine Stop.mk (st_cell (rest := news) FS NS (fun p hp => neN (by have := n0 p hp; lia)) (by rfl) d1 ?_ (by rfl) (by rfl))
  clear FS NS
  intro h1 o2 F1 N1 d2
  have hm1 : (a, listOf vs.toArray k) ∈ (L' + 1, o2) :: news := .tail _ hm
  k_steps
  have hfirst : 0 < vs.length → ∃ b, ∃ us : List Value, ∃ j, vs[0]? = some (Value.ref b) ∧ (b, listOf us.toArray j) ∈ (L' + 1, o2) :: news ∧ us.length = M.length := by
    intro h
    refine hideG fun Gd hGd => ?_
    obtain ⟨x, hx, b, us, j, e, hb, hB⟩ := hA0.get (List.getElem?_eq_getElem h)
    refine hGd ?_
    clear hGd Gd
    exact ⟨b, us, j, by rw [List.getElem?_eq_getElem h, e], by walk_at "mem", by rw [hB.length]; exact hr x (List.mem_of_getElem? hx)⟩
  refine' Con.use (shape_con _ a vs k M.length hm1 (by lia) (fun h => by lia) hfirst (by lia)) ?k1 ?k2 ?k3 ?k4 ?k5 ?kK ?kd ?ku ?_
  (case k1 => k_asm)
  (case k2 => k_asm)
  (case k3 => k_asm)
  (case k4 => k_asm)
  (case k5 => k_asm)
  (case kK => first | exact rfl | assumption)
  (case kd => ktr_room)
  (case ku => ktr_units)
  intro r5 n5 h5 tk5 F5 N5 hp1_
  refine hideG fun Gd hGd => ?_
  obtain ⟨T5, t5, u5, k5, rfl, rfl, hf5⟩ := hp1_
  refine hGd ?_
  clear hGd Gd
  (try dsimp only)
  k_steps
  rotate_left
  · exfalso; lia
  rw [show ((vs.length : Int) == (M.length : Int)) = true by simp [hvl]]
  refine' Con.use (need_shape_con _ _ _) ?k1 ?k2 ?k3 ?k4 ?k5 ?kK ?kd ?ku ?_
  (case k1 => k_asm)
  (case k2 => k_asm)
  (case k3 => k_asm)
  (case k4 => k_asm)
  (case k5 => k_asm)
  (case kK => first | exact rfl | assumption)
  (case kd => ktr_room)
  (case ku => ktr_units)
  intro r6 n6 h6 tk6 F6 N6 hp1_
  refine hideG fun Gd hGd => ?_
  obtain ⟨rfl, rfl⟩ := hp1_
  refine hGd ?_
  clear hGd Gd
  k_steps
  have hnum : Gr news (fun _ => True) ((T5, ({ cls := .type "tuple", data := .seq #[.int (vs.length : Int) t5, .int (M.length : Int) u5] k5 } : Obj)) :: (L' + 1, o2) :: news) := (Gr.one (P := fun _ => True) (q := (L' + 1, o2)) (fun p hp => by have := n0 p hp; show @LT.lt Nat _ p.1 (L' + 1); lia) trivial).cons (q := (T5, _)) hf5 fun _ _ => trivial
  generalize hB : (T5, ({ cls := .type "tuple", data := .seq #[.int (vs.length : Int) t5, .int (M.length : Int) u5] k5 } : Obj)) :: (L' + 1, o2) :: news = B at hnum
  have b1 : (L' + 1, o2) ∈ B := by rw [← hB]; walk_at "mem"
  have b2 : ∀ p ∈ news, p ∈ B := fun p hp => by rw [← hB]; walk_at "mem"
  rename News _ _ _ _ => N7
  rw [hB] at N7
  rename Fr _ _ _ _ => FS
  rename News _ _ _ _ => NS
  refine Stop.mk (enum_call FS NS ((b2 _ hm)) ?_)
  clear FS NS
  intro eE eI hE FE NE hEn hEl hEe hElt hELt hE1 hE2
  k_steps
  refine Stop.mk (srcC_enum (by rfl) FE NE ((b2 _ hm)) hEn hEl hEe hElt hELt hE1 hE2 ?_)
  intro S
  refine comp_pair (by rfl) S (by rw [sizeLine_eq]; lia) FE NE (by decide) (by rfl) (by rfl) (by rfl) (by decide) (fun n ys nx => Gr B (fun add => All2 (QRow w (add ++ news)) ys ((wideM M).take n)) nx) (.refl trivial) (fun i ys nx hj p hp => by rw [List.mem_singleton.mp hp]; exact hj.sub _ (b2 _ hm)) ?_ (ret_A (by rfl) (by rfl) (by rfl) ?_)
  · intro C D2 n y tn ys nx h2 tk2 its oC m2 E2 hn hv hNs hx1 hx2 hJ ho F2 N2 Qc Qf hQ hQf
    refine hideG fun Gd hGd => ?_
    obtain ⟨x, hx, bx, usx, kx, rfl, hbx, hBx⟩ := hA0.get hv
    refine hGd ?_
    clear hGd Gd
    have c1 : (L' + 1, o2) ∈ nx := hJ.sub _ b1
    have c2 : (bx, listOf usx.toArray kx) ∈ nx := hJ.sub _ (b2 _ hbx)
    have hxl := hr x (List.mem_of_getElem? hx)
    have hux : usx.length ≤ sizeLine := by rw [hBx.length, sizeLine_eq]; lia
    refine tests0 ?_
    k_steps
    rename Fresh _ _ => l9
    rename_i Dc kc _ _ _ _
    refine' Con.use (unit_con news _ vs.length _ (by lia)) ?k1 ?k2 ?k3 ?k4 ?k5 ?kK ?kd ?ku ?_
    (case k1 => k_asm)
    (case k2 => k_asm)
    (case k3 => k_asm)
    (case k4 => k_asm)
    (case k5 => k_asm)
    (case kK => first | exact rfl | assumption)
    (case kd => ktr_room)
    (case ku => ktr_units)
    intro r9 n9 h9 tk9 F9 N9 hp1_
    refine hideG fun Gd hGd => ?_
    obtain ⟨D9, ys9, nx9, rfl, rfl, hf9, ho9, add9, rfl, hfa9, hA9⟩ := hp1_
    have hn9 : n < (unitMat vs.length).length := by simp [unitMat, hn]
    obtain ⟨v9, hv9, b9, us9, k9, rfl, hb9, hB9⟩ := hA9.get' (List.getElem?_eq_getElem hn9)
    refine hGd ?_
    clear hGd Gd
    have e9 : (unitMat vs.length)[n] = unitRow M.length n := by simp [unitMat, hvl]
    rw [e9] at hB9
    have hus9 : us9.length = M.length := by rw [hB9.length]; simp [unitRow]
    have c3 : (b9, listOf us9.toArray k9) ∈ (D9, LCg.lst ys9) :: (add9 ++ (Dc, listOf usx.toArray kc) :: (nx ++ (C, oC) :: (D2, LCg.lst ys) :: its)) := by
      rcases List.mem_append.mp hb9 with h | h
      · walk_at "mem"
      · have := hJ.sub _ (b2 _ h)
        walk_at "mem"
    have c4 : (Dc, listOf usx.toArray kc) ∈ (D9, LCg.lst ys9) :: (add9 ++ (Dc, listOf usx.toArray kc) :: (nx ++ (C, oC) :: (D2, LCg.lst ys) :: its)) := by walk_at "mem"
    have c5 : (D9, listOf ys9.toArray ys9.length) ∈ (D9, LCg.lst ys9) :: (add9 ++ (Dc, listOf usx.toArray kc) :: (nx ++ (C, oC) :: (D2, LCg.lst ys) :: its)) := .head _
    k_steps
    refine Stop.mk (li_item (by assumption) c5 (by lia) (by lia) (x := .ref b9) (by simpa using hv9) ?_)
    k_steps
    rename Fr _ _ _ _ => FS
    rename News _ _ _ _ => NS
    refine Stop.mk (li_add FS NS c4 c3 (by rw [hBx.length, hus9, hxl, sizeLine_eq]; lia) fun D10 h10 F10 N10 hf10 => ?_)
    clear FS NS
    k_steps
    have hz : (wideM M)[n]? = some (x ++ unitRow M.length n) := by simp [wideM, List.getElem?_mapIdx, hx]
    have hin : ∀ p ∈ nx ++ (C, oC) :: (D2, LCg.lst ys) :: its, p ∈ (D9, LCg.lst ys9) :: (add9 ++ (Dc, listOf usx.toArray kc) :: (nx ++ (C, oC) :: (D2, LCg.lst ys) :: its)) := fun p hp => .tail _ (List.mem_append_right _ (.tail _ hp))
    refine hQ _ _ ?_
    refine cendG (by assumption) (by assumption) (P1 := fun add => QRow w (add ++ news) (.ref D10) (x ++ unitRow M.length n)) ⟨(D10, listOf (usx ++ us9).toArray 0) :: (D9, LCg.lst ys9) :: (add9 ++ [(Dc, listOf usx.toArray kc)]), by simp, fun p hp => ?_, ⟨D10, usx ++ us9, 0, rfl, .head _, ?_⟩⟩ ho fun add1 h1 hf1 => ?_
    · rcases List.mem_cons.mp hp with rfl | hp
      · exact Fresh.sub hf10 hin
      · rcases List.mem_cons.mp hp with rfl | hp
        · exact Fresh.sub hf9 fun p hp => .tail _ hp
        · rcases List.mem_append.mp hp with hp | hp
          · exact (hfa9 p hp).sub fun p hp => .tail _ hp
          · rw [List.mem_singleton.mp hp]; exact l9
    · refine (hBx.mono fun _ _ h => NumIn.mono h fun p hp => List.mem_append_right _ hp).append (hB9.mono fun _ _ h => NumIn.mono h fun p hp => ?_)
      rcases List.mem_append.mp hp with hp | hp
      · exact List.mem_append_left _ (.tail _ (.tail _ (List.mem_append_left _ hp)))
      · exact List.mem_append_right _ hp
    · exact hJ.trans ⟨add1, rfl, hf1, h1⟩ fun add1 add h k => all2_step h (fun _ _ h => QRow.mono h mem_mid) hz (QRow.mono k fun p hp => (List.mem_append.mp hp).elim (fun h => List.mem_append_left _ (List.mem_append_left _ h)) fun h => List.mem_append_right _ h)
  · intro D2 ys nx h2 tk2 hf hJ F2 N2 ho
    clear FE NE S
    have hwl : (wideM M).length = M.length := by simp [wideM]
    rw [List.take_of_length_le (by lia)] at hJ
    have hcell : (L' + 1, o2) ∈ (D2, LCg.lst ys) :: nx := .tail _ (hJ.sub _ b1)
    have hnews : ∀ p ∈ news, p ∈ (D2, LCg.lst ys) :: nx := fun p hp => .tail _ (hJ.sub _ (b2 _ hp))
    refine hideG fun Gd hGd => ?_
    obtain ⟨add2, hnx, hfa2, hA2⟩ := hJ
    refine hGd ?_
    clear hGd Gd
    have hQ2 : QMat w ((D2, LCg.lst ys) :: nx) (.ref D2) (wideM M) := ⟨D2, ys, _, rfl, .head _, hA2.mono fun _ _ h => QRow.mono h fun p hp => by
      rcases List.mem_append.mp hp with hp | hp
      · rw [hnx]; exact .tail _ (List.mem_append_left _ hp)
      · exact hnews p hp⟩
    k_steps
    have hwr : ∀ r ∈ wideM M, r.length = 2 * M.length := fun r hr' => by
      refine hideG fun Gd hGd => ?_
      obtain ⟨i, hi, rfl⟩ := List.getElem_of_mem hr'
      refine hGd ?_
      clear hGd Gd
      simp only [wideM, List.getElem_mapIdx, List.length_append, unitRow, List.length_map, List.length_range]
      rw [hr _ (List.getElem_mem _)]
      lia
    have hws : ∀ r ∈ wideM M, ∀ x ∈ r, Sz 6 x := fun r hr' x hx => by
      refine hideG fun Gd hGd => ?_
      obtain ⟨i, hi, rfl⟩ := List.getElem_of_mem hr'
      refine hGd ?_
      clear hGd Gd
      simp only [wideM, List.getElem_mapIdx, List.mem_append] at hx
      rcases hx with hx | hx
      · exact hs _ (List.getElem_mem _) x hx
      · simp only [unitRow, List.mem_map] at hx
        refine hideG fun Gd hGd => ?_
        obtain ⟨c, _, rfl⟩ := hx
        refine hGd ?_
        clear hGd Gd
        split
        · exact ⟨by decide, by decide⟩
        · exact ⟨by decide, by decide⟩
    refine' Con.use (ech_con _ _ (wideM M) (2 * M.length) hQ2 (by lia) (by lia) hwr (by lia) hws) ?k1 ?k2 ?k3 ?k4 ?k5 ?kK ?kd ?ku ?_
    (case k1 => k_asm)
    (case k2 => k_asm)
    (case k3 => k_asm)
    (case k4 => k_asm)
    (case k5 => k_asm)
    (case kK => first | exact rfl | assumption)
    (case kd => ktr_room)
    (case ku => ktr_units)
    intro r11 n11 h11 tk11 F11 N11 hp1_
    refine hideG fun Gd hGd => ?_
    obtain ⟨T, D, P, tn, rfl, hT, hsub11, hQ11, hP11⟩ := hp1_
    refine hGd ?_
    clear hGd Gd
    have hcell2 := hsub11 _ hcell
    k_steps
    refine hideG fun Gd hGd => ?_
    obtain ⟨P0, pvs, kp, hPe, hPm, hPA⟩ := hP11
    refine hGd ?_
    clear hGd Gd
    cases hPe
    have hinv : EInv M.length (2 * M.length) (ech (wideM M) (2 * M.length)) := ech_inv hwl hwr hws _ (Nat.le_refl _)
    have hpl : pvs.length ≤ 4 := by rw [hPA.length, List.length_map]; have := hinv.piv; lia
    rename Fr _ _ _ _ => FS
    rename News _ _ _ _ => NS
    refine Stop.mk (li_upto (y := vs.length) FS NS hPm (by rw [sizeLine_eq]; lia) (fun D12 h12 F12 N12 hf12 => ?_) (by with_unfolding_all rfl) (by intro r; with_unfolding_all rfl))
    clear FS NS
    have hcell3 : (L' + 1, o2) ∈ (D12, listOf (pvs.take vs.length).toArray 0) :: n11 := .tail _ hcell2
    k_steps
    rename IntsAre _ _ => hI9
    rename_i D9 vs9 c9 _ _ _ _ _
    have hx9 : IRow ((D9, listOf vs9.toArray c9) :: (D12, listOf (pvs.take vs.length).toArray 0) :: n11) (.ref D12) (((ech (wideM M) (2 * M.length)).2.map Int.ofNat).take vs.length) := ⟨D12, pvs.take vs.length, 0, rfl, by walk_at "mem", hPA.take _⟩
    have hy9 : IRow ((D9, listOf vs9.toArray c9) :: (D12, listOf (pvs.take vs.length).toArray 0) :: n11) (.ref D9) (rangeKs 0 ((vs.length : Int) - 0).toNat) := ⟨D9, vs9, c9, rfl, by walk_at "mem", ints_of hI9⟩
    refine Stop.mk (ne_ints (by assumption) hx9 hy9 (by (try show (Around.deeper _ _).units + _ < _); ktr_units) ?_)
    have hiff : ((((ech (wideM M) (2 * M.length)).2.map Int.ofNat).take vs.length) = rangeKs 0 ((vs.length : Int) - 0).toNat) ↔ (ech (wideM M) (2 * M.length)).2.take M.length = List.range M.length := by
      have e : rangeKs 0 ((vs.length : Int) - 0).toNat = (List.range M.length).map Int.ofNat := by
        rw [show ((vs.length : Int) - 0).toNat = M.length by lia, rangeKs]
        exact List.map_congr_left fun i _ => by rw [Int.zero_add]; rfl
      rw [e, hvl, ← List.map_take]
      exact List.map_inj_right (fun a b h => Int.ofNat.inj h)
    by_cases hz : (ech (wideM M) (2 * M.length)).2.take M.length = List.range M.length
    · rw [decide_eq_true (hiff.mpr hz)]
      have hcell4 : (L' + 1, o2) ∈ (D9, listOf vs9.toArray c9) :: (D12, listOf (pvs.take vs.length).toArray 0) :: n11 := .tail _ hcell3
      refine hideG fun Gd hGd => ?_
      obtain ⟨D0, rows, kd, hDe, hDm, hDA⟩ := hQ11
      refine hGd ?_
      clear hGd Gd
      cases hDe
      k_steps
      have hDm2 : (D, listOf rows.toArray kd) ∈ (D9, listOf vs9.toArray c9) :: (D12, listOf (pvs.take vs.length).toArray 0) :: n11 := .tail _ (.tail _ hDm)
      rename Fr _ _ _ _ => FS
      rename News _ _ _ _ => NS
      refine Stop.mk (srcC_list (by rfl) FS NS (hDm2) ?_)
      clear FS NS
      intro I hI S FI NI
      have hrl : rows.length = M.length := by rw [hDA.length, hinv.rows]
      refine comp_local S (by rw [sizeLine_eq]; lia) FI NI (by decide) (by rfl) (by rfl) (fun i ys nx => Gr ((D9, listOf vs9.toArray c9) :: (D12, listOf (pvs.take vs.length).toArray 0) :: n11) (fun add => All2 (QRow w (add ++ n11)) ys (((ech (wideM M) (2 * M.length)).1.map (·.drop M.length)).take i)) nx) (.refl trivial) (fun i ys nx hj p hp => by rw [List.mem_singleton.mp hp]; exact hj.sub _ hDm2) ?_ (ret_E ?_)
      · intro C D3 i v ys nx h2 tk2 its oC m2 E2 hi hv hn hx hJ ho F2 N2 Qc Qf hQ hQf
        refine hideG fun Gd hGd => ?_
        obtain ⟨row, hrow, b, us, j, rfl, hb, hB⟩ := hDA.get hv
        refine hGd ?_
        clear hGd Gd
        have hb' : (b, listOf us.toArray j) ∈ nx := hJ.sub _ (.tail _ (.tail _ hb))
        have hcl : (L' + 1, o2) ∈ nx := hJ.sub _ hcell4
        have hlen : us.length = 2 * M.length := by rw [hB.length]; exact hinv.cols row (List.mem_of_getElem? hrow)
        refine tests0 ?_
        k_steps
        rename Fr _ _ _ _ => FS
        rename News _ _ _ _ => NS
        refine Stop.mk (li_from (x := vs.length) FS NS (List.mem_append_left _ hb') (by rw [sizeLine_eq]; lia) (fun D4 h4 F4 N4 hf4 => ?_) (by with_unfolding_all rfl) (by intro r; with_unfolding_all rfl))
        clear FS NS
        k_steps
        have hz2 : ((ech (wideM M) (2 * M.length)).1.map (·.drop M.length))[i]? = some (row.drop M.length) := by rw [List.getElem?_map, hrow]; rfl
        refine hQ _ _ ?_
        refine cend1 (by assumption) (by assumption) hf4 ho (hJ.cons (hf4.sub fun p hp => List.mem_append_left _ hp) fun add h => all2_step h (fun _ _ h => QRow.mono h fun _ h => .tail _ h) hz2 ⟨D4, us.drop vs.length, 0, rfl, .head _, ?_⟩)
        rw [hvl]
        exact (hB.mono fun _ _ h => NumIn.mono h fun p hp => List.mem_append_right _ hp).drop _
      · intro D3 ys nx h2 tk2 hf hJ F2 N2 ho
        have e3 : ((ech (wideM M) (2 * M.length)).1.map (·.drop M.length)).take rows.length = (ech (wideM M) (2 * M.length)).1.map (·.drop M.length) := List.take_of_length_le (by rw [List.length_map, hinv.rows]; lia)
        rw [e3] at hJ
        have hsubN := hJ.sub
        refine hideG fun Gd hGd => ?_
        obtain ⟨add, rfl, _, hA3⟩ := hJ
        refine hGd ?_
        clear hGd Gd
        k_steps
        refine hQ1 _ _ ?_
        (try dsimp only)
        k_steps
        refine hret _ _ _ _ (by assumption) (by assumption) ⟨fun p hp => .tail _ (List.mem_append_right _ (.tail _ (.tail _ (hsub11 _ (hnews p hp))))), ?_⟩
        unfold invP
        rw [if_pos hz]
        exact ⟨D3, ys, _, rfl, .head _, hA3.mono fun _ _ h => QRow.mono h fun p hp => .tail _ ((List.mem_append.mp hp).elim (fun h => List.mem_append_left _ h) fun h => List.mem_append_right _ (.tail _ (.tail _ h)))⟩
    · rw [decide_eq_false (fun h => hz (hiff.mp h))]
      k_steps
      refine hQ1 _ _ ?_
      (try dsimp only)
      k_steps
      refine hret _ _ _ _ (by assumption) (by assumption) ⟨fun p hp => .tail _ (.tail _ (hsub11 _ (hnews p hp))), ?_⟩
      unfold invP
      rw [if_neg hz]
      rfl
end
-- part: W7
section
theorem piv_con {w mean mg mb} (news : Led) (va : Value) (M : List (List Int)) (step : Nat) (ts : Tok) (hM : IMat news va M) (hst : step < M.length) (hl : M.length ≤ 4) (hr : ∀ r ∈ M, r.length = M.length) :
    Con w mean mg mb 124 10 100 news [va, .int step ts] (fun r n' => n' = news ∧ match pivP M step with | none => r = .none | some p => ∃ t, r = .int (p : Int) t) := by
  refine hideG fun Gd hGd => ?_
  obtain ⟨a, vs, k, rfl, hm, hA0⟩ := hM
  refine hGd ?_
  clear hGd Gd
  have hvl := hA0.length
  unfold Con
  intro dp un gd cn cs a' ccd cl outer A₀ base h₀ L m s Q E B F X N T hk hd hu hret
  refine wpAny_call ?_
  k_dflt ktr_enter
  refine letAE ?_
  intro tk1 Q1 hQ1 e1 A1
  rename Fr _ _ _ _ => F0
  replace F0 : Fr _ _ _ (fun y => List.lookup y ([("step", .int step ts), ("a", .ref a)] : List (Str × Value))) := F0
  k_steps
  rename Fr _ _ _ _ => FS
  rename News _ _ _ _ => NS
  rename IsRange _ _ _ _ _ _ _ _ => RS
  refine Stop.mk (srcF_range (n := (vs.length - step)) (by rfl) FS NS RS (by omega) (by omega) (by omega) (by omega) (by omega) ?_)
  clear FS NS RS
  intro I hI S FI NI
  have hrun : pivP M step = (List.range' step (vs.length - step)).find? fun p => decide (entI M p step ≠ 0) := by rw [hvl]; rfl
  refine for_src S FI NI (fun i m nx => nx = news ∧ ((List.range' step i).find? fun p => decide (entI M p step ≠ 0)) = none ∧ m "a" = some (.ref a) ∧ m "step" = some (.int step ts)) ⟨rfl, rfl, by rfl, by rfl⟩ (fun i m nx _ p hp => nomatch hp) ?_ ?_
  · intro i v m1 nx h2 tk2 its hi hp1_ hp2_ ho F2 N2 Qt hQ
    refine hideG fun Gd hGd => ?_
    obtain ⟨t2, hv⟩ := hp1_
    obtain ⟨rfl, hno, hma, hms⟩ := hp2_
    refine hGd ?_
    clear hGd Gd
    subst hv
    replace F2 := fr_ov F2 (Kn.all (ps := [("a", .ref a), ("step", .int step ts)]) ⟨hma, hms, trivial⟩)
    have hi2 : step + i < vs.length := by lia
    refine hideG fun Gd hGd => ?_
    obtain ⟨row, hrow, b, us, j, e, hb, hB⟩ := hA0.get (List.getElem?_eq_getElem hi2)
    have hcl : vs[step + i]? = some (.ref b) := by rw [List.getElem?_eq_getElem hi2, e]
    have hrl := hr row (List.mem_of_getElem? hrow)
    obtain ⟨x, hx, tx, hxe⟩ := hB.get' (List.getElem?_eq_getElem (show step < row.length by lia))
    refine hGd ?_
    clear hGd Gd
    have hent : entI M (step + i) step = row[step] := by
      rw [entI, List.getD_eq_getElem?_getD (l := M), hrow, Option.getD_some, List.getD_eq_getElem?_getD, List.getElem?_eq_getElem (show step < row.length by lia), Option.getD_some]
    have hsp : vs.length - step = i + ((vs.length - step - i - 1) + 1) := by lia
    k_steps
    refine Stop.mk (li_item (by assumption) (by k_mem) (by lia) (by lia) (x := .ref b) (by rw [show ((step : Int) + i).toNat = step + i by lia]; exact hcl) ?_)
    have hm2 : (b, listOf us.toArray j) ∈ nx ++ its := List.mem_append_left _ hb
    k_steps
    refine Stop.mk (li_item (by assumption) (by assumption) (by lia) (by lia) (x := x) (by rw [Int.toNat_natCast]; exact hx) ?_)
    subst hxe
    k_steps
    · rename Fr _ _ _ _ => FS
      rename News _ _ _ _ => NS
      rename row[step] ≠ 0 => hne
      replace NS := nsub (a := nx) NS fun p hp => List.mem_append_left _ hp
      refine hQ _ _ ?_
      unfold LPost
      (try dsimp only)
      k_steps
      refine hQ1 _ _ ?_
      (try dsimp only)
      k_steps
      refine hret _ _ _ _ (by assumption) (by assumption) ⟨rfl, ?_⟩
      have hf : pivP M step = some (step + i) := by
        rw [hrun, hsp, ← List.range'_append_1, List.find?_append, hno, Option.none_or, List.range'_succ, List.find?_cons_of_pos (by rw [hent]; simpa using hne)]
      rw [hf]
      exact ⟨t2, by simp⟩
    · rename Fr _ _ _ _ => FS
      rename News _ _ _ _ => NS
      rename_i hne
      refine hQ _ _ ?_
      refine lend0 FS NS ho ⟨rfl, ?_, by rfl, by rfl⟩
      rw [List.range'_1_concat, List.find?_append, hno, Option.none_or, List.find?_cons_of_neg (by rw [hent]; simpa using hne)]
      rfl
  · intro m1 nx h2 tk2 hp1_ F2 N2
    refine hideG fun Gd hGd => ?_
    obtain ⟨rfl, hno, hma, hms⟩ := hp1_
    refine hGd ?_
    clear hGd Gd
    k_steps
    refine hQ1 _ _ ?_
    (try dsimp only)
    k_steps
    refine hret _ _ _ _ (by assumption) (by assumption) ⟨rfl, ?_⟩
    rw [hrun, hno]
end
-- part: Upd
section
def upd (l : Addr) (o : Obj) (news : Led) : Led := news.map fun p => if p.1 = l then (l, o) else p
theorem mem_upd_self {l : Addr} {o o' : Obj} {news : Led} (h : (l, o') ∈ news) : (l, o) ∈ upd l o news := List.mem_map.mpr ⟨_, h, if_pos rfl⟩
theorem mem_upd_ne {l : Addr} {o : Obj} {news : Led} {p : Addr × Obj} (h : p ∈ news) (hne : p.1 ≠ l) : p ∈ upd l o news := List.mem_map.mpr ⟨p, h, if_neg hne⟩
theorem of_mem_upd {l : Addr} {o : Obj} {news : Led} {p : Addr × Obj} (h : p ∈ upd l o news) : p = (l, o) ∨ (p ∈ news ∧ p.1 ≠ l) := by
  refine hideG fun Gd hGd => ?_
  obtain ⟨q, hq, e⟩ := List.mem_map.mp h
  refine hGd ?_
  clear hGd Gd
  by_cases hl : q.1 = l
  · rw [if_pos hl] at e; exact .inl e.symm
  · rw [if_neg hl] at e; exact .inr (e ▸ ⟨hq, hl⟩)
/-- the same addresses -/
def Same (n' news : Led) : Prop := ∀ p ∈ n', ∃ q ∈ news, q.1 = p.1
theorem Same.refl {news : Led} : Same news news := fun p hp => ⟨p, hp, rfl⟩
theorem Same.trans {a b c : Led} (h : Same a b) (k : Same b c) : Same a c := fun p hp => by
  refine hideG fun Gd hGd => ?_
  obtain ⟨q, hq, e⟩ := h p hp
  obtain ⟨r, hr, e2⟩ := k q hq
  refine hGd ?_
  clear hGd Gd
  exact ⟨r, hr, e2.trans e⟩
theorem Same.upd {l : Addr} {o o' : Obj} {news : Led} (h : (l, o') ∈ news) : Same (upd l o news) news := fun p hp => by
  rcases of_mem_upd hp with rfl | ⟨h2, _⟩
  · exact ⟨_, h, rfl⟩
  · exact ⟨p, h2, rfl⟩
section
variable {prog : Program} {w : World} {A : Around} {E : Value → Shared → Prop} {s : Shared} {h₀ : Heap} {L : Addr} {m : Str → Option Value} {news : Led}
theorem li_setU {l : Addr} {vs : List Value} {n : Nat} {k : Int} {t : Tok} {v : Value} {Q : Unit → Shared → Prop} (F : Fr h₀ L s.heap m) (N : News h₀ L s.heap news) (hm : (l, listOf vs.toArray n) ∈ news)
    (h0 : 0 ≤ k) (hfit : k < 2 ^ 63) (hk : k < (vs.length : Int)) (h : ∀ h', Fr h₀ L h' m → News h₀ L h' (upd l (listOf (vs.set k.toNat v).toArray n) news) → Q () { s with heap := h' }) :
    wpAny (model prog w) A (setItem (.ref l) (.int k t) v) Q E s := by
  refine li_set (vs := vs) (n := n) (rest := news.filter fun p => decide (p.1 ≠ l)) F (fun p hp => ?_) (fun p hp => by simpa using (List.mem_filter.mp hp).2) h0 hfit hk fun h' F' N' => h h' F' fun p hp => N' p ?_
  · rcases List.mem_cons.mp hp with rfl | hp
    · exact N _ hm
    · exact N p (List.mem_filter.mp hp).1
  · rcases of_mem_upd hp with rfl | ⟨h1, h2⟩
    · exact .head _
    · exact .tail _ (List.mem_filter.mpr ⟨h1, by simpa using h2⟩)
end
/-- a table of ints at D whose rows stand at the addresses bs -/
structure MMat (nx : Led) (D : Addr) (bs : List Addr) (M : List (List Int)) : Prop where
  nodup : bs.Nodup
  off : D ∉ bs
  outer : ∃ k, (D, listOf (bs.map Value.ref).toArray k) ∈ nx
  rows : All2 (fun b r => ∃ us k, (b, listOf us.toArray k) ∈ nx ∧ All2 IntIn us r) bs M
theorem MMat.row {nx : Led} {D : Addr} {bs : List Addr} {M : List (List Int)} (h : MMat nx D bs M) {r : Nat} (hr : r < M.length) : ∃ b us k, bs[r]? = some b ∧ (bs.map Value.ref)[r]? = some (.ref b) ∧ (b, listOf us.toArray k) ∈ nx ∧ All2 IntIn us (M.getD r []) := by
  refine hideG fun Gd hGd => ?_
  obtain ⟨b, hb, us, k, h1, h2⟩ := h.rows.get' (List.getElem?_eq_getElem hr)
  refine hGd ?_
  clear hGd Gd
  exact ⟨b, us, k, hb, by rw [List.getElem?_map, hb]; rfl, h1, by rw [List.getD_eq_getElem?_getD, List.getElem?_eq_getElem hr]; exact h2⟩
theorem MMat.mono {nx nx' : Led} {D : Addr} {bs : List Addr} {M : List (List Int)} (h : MMat nx D bs M) (s : ∀ p ∈ nx, p ∈ nx') : MMat nx' D bs M :=
  ⟨h.nodup, h.off, let ⟨k, hk⟩ := h.outer; ⟨k, s _ hk⟩, h.rows.mono fun _ _ ⟨us, k, h1, h2⟩ => ⟨us, k, s _ h1, h2⟩⟩
theorem All2.imp_mem {α β : Type} {R R' : α → β → Prop} : ∀ {as : List α} {bs : List β}, All2 R as bs → (∀ a b, a ∈ as → R a b → R' a b) → All2 R' as bs
  | [], [], _, _ => trivial
  | _ :: _, _ :: _, h, k => ⟨k _ _ (.head _) h.1, All2.imp_mem h.2 fun a b ha => k a b (.tail _ ha)⟩
  | [], _ :: _, h, _ => h.elim
  | _ :: _, [], h, _ => h.elim
theorem all2_of_get {α β : Type} {R : α → β → Prop} : ∀ {as : List α} {bs : List β}, as.length = bs.length → (∀ (i : Nat) a b, as[i]? = some a → bs[i]? = some b → R a b) → All2 R as bs
  | [], [], _, _ => trivial
  | _ :: _, _ :: _, e, h => ⟨h 0 _ _ rfl rfl, all2_of_get (Nat.succ.inj e) fun i a b ha hb => h (i + 1) a b ha hb⟩
  | [], _ :: _, e, _ => nomatch e
  | _ :: _, [], e, _ => nomatch e
theorem MMat.set {nx : Led} {D : Addr} {bs : List Addr} {M : List (List Int)} (h : MMat nx D bs M) {r c : Nat} {b : Addr} {us : List Value} {k : Nat} {x : Int} {t : Tok} (hb : bs[r]? = some b) (hm : (b, listOf us.toArray k) ∈ nx) (hA : All2 IntIn us (M.getD r [])) :
    MMat (upd b (listOf (us.set c (.int x t)).toArray k) nx) D bs (M.set r ((M.getD r []).set c x)) := by
  refine ⟨h.nodup, h.off, ?_, all2_of_get (by rw [List.length_set]; exact h.rows.length) fun i a row ha hrow => ?_⟩
  · refine hideG fun Gd hGd => ?_
    obtain ⟨k, hk⟩ := h.outer
    refine hGd ?_
    clear hGd Gd
    exact ⟨k, mem_upd_ne hk fun e => h.off (show D ∈ bs from (show D = b from e) ▸ List.mem_of_getElem? hb)⟩
  · rw [List.getElem?_set] at hrow
    by_cases e : r = i
    · subst e
      rw [hb] at ha
      cases ha
      rw [if_pos rfl] at hrow
      split at hrow
      · cases hrow
        exact ⟨_, k, mem_upd_self hm, hA.set _ ⟨t, rfl⟩⟩
      · cases hrow
    · rw [if_neg e] at hrow
      refine hideG fun Gd hGd => ?_
      obtain ⟨row', h1, us', k', h2, h3⟩ := h.rows.get ha
      refine hGd ?_
      clear hGd Gd
      rw [h1] at hrow
      cases hrow
      refine ⟨us', k', mem_upd_ne h2 fun e2 => e ?_, h3⟩
      have e2' : a = b := e2
      subst e2'
      have hi := List.getElem?_eq_some_iff.mp ha
      have hr := List.getElem?_eq_some_iff.mp hb
      have hp := List.pairwise_iff_getElem.mp h.nodup
      rcases Nat.lt_trichotomy r i with h8 | h8 | h8
      · exact absurd (hr.2.trans hi.2.symm) (hp r i hr.1 hi.1 h8)
      · exact h8
      · exact absurd (hi.2.trans hr.2.symm) (hp i r hi.1 hr.1 h8)
end
section
theorem upd_sub {l : Addr} {o : Obj} {nx its : Led} (h : ∀ p ∈ its, p.1 ≠ l) : ∀ p ∈ upd l o nx ++ its, p ∈ upd l o (nx ++ its) := fun p hp => by
  rcases List.mem_append.mp hp with hp | hp
  · rcases of_mem_upd hp with rfl | ⟨h1, h2⟩
    · refine hideG fun Gd hGd => ?_
      obtain ⟨q, hq, e⟩ := List.mem_map.mp hp
      refine hGd ?_
      clear hGd Gd
      refine List.mem_map.mpr ⟨q, List.mem_append_left _ hq, e⟩
    · exact mem_upd_ne (List.mem_append_left _ h1) h2
  · exact mem_upd_ne (List.mem_append_right _ hp) (h p hp)
theorem headE {h₀ h : Heap} {L : Addr} {p : Addr × Obj} {rest : Led} (N : News h₀ L h (p :: rest)) : ∃ p0, News h₀ L h (p0 :: rest) := ⟨p, N⟩
theorem tokE {h₀ h : Heap} {L l : Addr} {us : List Value} {c k : Nat} {x : Int} {t : Tok} {rest : Led} (N : News h₀ L h (upd l (listOf (us.set c (.int x t)).toArray k) rest)) : ∃ t, News h₀ L h (upd l (listOf (us.set c (.int x t)).toArray k) rest) := ⟨t, N⟩
theorem Same.offs {nx' nx its : Led} (h : Same nx' nx) (ho : Off its nx) : Off its nx' := fun p hp q hq e => by
  refine hideG fun Gd hGd => ?_
  obtain ⟨r, hr, e2⟩ := h p hp
  refine hGd ?_
  clear hGd Gd
  exact ho r hr q hq (e2.trans e)
theorem MMat.cell {nx : Led} {D : Addr} {bs : List Addr} {M : List (List Int)} (h : MMat nx D bs M) {r c : Nat} (hr : r < M.length) (hc : c < (M.getD r []).length) :
    ∃ b us k t, bs[r]? = some b ∧ (bs.map Value.ref)[r]? = some (.ref b) ∧ (b, listOf us.toArray k) ∈ nx ∧ us[c]? = some (.int (entI M r c) t) ∧ All2 IntIn us (M.getD r []) := by
  refine hideG fun Gd hGd => ?_
  obtain ⟨b, us, k, h1, h2, h3, h4⟩ := h.row hr
  obtain ⟨x, hx, t, rfl⟩ := h4.get' (List.getElem?_eq_getElem hc)
  refine hGd ?_
  clear hGd Gd
  exact ⟨b, us, k, t, h1, h2, h3, by rw [hx, entI, List.getD_eq_getElem?_getD (l := M.getD r []), List.getElem?_eq_getElem hc]; rfl, h4⟩
theorem MMat.lens {nx : Led} {D : Addr} {bs : List Addr} {M : List (List Int)} (h : MMat nx D bs M) : bs.length = M.length := h.rows.length

theorem bRows_length {M : List (List Int)} {step : Nat} {ahead : Int} {i : Nat} : (bRows M step ahead i).length = M.length := by simp [bRows]
theorem bRow_length {lead first ahead : Int} {prow row : List Int} {step j : Nat} : (bRow lead first ahead prow row step j).length = row.length := by simp [bRow]
theorem bRows_zero {M : List (List Int)} {step : Nat} {ahead : Int} : bRows M step ahead 0 = M := by
  apply List.ext_getElem
  · exact bRows_length
  · intro i h1 h2
    simp only [bRows, List.getElem_mapIdx]
    rw [if_neg (by lia)]
theorem bRow_zero {lead first ahead : Int} {prow row : List Int} {step : Nat} : bRow lead first ahead prow row step 0 = row := by
  apply List.ext_getElem
  · exact bRow_length
  · intro i h1 h2
    simp only [bRow, List.getElem_mapIdx]
    rw [if_neg (by lia)]
theorem bRows_get {M : List (List Int)} {step : Nat} {ahead : Int} {i r : Nat} (h : ¬ (step < r ∧ r < step + 1 + i)) : (bRows M step ahead i).getD r [] = M.getD r [] := by
  simp only [bRows, List.getD_eq_getElem?_getD, List.getElem?_mapIdx]
  cases M[r]? with
  | none => rfl
  | some row => simp only [Option.map_some, if_neg h]
theorem bRow_get {lead first ahead : Int} {prow row : List Int} {step j c : Nat} (h : ¬ (step < c ∧ c < step + 1 + j)) : (bRow lead first ahead prow row step j).getD c 0 = row.getD c 0 := by
  simp only [bRow, List.getD_eq_getElem?_getD, List.getElem?_mapIdx]
  cases row[c]? with
  | none => rfl
  | some x => simp only [Option.map_some, if_neg h]
theorem bRows_succ {M : List (List Int)} {step : Nat} {ahead : Int} {i : Nat} (h : step + 1 + i < M.length) : bRows M step ahead (i + 1) =
    (bRows M step ahead i).set (step + 1 + i) ((bRow (entI M step step) (entI M (step + 1 + i) step) ahead (M.getD step []) (M.getD (step + 1 + i) []) step (M.length - (step + 1))).set step 0) := by
  apply List.ext_getElem?
  intro r
  simp only [bRows, List.getElem?_set, List.getElem?_mapIdx, List.length_mapIdx]
  by_cases e : step + 1 + i = r
  · subst e
    rw [if_pos rfl, if_pos h, List.getElem?_eq_getElem h, Option.map_some, if_pos (by lia), show entI M (step + 1 + i) step = (M.getD (step + 1 + i) []).getD step 0 from rfl, List.getD_eq_getElem?_getD (l := M) (i := step + 1 + i), List.getElem?_eq_getElem h, Option.getD_some]
  · rw [if_neg e]
    congr 1
    funext row
    by_cases h2 : step < r ∧ r < step + 1 + i
    · rw [if_pos h2, if_pos ⟨h2.1, by lia⟩]
    · rw [if_neg h2, if_neg (by lia)]
theorem bRow_succ {lead first ahead : Int} {prow row : List Int} {step j : Nat} (h : step + 1 + j < row.length) : bRow lead first ahead prow row step (j + 1) =
    (bRow lead first ahead prow row step j).set (step + 1 + j) ((row.getD (step + 1 + j) 0 * lead - first * prow.getD (step + 1 + j) 0).fdiv ahead) := by
  apply List.ext_getElem?
  intro c
  simp only [bRow, List.getElem?_set, List.getElem?_mapIdx, List.length_mapIdx]
  by_cases e : step + 1 + j = c
  · subst e
    rw [if_pos rfl, if_pos h, List.getElem?_eq_getElem h, Option.map_some, if_pos (by lia), List.getD_eq_getElem?_getD (l := row), List.getElem?_eq_getElem h, Option.getD_some]
  · rw [if_neg e]
    congr 1
    funext x
    by_cases h2 : step < c ∧ c < step + 1 + j
    · rw [if_pos h2, if_pos ⟨h2.1, by lia⟩]
    · rw [if_neg h2, if_neg (by lia)]
end
-- part: W8
section
local macro_rules | `(tactic| walk_at "binaryOp FloorDiv int int") => `(tactic| (k_here; refine' floordiv_int ?kb ?_ ?kp; (case kb => first | assumption | omega); (case kp => exact Or.inl (by assumption))))
/-- between the turns of bareiss_step's two loops -/
inductive BJ (news : Led) (D : Addr) (bs : List Addr) (M : List (List Int)) (step : Nat) (ahead : Int) (ts ta t1 : Tok) (i : Nat) (m : Str → Option Value) (nx : Led) : Prop
  | mk (h1 : MMat nx D bs (bRows M step ahead i)) (h2 : Same nx news) (h3 : ∀ p ∈ news, p.1 ∉ bs → p ∈ nx) (h4 : m "a" = some (.ref D)) (h5 : m "step" = some (.int step ts)) (h6 : m "ahead" = some (.int ahead ta))
    (h7 : m "lead" = some (.int (entI M step step) t1)) : BJ news D bs M step ahead ts ta t1 i m nx
inductive BK (nx its : Led) (D : Addr) (bs : List Addr) (M : List (List Int)) (step i : Nat) (ahead : Int) (ts ta t1 t2 t3 : Tok) (j : Nat) (m : Str → Option Value) (nx2 : Led) : Prop
  | mk (nx' : Led) (h1 : nx2 = nx' ++ its) (h2 : Same nx' nx) (h3 : ∀ p ∈ nx, p.1 ∉ bs → p ∈ nx') (h4 : MMat nx' D bs ((bRows M step ahead i).set (step + 1 + i) (bRow (entI M step step) (entI M (step + 1 + i) step) ahead (M.getD step []) (M.getD (step + 1 + i) []) step j)))
    (h5 : m "a" = some (.ref D)) (h6 : m "step" = some (.int step ts)) (h7 : m "ahead" = some (.int ahead ta)) (h8 : m "lead" = some (.int (entI M step step) t1)) (h9 : m "row" = some (.int ((step : Int) + 1 + i) t2)) (h10 : m "first" = some (.int (entI M (step + 1 + i) step) t3)) :
    BK nx its D bs M step i ahead ts ta t1 t2 t3 j m nx2
theorem bst_con {w mean mg mb} (news : Led) (D : Addr) (bs : List Addr) (M : List (List Int)) (step : Nat) (ahead : Int) (ts ta : Tok) (b : Nat) (hM : MMat news D bs M) (hst : step < M.length) (hl : M.length ≤ 4) (hr : ∀ r ∈ M, r.length = M.length)
    (hs : ∀ r ∈ M, ∀ x ∈ r, x.natAbs < 2 ^ b) (hb : b ≤ 1000) (ha : ahead ≠ 0) (hal : ahead.natAbs.log2 < 9000) :
    Con w mean mg mb 131 10 100 news [.ref D, .int step ts, .int ahead ta] (fun r n' => r = .none ∧ MMat n' D bs (bstep M step ahead) ∧ Same n' news ∧ ∀ p ∈ news, p.1 ∉ bs → p ∈ n') := by
  have hpy := fun z : Int => PyProof.noPylong_of_log2 (x := z) hal
  have hgl : ∀ r, r < M.length → (M.getD r []).length = M.length := fun r h => hr _ (by rw [List.getD_eq_getElem?_getD, List.getElem?_eq_getElem h]; exact List.getElem_mem h)
  refine hideG fun Gd hGd => ?_
  obtain ⟨kd, hout⟩ := hM.outer
  refine hGd ?_
  clear hGd Gd
  have hbl := hM.lens
  unfold Con
  intro dp un gd cn cs a' ccd cl outer A₀ base h₀ L m s Q E B F X N T hk hd hu hret
  refine wpAny_call ?_
  k_dflt ktr_enter
  refine letAE ?_
  intro tk1 Q1 hQ1 e1 A1
  rename Fr _ _ _ _ => F0
  replace F0 : Fr _ _ _ (fun y => List.lookup y ([("ahead", .int ahead ta), ("step", .int step ts), ("a", .ref D)] : List (Str × Value))) := F0
  refine hideG fun Gd hGd => ?_
  obtain ⟨b1, us1, k1, t1, g1, g2, g3, g4, g5⟩ := hM.cell hst (show step < (M.getD step []).length by rw [hgl _ hst]; exact hst)
  refine hGd ?_
  clear hGd Gd
  have hmap : (bs.map Value.ref).length = M.length := by rw [List.length_map, hbl]
  k_steps
  refine Stop.mk (li_itemN (by assumption) hout (by lia) g2 ?_)
  k_steps
  refine Stop.mk (li_itemN (by assumption) g3 (by lia) g4 ?_)
  k_steps
  rename Fr _ _ _ _ => FS
  rename News _ _ _ _ => NS
  rename IsRange _ _ _ _ _ _ _ _ => RS
  refine Stop.mk (srcF_range (n := (M.length - (step + 1))) (by rfl) FS NS RS (by omega) (by omega) (by omega) (by omega) (by omega) ?_)
  clear FS NS RS
  intro I hI S FI NI
  refine for_src S FI NI (fun i m nx => BJ news D bs M step ahead ts ta t1 i m nx) ⟨by rw [bRows_zero]; exact hM, .refl, fun p hp _ => hp, by rfl, by rfl, by rfl, by rfl⟩ (fun i m nx _ p hp => nomatch hp) ?_ ?_
  · intro i v m1 nx h2 tk2 its hi hp1_ hp2_ ho F2 N2 Qt hQ
    refine hideG fun Gd hGd => ?_
    obtain ⟨t2, hv⟩ := hp1_
    obtain ⟨hM1, hsame, hkeep, hma, hms, hmh, hml⟩ := hp2_
    refine hGd ?_
    clear hGd Gd
    subst hv
    replace F2 := fr_ov F2 (Kn.all (ps := [("a", .ref D), ("step", .int step ts), ("ahead", .int ahead ta), ("lead", .int (entI M step step) t1)]) ⟨hma, hms, hmh, hml, trivial⟩)
    have hR : step + 1 + i < M.length := by lia
    have hgR : (bRows M step ahead i).getD (step + 1 + i) [] = M.getD (step + 1 + i) [] := bRows_get (by lia)
    have hgS : (bRows M step ahead i).getD step [] = M.getD step [] := bRows_get (by lia)
    refine hideG fun Gd hGd => ?_
    obtain ⟨b2, us2, k2, t3, e1, e2, e3, e4, e5⟩ := hM1.cell (r := step + 1 + i) (c := step) (by rw [bRows_length]; exact hR) (by rw [hgR, hgl _ hR]; exact hst)
    have hent : entI (bRows M step ahead i) (step + 1 + i) step = entI M (step + 1 + i) step := by rw [entI, hgR]; rfl
    rw [hent] at e4
    rw [hgR] at e5
    obtain ⟨k3, e6⟩ := hM1.outer
    refine hGd ?_
    clear hGd Gd
    have e3' : (b2, listOf us2.toArray k2) ∈ nx ++ its := List.mem_append_left _ e3
    have e6' : (D, listOf (bs.map Value.ref).toArray k3) ∈ nx ++ its := List.mem_append_left _ e6
    k_steps
    refine Stop.mk (li_item (by assumption) e6' (by lia) (by lia) (by rw [show ((step : Int) + 1 + i).toNat = step + 1 + i by lia]; exact e2) ?_)
    k_steps
    refine Stop.mk (li_item (by assumption) e3' (by lia) (by lia) (by rw [Int.toNat_natCast]; exact e4) ?_)
    k_steps
    rename Fr _ _ _ _ => FS
    rename News _ _ _ _ => NS
    rename IsRange _ _ _ _ _ _ _ _ => RS
    refine Stop.mk (srcF_range (n := (M.length - (step + 1))) (by rfl) FS NS RS (by omega) (by omega) (by omega) (by omega) (by omega) ?_)
    clear FS NS RS
    intro I hI S FI NI
    have hoffb : ∀ p ∈ its, p.1 ≠ b2 := fun p hp e => ho _ e3 p hp e.symm
    refine for_src S FI NI (fun j m nx2 => BK nx its D bs M step i ahead ts ta t1 t2 t3 j m nx2) ⟨nx, rfl, .refl, fun p hp _ => hp, ?_, by rfl, by rfl, by rfl, by rfl, by rfl, by rfl⟩ (fun i m nx _ p hp => nomatch hp) ?_ ?_
    · rw [bRow_zero, ← hgR, List.getD_eq_getElem?_getD, List.getElem?_eq_getElem (by rw [bRows_length]; exact hR), Option.getD_some, List.set_getElem_self]
      exact hM1
    · intro j v m3 nx2 h4 tk4 its4 hj hp1_ hp2_ ho4 F4 N4 Qt hQ
      refine hideG fun Gd hGd => ?_
      obtain ⟨t4, hv⟩ := hp1_
      obtain ⟨nx', rfl, hsame2, hkeep2, hM2, qa, qs, qh, ql, qr, qf⟩ := hp2_
      refine hGd ?_
      clear hGd Gd
      subst hv
      replace F4 := fr_ov F4 (Kn.all (ps := [("a", .ref D), ("step", .int step ts), ("ahead", .int ahead ta), ("lead", .int (entI M step step) t1), ("row", .int ((step : Int) + 1 + i) t2), ("first", .int (entI M (step + 1 + i) step) t3)]) ⟨qa, qs, qh, ql, qr, qf, trivial⟩)
      have hC : step + 1 + j < M.length := by lia
      have hLm : ((bRows M step ahead i).set (step + 1 + i) (bRow (entI M step step) (entI M (step + 1 + i) step) ahead (M.getD step []) (M.getD (step + 1 + i) []) step j)).length = M.length := by rw [List.length_set, bRows_length]
      have hLb : (bRows M step ahead i).length = M.length := bRows_length
      have hG1 : ((bRows M step ahead i).set (step + 1 + i) (bRow (entI M step step) (entI M (step + 1 + i) step) ahead (M.getD step []) (M.getD (step + 1 + i) []) step j)).getD (step + 1 + i) [] = bRow (entI M step step) (entI M (step + 1 + i) step) ahead (M.getD step []) (M.getD (step + 1 + i) []) step j := by
        rw [List.getD_eq_getElem?_getD, List.getElem?_set, if_pos rfl, if_pos (by lia), Option.getD_some]
      have hG2 : ((bRows M step ahead i).set (step + 1 + i) (bRow (entI M step step) (entI M (step + 1 + i) step) ahead (M.getD step []) (M.getD (step + 1 + i) []) step j)).getD step [] = M.getD step [] := by
        rw [List.getD_eq_getElem?_getD, List.getElem?_set, if_neg (by lia), ← List.getD_eq_getElem?_getD, hgS]
      refine hideG fun Gd hGd => ?_
      obtain ⟨k6, f6⟩ := hM2.outer
      obtain ⟨b3, us3, k5, t5, f1, f2, f3, f4, f5⟩ := hM2.cell (r := step + 1 + i) (c := step + 1 + j) (by lia) (by rw [hG1, bRow_length, hgl _ hR]; exact hC)
      obtain ⟨b4, us4, k7, t6, p1, p2, p3, p4, p5⟩ := hM2.cell (r := step) (c := step + 1 + j) (by lia) (by rw [hG2, hgl _ hst]; exact hC)
      refine hGd ?_
      clear hGd Gd
      have hE1 : entI ((bRows M step ahead i).set (step + 1 + i) (bRow (entI M step step) (entI M (step + 1 + i) step) ahead (M.getD step []) (M.getD (step + 1 + i) []) step j)) (step + 1 + i) (step + 1 + j) = entI M (step + 1 + i) (step + 1 + j) := by
        rw [entI, hG1, bRow_get (by lia)]; rfl
      have hE2 : entI ((bRows M step ahead i).set (step + 1 + i) (bRow (entI M step step) (entI M (step + 1 + i) step) ahead (M.getD step []) (M.getD (step + 1 + i) []) step j)) step (step + 1 + j) = entI M step (step + 1 + j) := by
        rw [entI, hG2]; rfl
      rw [hE1] at f4
      rw [hE2] at p4
      rw [hG1] at f5
      have hbd : ∀ r c, r < M.length → c < M.length → (entI M r c).natAbs < 2 ^ b := fun r c h1 h2 => by
        have h3 : c < (M.getD r []).length := by rw [hgl r h1]; exact h2
        refine hs (M.getD r []) (by rw [List.getD_eq_getElem?_getD, List.getElem?_eq_getElem h1]; exact List.getElem_mem h1) _ ?_
        rw [entI, List.getD_eq_getElem?_getD (l := M.getD r []), List.getElem?_eq_getElem h3]
        exact List.getElem_mem h3
      have hm1 : IntMulOk (entI M (step + 1 + i) (step + 1 + j)) (entI M step step) := mulOk_of (hbd _ _ hR hC) (hbd _ _ hst hst) (by lia) (by lia)
      have hm2 : IntMulOk (entI M (step + 1 + i) step) (entI M step (step + 1 + j)) := mulOk_of (hbd _ _ hR hst) (hbd _ _ hst hC) (by lia) (by lia)
      have hpz := hpy (entI M (step + 1 + i) (step + 1 + j) * entI M step step - entI M (step + 1 + i) step * entI M step (step + 1 + j))
      have l1 : (D, listOf (bs.map Value.ref).toArray k6) ∈ nx' ++ its ++ its4 := List.mem_append_left _ (List.mem_append_left _ f6)
      have l2 : (b3, listOf us3.toArray k5) ∈ nx' ++ its ++ its4 := List.mem_append_left _ (List.mem_append_left _ f3)
      have l3 : (b4, listOf us4.toArray k7) ∈ nx' ++ its ++ its4 := List.mem_append_left _ (List.mem_append_left _ p3)
      k_steps
      refine Stop.mk (li_item (by assumption) l1 (by lia) (by lia) (by rw [show ((step : Int) + 1 + i).toNat = step + 1 + i by lia]; exact f2) ?_)
      k_steps
      refine Stop.mk (li_item (by assumption) l2 (by lia) (by lia) (by rw [show ((step : Int) + 1 + j).toNat = step + 1 + j by lia]; exact f4) ?_)
      k_steps
      refine Stop.mk (li_itemN (by assumption) l1 (by lia) p2 ?_)
      k_steps
      refine Stop.mk (li_item (by assumption) l3 (by lia) (by lia) (by rw [show ((step : Int) + 1 + j).toNat = step + 1 + j by lia]; exact p4) ?_)
      k_steps
      refine Stop.mk (li_item (by assumption) l1 (by lia) (by lia) (by rw [show ((step : Int) + 1 + i).toNat = step + 1 + i by lia]; exact f2) ?_)
      k_steps
      rename Fr _ _ _ _ => FS
      rename News _ _ _ _ => NS
      refine Stop.mk (li_setU FS NS l2 (by lia) (by lia) (by rw [f5.length, bRow_length, hgl _ hR]; omega) fun h5 F5 N5 => ?_)
      clear FS NS
      rw [show ((step : Int) + 1 + j).toNat = step + 1 + j by lia] at N5
      refine hideG fun Gd hGd => ?_
      obtain ⟨t9, N5⟩ := tokE N5
      refine hGd ?_
      clear hGd Gd
      have hset : ∀ t, MMat (upd b3 (listOf (us3.set (step + 1 + j) (.int ((entI M (step + 1 + i) (step + 1 + j) * entI M step step - entI M (step + 1 + i) step * entI M step (step + 1 + j)).fdiv ahead) t)).toArray k5) nx') D bs ((bRows M step ahead i).set (step + 1 + i) (bRow (entI M step step) (entI M (step + 1 + i) step) ahead (M.getD step []) (M.getD (step + 1 + i) []) step (j + 1))) := fun t => by
        have h := hM2.set (c := step + 1 + j) (x := (entI M (step + 1 + i) (step + 1 + j) * entI M step step - entI M (step + 1 + i) step * entI M step (step + 1 + j)).fdiv ahead) (t := t) f1 f3 (by rw [hG1]; exact f5)
        rw [List.set_set, hG1] at h
        rw [bRow_succ (by rw [hgl _ hR]; exact hC)]
        exact h
      have hb3 : ∀ p ∈ its, p.1 ≠ b3 := fun p hp e => (hsame2.offs ho) _ f3 p hp e.symm
      have hb4 : ∀ p ∈ its4, p.1 ≠ b3 := fun p hp e => ho4 _ (List.mem_append_left _ f3) p hp e.symm
      k_steps
      refine hQ _ _ ?_
      refine lend F5 N5 (fun p hp => ?_) (fun p hp => ?_) ?_ ⟨_, rfl, (Same.upd f3).trans hsame2, fun p hp hq => mem_upd_ne (o := listOf (us3.set (step + 1 + j) (.int _ t9)).toArray k5) (hkeep2 p hp hq) fun e => hq (e ▸ List.mem_of_getElem? f1), hset t9, by rfl, by rfl, by rfl, by rfl, by rfl, by rfl⟩
      · exact mem_upd_ne (List.mem_append_right _ hp) (hb4 p hp)
      · rw [List.append_assoc]
        refine upd_sub (fun p hp => ?_) p ?_
        · rcases List.mem_append.mp hp with hp | hp
          · exact hb3 p hp
          · exact hb4 p hp
        · rcases List.mem_append.mp hp with hp | hp
          · exact List.mem_append_left _ hp
          · exact List.mem_append_right _ (List.mem_append_left _ hp)
      · exact Off.app ((Same.upd f3).offs fun p hp => ho4 p (List.mem_append_left _ hp)) fun p hp => ho4 p (List.mem_append_right _ hp)
    · intro m3 nx2 h4 tk4 hp1_ F4 N4
      refine hideG fun Gd hGd => ?_
      obtain ⟨nx', rfl, hsame2, hkeep2, hM2, qa, qs, qh, ql, qr, qf⟩ := hp1_
      replace F4 := fr_ov F4 (Kn.all (ps := [("a", .ref D), ("step", .int step ts), ("ahead", .int ahead ta), ("lead", .int (entI M step step) t1), ("row", .int ((step : Int) + 1 + i) t2), ("first", .int (entI M (step + 1 + i) step) t3)]) ⟨qa, qs, qh, ql, qr, qf, trivial⟩)
      have hLb : (bRows M step ahead i).length = M.length := bRows_length
      obtain ⟨k6, f6⟩ := hM2.outer
      have hG1 : ((bRows M step ahead i).set (step + 1 + i) (bRow (entI M step step) (entI M (step + 1 + i) step) ahead (M.getD step []) (M.getD (step + 1 + i) []) step (M.length - (step + 1)))).getD (step + 1 + i) [] = bRow (entI M step step) (entI M (step + 1 + i) step) ahead (M.getD step []) (M.getD (step + 1 + i) []) step (M.length - (step + 1)) := by
        rw [List.getD_eq_getElem?_getD, List.getElem?_set, if_pos rfl, if_pos (by lia), Option.getD_some]
      obtain ⟨b3, us3, k5, f1, f2, f3, f5⟩ := hM2.row (r := step + 1 + i) (by rw [List.length_set]; omega)
      refine hGd ?_
      clear hGd Gd
      k_steps
      refine Stop.mk (li_item (by assumption) (List.mem_append_left _ f6) (by lia) (by lia) (by rw [show ((step : Int) + 1 + i).toNat = step + 1 + i by lia]; exact f2) ?_)
      k_steps
      rename Fr _ _ _ _ => FS
      rename News _ _ _ _ => NS
      refine Stop.mk (li_setU FS NS (List.mem_append_left _ f3) (by lia) (by lia) (by rw [f5.length, hG1, bRow_length, hgl _ hR]; omega) fun h5 F5 N5 => ?_)
      clear FS NS
      rw [Int.toNat_natCast] at N5
      refine hideG fun Gd hGd => ?_
      obtain ⟨t9, N5⟩ := tokE N5
      refine hGd ?_
      clear hGd Gd
      have hset : ∀ t, MMat (upd b3 (listOf (us3.set step (.int 0 t)).toArray k5) nx') D bs (bRows M step ahead (i + 1)) := fun t => by
        have h := hM2.set (c := step) (x := 0) (t := t) f1 f3 f5
        rw [List.set_set, hG1, ← bRows_succ hR] at h
        exact h
      have hb3 : ∀ p ∈ its, p.1 ≠ b3 := fun p hp e => (hsame2.offs ho) _ f3 p hp e.symm
      k_steps
      refine hQ _ _ ?_
      refine lend F5 N5 (fun p hp => mem_upd_ne (List.mem_append_right _ hp) (hb3 p hp)) (fun p hp => upd_sub hb3 p (List.mem_append_left _ hp)) ((Same.upd f3).offs (hsame2.offs ho)) ⟨hset t9, (Same.upd f3).trans (hsame2.trans hsame), fun p hp hq => mem_upd_ne (hkeep2 p (hkeep p hp hq) hq) fun e => hq (e ▸ List.mem_of_getElem? f1), by rfl, by rfl, by rfl, by rfl⟩
  · intro m1 nx h2 tk2 hp1_ F2 N2
    refine hideG fun Gd hGd => ?_
    obtain ⟨hM1, hsame, hkeep, hma, hms, hmh, hml⟩ := hp1_
    refine hGd ?_
    clear hGd Gd
    k_steps
    refine hQ1 _ _ ?_
    (try dsimp only)
    k_steps
    refine hret _ _ _ _ (by assumption) (by assumption) ⟨rfl, hM1, hsame, hkeep⟩
end
-- part: DetInv
section
def ib : Nat → Nat
  | 0 => 22
  | k + 1 => 2 * ib k + 1
theorem ib_mono {a b : Nat} (h : a ≤ b) : ib a ≤ ib b := by
  induction b with
  | zero => rw [Nat.le_zero.mp h]; exact Nat.le_refl _
  | succ n ih =>
    rcases Nat.lt_or_ge a (n + 1) with h1 | h1
    · have := ih (by lia)
      simp only [ib]
      lia
    · rw [Nat.le_antisymm h h1]; exact Nat.le_refl _
theorem natAbs_fdiv_le (x a : Int) : (x.fdiv a).natAbs ≤ x.natAbs := by
  rcases Int.lt_trichotomy a 0 with h | h | h
  · have e : x.fdiv a = (-x).fdiv (-a) := by
      have : (-x).fdiv (-a) = x.fdiv a := by rw [Int.neg_fdiv_neg]
      exact this.symm
    rw [e, Int.fdiv_eq_ediv_of_nonneg _ (by lia)]
    have := Int.natAbs_ediv_le_natAbs (-x) (-a)
    rwa [Int.natAbs_neg] at this
  · subst h; simp
  · rw [Int.fdiv_eq_ediv_of_nonneg _ (by lia)]
    exact Int.natAbs_ediv_le_natAbs x a
structure DInv (n k : Nat) (st : DSt) : Prop where
  rows : st.1.length = n
  cols : ∀ r ∈ st.1, r.length = n
  sz : ∀ r ∈ st.1, ∀ x ∈ r, x.natAbs < 2 ^ ib k
  ah : st.2.2 ≠ 0
  ahsz : st.2.2.natAbs < 2 ^ ib k
theorem entI_sz {M : List (List Int)} {b : Nat} (hs : ∀ r ∈ M, ∀ x ∈ r, x.natAbs < 2 ^ b) (r c : Nat) : (entI M r c).natAbs < 2 ^ b := by
  rw [entI, List.getD_eq_getElem?_getD]
  cases h : (M.getD r [])[c]? with
  | none => simpa using Nat.two_pow_pos b
  | some x =>
    rw [List.getD_eq_getElem?_getD] at h
    cases h2 : M[r]? with
    | none => rw [h2] at h; cases h
    | some row =>
      rw [h2] at h
      exact hs row (List.mem_of_getElem? h2) x (List.mem_of_getElem? h)
theorem bRow_mem {lead first ahead : Int} {prow row : List Int} {step j b : Nat} (h1 : lead.natAbs < 2 ^ b) (h2 : first.natAbs < 2 ^ b) (h3 : ∀ x ∈ prow, x.natAbs < 2 ^ b) (h4 : ∀ x ∈ row, x.natAbs < 2 ^ b) : ∀ x ∈ bRow lead first ahead prow row step j, x.natAbs < 2 ^ (2 * b + 1) := by
  intro x hx
  rw [bRow, List.mem_mapIdx] at hx
  refine hideG fun Gd hGd => ?_
  obtain ⟨c, hc, rfl⟩ := hx
  refine hGd ?_
  clear hGd Gd
  have hrow := h4 _ (List.getElem_mem hc)
  split
  · refine Nat.lt_of_le_of_lt (natAbs_fdiv_le _ _) ?_
    have hp : (prow.getD c 0).natAbs < 2 ^ b := by
      rw [List.getD_eq_getElem?_getD]
      cases h : prow[c]? with
      | none => simpa using Nat.two_pow_pos b
      | some y => exact h3 y (List.mem_of_getElem? h)
    have e1 : (row[c] * lead).natAbs < 2 ^ (b + b) := by rw [Int.natAbs_mul]; exact mul_lt hrow h1
    have e2 : (first * prow.getD c 0).natAbs < 2 ^ (b + b) := by rw [Int.natAbs_mul]; exact mul_lt h2 hp
    rw [show 2 * b + 1 = (b + b) + 1 by lia, Nat.pow_succ]
    lia
  · exact Nat.lt_of_lt_of_le hrow (Nat.pow_le_pow_right (by decide) (by lia))
theorem bstep_sz {M : List (List Int)} {step b : Nat} {ahead : Int} (hs : ∀ r ∈ M, ∀ x ∈ r, x.natAbs < 2 ^ b) : ∀ r ∈ bstep M step ahead, ∀ x ∈ r, x.natAbs < 2 ^ (2 * b + 1) := by
  intro r hr x hx
  rw [bstep, bRows, List.mem_mapIdx] at hr
  refine hideG fun Gd hGd => ?_
  obtain ⟨i, hi, rfl⟩ := hr
  refine hGd ?_
  clear hGd Gd
  have hrow := hs _ (List.getElem_mem hi)
  have hbig : 2 ^ b ≤ 2 ^ (2 * b + 1) := Nat.pow_le_pow_right (by decide) (by lia)
  split at hx
  · rcases List.mem_or_eq_of_mem_set hx with h | h
    · refine bRow_mem (entI_sz hs _ _) ?_ ?_ hrow x h
      · rw [List.getD_eq_getElem?_getD]
        cases h : M[i][step]? with
        | none => simpa using Nat.two_pow_pos b
        | some y => exact hrow y (List.mem_of_getElem? h)
      · intro y hy
        rw [List.getD_eq_getElem?_getD] at hy
        cases h2 : M[step]? with
        | none => rw [h2] at hy; cases hy
        | some row => rw [h2] at hy; exact hs row (List.mem_of_getElem? h2) y hy
    · rw [h]; simpa using Nat.two_pow_pos _
  · exact Nat.lt_of_lt_of_le (hrow x hx) hbig
theorem bstep_cols {M : List (List Int)} {step n : Nat} {ahead : Int} (h : ∀ r ∈ M, r.length = n) : ∀ r ∈ bstep M step ahead, r.length = n := by
  intro r hr
  rw [bstep, bRows, List.mem_mapIdx] at hr
  refine hideG fun Gd hGd => ?_
  obtain ⟨i, hi, rfl⟩ := hr
  refine hGd ?_
  clear hGd Gd
  split
  · rw [List.length_set, bRow_length]; exact h _ (List.getElem_mem hi)
  · exact h _ (List.getElem_mem hi)
theorem piv_spec {F : List (List Int)} {k p : Nat} (h : pivP F k = some p) : k ≤ p ∧ p < F.length ∧ entI F p k ≠ 0 := by
  have h1 := List.find?_some h
  have h2 := List.mem_of_find?_eq_some h
  rw [List.mem_range'_1] at h2
  exact ⟨h2.1, by lia, by simpa using h1⟩
/-- the table behind the swap -/
def swp (F : List (List Int)) (p k : Nat) : List (List Int) := if p = k then F else swapL F [] p k
theorem swp_mem {F : List (List Int)} {p k : Nat} (hp : p < F.length) (hk : k < F.length) : ∀ r ∈ swp F p k, r ∈ F := by
  intro r hr
  unfold swp at hr
  split at hr
  · exact hr
  · exact swapL_mem hp hk hr
theorem swp_length {F : List (List Int)} {p k : Nat} : (swp F p k).length = F.length := by
  unfold swp
  split
  · rfl
  · exact swapL_length
theorem swp_get {F : List (List Int)} {p k : Nat} (hk : k < F.length) : (swp F p k).getD k [] = F.getD p [] := by
  unfold swp
  split
  · rename_i h; rw [h]
  · unfold swapL
    rw [List.getD_eq_getElem?_getD, List.getElem?_set, if_pos rfl, if_pos (by rw [List.length_set]; exact hk), Option.getD_some]
theorem detStep_some {F : List (List Int)} {sg ah : Int} {k p : Nat} (h : pivP F k = some p) : detStep (some (F, sg, ah)) k = some (bstep (swp F p k) k ah, if p = k then sg else -sg, entI (bstep (swp F p k) k ah) k k) := by
  simp only [detStep, h, swp]
theorem detStep_none {F : List (List Int)} {sg ah : Int} {k : Nat} (h : pivP F k = none) : detStep (some (F, sg, ah)) k = none := by
  simp only [detStep, h]
theorem fold_none : ∀ l : List Nat, l.foldl detStep none = none
  | [] => rfl
  | _ :: l => fold_none l
theorem dstep_inv {n k p : Nat} {F : List (List Int)} {sg ah : Int} (I : DInv n k (F, sg, ah)) (hk : k < n) (h : pivP F k = some p) : DInv n (k + 1) (bstep (swp F p k) k ah, if p = k then sg else -sg, entI (bstep (swp F p k) k ah) k k) := by
  refine hideG fun Gd hGd => ?_
  obtain ⟨h1, h2, h3⟩ := piv_spec h
  refine hGd ?_
  clear hGd Gd
  have hrl : F.length = n := I.rows
  have hs : ∀ r ∈ swp F p k, ∀ x ∈ r, x.natAbs < 2 ^ ib k := fun r hr => I.sz r (swp_mem h2 (by lia) r hr)
  have hz := bstep_sz (step := k) (ahead := ah) hs
  have he : entI (bstep (swp F p k) k ah) k k = entI F p k := by
    rw [entI, bstep, bRows_get (by lia), swp_get (by lia)]; rfl
  refine ⟨by rw [bstep, bRows_length, swp_length, hrl], bstep_cols fun r hr => I.cols r (swp_mem h2 (by lia) r hr), hz, ?_, ?_⟩
  · dsimp only
    rw [he]; exact h3
  · exact entI_sz hz _ _
theorem d_inv0 {n : Nat} {M : List (List Int)} (hl : M.length = n) (hr : ∀ r ∈ M, r.length = n) (hs : ∀ r ∈ M, ∀ x ∈ r, x.natAbs < 2 ^ 22) : DInv n 0 (M, 1, 1) := ⟨hl, hr, hs, (by decide : (1 : Int) ≠ 0), (by decide : (1 : Int).natAbs < 2 ^ 22)⟩

/-! the ledger's side -/
theorem nodup_inj {bs : List Addr} (h : bs.Nodup) {i j : Nat} {b : Addr} (h1 : bs[i]? = some b) (h2 : bs[j]? = some b) : i = j := by
  have hp := List.pairwise_iff_getElem.mp h
  have hi := List.getElem?_eq_some_iff.mp h1
  have hj := List.getElem?_eq_some_iff.mp h2
  rcases Nat.lt_trichotomy i j with h8 | h8 | h8
  · exact absurd (hi.2.trans hj.2.symm) (hp i j hi.1 hj.1 h8)
  · exact h8
  · exact absurd (hj.2.trans hi.2.symm) (hp j i hj.1 hi.1 h8)
theorem swapL_get {α : Type} {l : List α} {d : α} {i j q : Nat} (hi : i < l.length) (hj : j < l.length) : (swapL l d i j)[q]? = l[if q = j then i else if q = i then j else q]? := by
  unfold swapL
  rw [List.getElem?_set, List.length_set, List.getElem?_set]
  by_cases h1 : j = q
  · subst h1
    rw [if_pos rfl, if_pos hj, if_pos rfl, List.getD_eq_getElem?_getD, List.getElem?_eq_getElem hi]; rfl
  · rw [if_neg h1, if_neg (Ne.symm h1)]
    by_cases h2 : i = q
    · subst h2
      rw [if_pos rfl, if_pos hi, if_pos rfl, List.getD_eq_getElem?_getD, List.getElem?_eq_getElem hj]; rfl
    · rw [if_neg h2, if_neg (Ne.symm h2)]
theorem swapL_nodup {bs : List Addr} {d : Addr} {i j : Nat} (h : bs.Nodup) (hi : i < bs.length) (hj : j < bs.length) : (swapL bs d i j).Nodup := by
  refine List.pairwise_iff_getElem.mpr fun a b ha hb hab e => ?_
  have e1 := List.getElem?_eq_getElem ha
  have e2 := List.getElem?_eq_getElem hb
  rw [swapL_get hi hj] at e1 e2
  rw [← e] at e2
  have := nodup_inj h e1 e2
  split at this <;> split at this <;> (try split at this) <;> (try split at this) <;> lia
theorem MMat.swap {nx : Led} {D : Addr} {bs : List Addr} {M : List (List Int)} (h : MMat nx D bs M) {i j k : Nat} (hi : i < M.length) (hj : j < M.length) (hm : ∃ o, (D, o) ∈ nx) :
    MMat (upd D (listOf ((swapL bs 0 i j).map Value.ref).toArray k) nx) D (swapL bs 0 i j) (swapL M [] i j) := by
  have hl := h.lens
  refine ⟨swapL_nodup h.nodup (by lia) (by lia), fun hD => h.off (swapL_mem (by lia) (by lia) hD), ⟨k, let ⟨o, ho⟩ := hm; mem_upd_self ho⟩, all2_of_get (by rw [swapL_length, swapL_length, hl]) fun q a r ha hr => ?_⟩
  rw [swapL_get (by lia) (by lia)] at ha
  rw [swapL_get hi hj] at hr
  refine hideG fun Gd hGd => ?_
  obtain ⟨r', h1, us, k', h2, h3⟩ := h.rows.get ha
  refine hGd ?_
  clear hGd Gd
  rw [hr] at h1
  cases h1
  exact ⟨us, k', mem_upd_ne h2 fun e => h.off ((show a = D from e) ▸ List.mem_of_getElem? ha), h3⟩
theorem MMat.imat {nx : Led} {D : Addr} {bs : List Addr} {M : List (List Int)} (h : MMat nx D bs M) : IMat nx (.ref D) M := by
  refine hideG fun Gd hGd => ?_
  obtain ⟨k, hk⟩ := h.outer
  refine hGd ?_
  clear hGd Gd
  refine ⟨D, bs.map .ref, k, rfl, hk, all2_of_get (by rw [List.length_map, h.lens]) fun i v r hv hr => ?_⟩
  rw [List.getElem?_map] at hv
  cases hb : bs[i]? with
  | none => rw [hb] at hv; cases hv
  | some b =>
    rw [hb] at hv
    cases hv
    refine hideG fun Gd hGd => ?_
    obtain ⟨r', h1, us, k', h2, h3⟩ := h.rows.get hb
    refine hGd ?_
    clear hGd Gd
    rw [hr] at h1
    cases h1
    exact ⟨b, us, k', rfl, h2, h3⟩
theorem upd_upd {l : Addr} {o o' : Obj} {nx : Led} : upd l o (upd l o' nx) = upd l o nx := by
  simp only [upd, List.map_map]
  congr 1
  funext p
  by_cases h : p.1 = l <;> simp [h]
def offL (its nx : Led) : Led := nx.filter fun p => decide (∀ q ∈ its, p.1 ≠ q.1)
theorem offL_sub {its nx : Led} : ∀ p ∈ offL its nx, p ∈ nx := fun _ hp => (List.mem_filter.mp hp).1
theorem offL_off {its nx : Led} : Off its (offL its nx) := fun _ hp => of_decide_eq_true (List.mem_filter.mp hp).2
theorem mem_offL {its nx : Led} {p : Addr × Obj} (h : p ∈ nx) (ho : ∀ q ∈ its, p.1 ≠ q.1) : p ∈ offL its nx := List.mem_filter.mpr ⟨h, decide_eq_true ho⟩
theorem MMat.offL {its nx : Led} {D : Addr} {bs : List Addr} {M : List (List Int)} (h : MMat nx D bs M) (hD : ∀ q ∈ its, D ≠ q.1) (hb : ∀ b ∈ bs, ∀ q ∈ its, b ≠ q.1) : MMat (Mine.offL its nx) D bs M :=
  ⟨h.nodup, h.off, let ⟨k, hk⟩ := h.outer; ⟨k, mem_offL hk hD⟩, h.rows.imp_mem fun b _ hm ⟨us, k, h1, h2⟩ => ⟨us, k, mem_offL h1 (hb b hm), h2⟩⟩
end
-- part: W9
section
/-- between the turns of determinant's loop -/
inductive DJ (K : Led) (D3 : Addr) (M : List (List Int)) (n i : Nat) (m : Str → Option Value) (nx : Led) : Prop
  | mk (F : List (List Int)) (sg ah : Int) (bs' : List Addr) (tg ta : Tok) (h1 : (List.range i).foldl detStep (some (M, 1, 1)) = some (F, sg, ah)) (h2 : DInv n i (F, sg, ah)) (h3 : MMat nx D3 bs' F)
    (h4 : ∀ p ∈ K, p ∈ nx ∧ p.1 ∉ bs') (h5 : i ≤ n) (h6 : sg = 1 ∨ sg = -1) (h7 : m "found" = some (.ref D3)) (h8 : m "sign" = some (.int sg tg)) (h9 : m "ahead" = some (.int ah ta)) : DJ K D3 M n i m nx
theorem det_con {w mean mg mb} (news : Led) (va : Value) (M : List (List Int)) (hM : IMat news va M) (hl : M.length ≤ 4) (hl0 : 0 < M.length) (hr : ∀ r ∈ M, r.length = M.length) (hs : ∀ r ∈ M, ∀ x ∈ r, x.natAbs < 2 ^ 22) :
    Con w mean mg mb 136 20 220 news [va] (fun r n' => (∀ p ∈ news, p ∈ n') ∧ ∃ t, r = .int (detP M) t) := by
  refine hideG fun Gd hGd => ?_
  obtain ⟨a, vs, k, rfl, hm, hA0⟩ := hM
  refine hGd ?_
  clear hGd Gd
  have hvl := hA0.length
  unfold Con
  intro dp un gd cn cs a' ccd cl outer A₀ base h₀ L m s Q E B F X N T hk hd hu hret
  refine wpAny_call ?_
  k_dflt ((refine' code_defC ?k1 ?k2 ?k3 ?k4 ?k5 ?kA ?kF ?kK ?k6 ?k7 ?k8 ?k9 ?kB ?kD ?_ ?c2 ?c3 ?c4; (case kA => exact rfl); (case kF => exact rfl); (case kK => assumption); (case k1 => k_asm); (case k2 => k_asm); (case k3 => k_asm); (case k4 => k_asm); (case k5 => k_asm); (case k6 => k_is); (case k7 => k_is); (case k8 => ktr_room); (case k9 => exact BindsTo.of_eq rfl); (case kB => exact rfl); (case kD => decide +kernel); (case c2 => exact rfl); (case c3 => exact rfl); (case c4 => exact rfl); k_whole; intro g' L' h' tk' cells' FG' F' N' Y' B' X' T' l1; (try k_lt l1); k_cells Y'; (try simp only [List.cons_append, List.nil_append] at N'); (try dsimp only); (try k_fold)))
  refine letAE ?_
  intro tk1 Q1 hQ1 e1 A1
  rename_i o1 d1
  replace d1 : o1.data = Data.cell (some (.ref a)) := d1
  rename Fr _ _ _ _ => F0
  replace F0 : Fr _ _ _ (fun _ => none) := F0
  have hm1 : (a, listOf vs.toArray k) ∈ (L' + 1, o1) :: news := .tail _ hm
  have c1 : (L' + 1, o1) ∈ (L' + 1, o1) :: news := .head _
  k_steps
  rename Fr _ _ _ _ => FS
  rename News _ _ _ _ => NS
  refine Stop.mk (srcC_list (by rfl) FS NS (hm1) ?_)
  clear FS NS
  intro I hI S FI NI
  refine comp_local S (by rw [sizeLine_eq]; omega) FI NI (by decide) (by rfl) (by rfl) (fun i ys nx => nx = (L' + 1, o1) :: news ∧ ys = []) ⟨rfl, rfl⟩ (fun i ys nx hj p hp => by rw [List.mem_singleton.mp hp, hj.1]; exact hm1) ?_ (ret_E ?_)
  · intro C D i v ys nx h2 tk2 its oC m2 E2 hi hv hn hx hp1_ ho F2 N2 Qc Qf hQ hQf
    refine hideG fun Gd hGd => ?_
    obtain ⟨rfl, rfl⟩ := hp1_
    obtain ⟨row, hrow, b, us, j, rfl, hb, hB⟩ := hA0.get hv
    refine hGd ?_
    clear hGd Gd
    have hlen : us.length = vs.length := by rw [hB.length, hvl]; exact hr row (List.mem_of_getElem? hrow)
    have c2 : (b, listOf us.toArray j) ∈ (L' + 1, o1) :: news := .tail _ hb
    refine tests1 ?_
    k_steps
    · exfalso; omega
    · refine hQf _ ?_
      exact cend0 (by assumption) (by assumption) ho ⟨rfl, by trivial⟩
  · intro D ys nx h2 tk2 hf hp1_ F2 N2 ho
    refine hideG fun Gd hGd => ?_
    obtain ⟨rfl, rfl⟩ := hp1_
    refine hGd ?_
    clear hGd Gd
    clear NI FI S
    k_steps
    refine Stop.mk (ne_nil (M := []) (by assumption) ⟨D, [], 0, rfl, .tail _ (.head _), trivial⟩ ⟨_, [], 0, rfl, .head _, trivial⟩ (by (try show (Around.deeper _ _).units + _ < _); ktr_units) ?_)
    rw [decide_eq_true rfl]
    rename News _ _ _ _ => N3
    rename_i l1
    generalize hB : (_, listOf #[] 0) :: (D, LCg.lst []) :: (L' + 1, o1) :: news = B at N3
    have b1 : (L' + 1, o1) ∈ B := by rw [← hB]; walk_at "mem"
    have b2 : ∀ p ∈ news, p ∈ B := fun p hp => by rw [← hB]; walk_at "mem"
    clear hB
    k_steps
    rename Fr _ _ _ _ => FS
    rename News _ _ _ _ => NS
    refine Stop.mk (srcC_list (by rfl) FS NS ((b2 _ hm)) ?_)
    clear FS NS
    intro I hI S FI NI
    refine comp_local S (by rw [sizeLine_eq]; omega) FI NI (by decide) (by rfl) (by rfl) (fun i ys nx => ∃ bs : List Addr, ys = bs.map Value.ref ∧ bs.Nodup ∧ (∀ b ∈ bs, ∃ p ∈ nx, p.1 = b) ∧ Gr B (fun add => All2 (fun b r => Fresh b B ∧ ∃ us k, (b, listOf us.toArray k) ∈ add ∧ All2 IntIn us r) bs (M.take i)) nx) ⟨[], rfl, .nil, (fun _ h => nomatch h), .refl trivial⟩ (fun i ys nx hj p hp => by obtain ⟨_, _, _, _, hg⟩ := hj; rw [List.mem_singleton.mp hp]; exact hg.sub _ (b2 _ hm)) ?_ (ret_E ?_)
    · intro C D3 i v ys nx h3 tk3 its oC m2 E2 hi hv hn hx hp1_ ho F3 N3 Qc Qf hQ hQf
      refine hideG fun Gd hGd => ?_
      obtain ⟨bs, rfl, hnd, hin, hJ⟩ := hp1_
      obtain ⟨row, hrow, b, us, j, rfl, hb, hBx⟩ := hA0.get hv
      refine hGd ?_
      clear hGd Gd
      have hb' : (b, listOf us.toArray j) ∈ nx := hJ.sub _ (b2 _ hb)
      have hlen : us.length ≤ sizeLine := by
        rw [hBx.length, sizeLine_eq]
        have := hr row (List.mem_of_getElem? hrow)
        omega
      refine tests0 ?_
      k_steps
      rename Fr _ _ _ _ => F4
      rename News _ _ _ _ => N4
      rename Fresh _ _ => l9
      refine hQ _ _ ?_
      refine cend1 F4 N4 l9 ho ⟨bs ++ [_], by rw [List.map_append]; rfl, ?_, ?_, ?_⟩
      · refine List.nodup_append.mpr ⟨hnd, by simp, fun x hx y hy e => ?_⟩
        refine hideG fun Gd hGd => ?_
        obtain ⟨p, hp, hpe⟩ := hin x hx
        refine hGd ?_
        clear hGd Gd
        rw [List.mem_singleton.mp hy] at e
        exact Nat.lt_irrefl _ (show @LT.lt Nat _ p.1 p.1 from by
          have q := l9 p (List.mem_append_left _ hp)
          rw [← e, ← hpe] at q
          exact q)
      · intro x hx
        rcases List.mem_append.mp hx with hx | hx
        · refine hideG fun Gd hGd => ?_
          obtain ⟨p, hp, hpe⟩ := hin x hx
          refine hGd ?_
          clear hGd Gd
          exact ⟨p, .tail _ hp, hpe⟩
        · rw [List.mem_singleton.mp hx]; exact ⟨_, .head _, rfl⟩
      · refine hJ.cons (l9.sub fun p hp => List.mem_append_left _ hp) fun add h => all2_step h (fun _ _ ⟨f, us, k, h1, h2⟩ => ⟨f, us, k, .tail _ h1, h2⟩) hrow ⟨l9.sub fun p hp => List.mem_append_left _ (hJ.sub _ hp), us, _, .head _, hBx⟩
    · intro D3 ys nx h3 tk3 hf3 hp1_ F3 N3 ho3
      refine hideG fun Gd hGd => ?_
      obtain ⟨bs, rfl, hnd, hin, hJ⟩ := hp1_
      rw [hvl, List.take_length] at hJ
      have hsubB := hJ.sub
      obtain ⟨add, rfl, hfa, hA3⟩ := hJ
      refine hGd ?_
      clear hGd Gd
      have hMM : MMat ((D3, LCg.lst (bs.map Value.ref)) :: (add ++ B)) D3 bs M := ⟨hnd, fun h => by
          refine hideG fun Gd hGd => ?_
          obtain ⟨p, hp, e⟩ := hin _ h
          refine hGd ?_
          clear hGd Gd
          exact ho3 p hp _ (.head _) e, ⟨_, .head _⟩, hA3.mono fun _ _ ⟨_, us, k, h1, h2⟩ => ⟨us, k, .tail _ (List.mem_append_left _ h1), h2⟩⟩
      have hbsn : ∀ p ∈ B, p.1 ∉ bs := fun p hp h => by
        refine hideG fun Gd hGd => ?_
        obtain ⟨i, hi, e⟩ := List.getElem_of_mem h
        obtain ⟨r, _, hfr, _⟩ := hA3.get (List.getElem?_eq_getElem hi)
        refine hGd ?_
        clear hGd Gd
        rw [e] at hfr
        exact Nat.lt_irrefl _ (hfr p hp)
      clear NI FI S
      have hm3 : (a, listOf vs.toArray k) ∈ (D3, LCg.lst (bs.map Value.ref)) :: (add ++ B) := .tail _ (hsubB _ (b2 _ hm))
      have c3 : (L' + 1, o1) ∈ (D3, LCg.lst (bs.map Value.ref)) :: (add ++ B) := .tail _ (hsubB _ b1)
      k_steps
      rename Fr _ _ _ _ => FS
      rename News _ _ _ _ => NS
      rename IsRange _ _ _ _ _ _ _ _ => RS
      refine Stop.mk (srcF_range (n := vs.length) (by rfl) FS NS RS (by omega) (by omega) (by omega) (by omega) (by omega) ?_)
      clear FS NS RS
      intro I hI S FI NI
      have hKD : ∀ p ∈ (L' + 1, o1) :: news, p.1 ≠ D3 := fun p hp => by
        have hB : p ∈ B := by
          rcases List.mem_cons.mp hp with rfl | hp
          · exact b1
          · exact b2 _ hp
        exact (Fresh.ne hf3 p hB)
      have hKB : ∀ p ∈ (L' + 1, o1) :: news, p ∈ B := fun p hp => by
        rcases List.mem_cons.mp hp with rfl | hp
        · exact b1
        · exact b2 _ hp
      refine for_src S FI NI (fun i m nx => DJ ((L' + 1, o1) :: news) D3 M vs.length i m nx) ⟨M, 1, 1, bs, _, _, rfl, d_inv0 hvl.symm (fun r h => by rw [hvl]; exact hr r h) hs, hMM.mono fun p hp => .tail _ hp, fun p hp => ⟨.tail _ (.tail _ (hsubB _ (hKB p hp))), hbsn _ (hKB p hp)⟩, Nat.zero_le _, .inl rfl, by rfl, by rfl, by rfl⟩ (fun i m nx _ p hp => nomatch hp) ?_ ?_
      · intro i v m1 nx h6 tk6 its hi hp1_ hp2_ ho6 F6 N6 Qt hQ
        refine hideG fun Gd hGd => ?_
        obtain ⟨t6, hv⟩ := hp1_
        obtain ⟨F, sg, ah, bs', tg, ta, hfold, I, hMM1, hK, hile, hsg, hmf, hms, hmh⟩ := hp2_
        refine hGd ?_
        clear hGd Gd
        rw [Int.zero_add] at hv
        subst hv
        replace F6 := fr_ov F6 (Kn.all (ps := [("found", .ref D3), ("sign", .int sg tg), ("ahead", .int ah ta)]) ⟨hmf, hms, hmh, trivial⟩)
        have hFl : F.length = vs.length := I.rows
        have hMM2 : MMat (nx ++ its) D3 bs' F := hMM1.mono fun p hp => List.mem_append_left _ hp
        have hbl := hMM1.lens
        have hoffD : ∀ q ∈ its, D3 ≠ q.1 := fun q hq => by
          refine hideG fun Gd hGd => ?_
          obtain ⟨k, hk⟩ := hMM1.outer
          refine hGd ?_
          clear hGd Gd
          exact ho6 _ hk q hq
        have hoffB : ∀ b ∈ bs', ∀ q ∈ its, b ≠ q.1 := fun b hb q hq => by
          refine hideG fun Gd hGd => ?_
          obtain ⟨i, hi, e⟩ := List.getElem_of_mem hb
          obtain ⟨r, _, us, k, hm, _⟩ := hMM1.rows.get (List.getElem?_eq_getElem hi)
          refine hGd ?_
          clear hGd Gd
          rw [e] at hm
          exact ho6 _ hm q hq
        k_steps
        refine' Con.use (piv_con _ _ F i _ hMM2.imat (by lia) (by lia) (fun r h => by rw [hFl]; exact I.cols r h)) ?k1 ?k2 ?k3 ?k4 ?k5 ?kK ?kd ?ku ?_
        (case k1 => k_asm)
        (case k2 => k_asm)
        (case k3 => k_asm)
        (case k4 => k_asm)
        (case k5 => k_asm)
        (case kK => first | exact rfl | assumption)
        (case kd => ktr_room)
        (case ku => ktr_units)
        intro r7 n7 h7 tk7 F7 N7 hp1_
        refine hideG fun Gd hGd => ?_
        obtain ⟨rfl, hp⟩ := hp1_
        refine hGd ?_
        clear hGd Gd
        cases hpv : pivP F i with
        | none =>
          rw [hpv] at hp
          dsimp only at hp
          subst hp
          k_steps
          refine hQ _ _ ?_
          unfold LPost
          (try dsimp only)
          k_steps
          refine hQ1 _ _ ?_
          (try dsimp only)
          k_steps
          refine hret _ _ _ _ (by assumption) (by assumption) ⟨fun p hp => List.mem_append_left _ (hK p (.tail _ hp)).1, ?_⟩
          have hdet : detP M = 0 := by
            have e : List.range M.length = List.range i ++ (i :: List.range' (i + 1) (M.length - i - 1)) := by
              rw [List.range_eq_range', List.range_eq_range', show M.length = i + (M.length - i - 1 + 1) by lia, ← List.range'_append_1, Nat.zero_add, List.range'_succ]
              simp
            rw [detP, e, List.foldl_append, hfold, List.foldl_cons, detStep_none hpv, fold_none]
          rw [hdet]
          exact ⟨_, rfl⟩
        | some p =>
          rw [hpv] at hp
          refine hideG fun Gd hGd => ?_
          obtain ⟨tp, rfl⟩ := hp
          obtain ⟨hp1, hp2, hp3⟩ := piv_spec hpv
          have hstep : (List.range (i + 1)).foldl detStep (some (M, 1, 1)) = some (bstep (swp F p i) i ah, if p = i then sg else -sg, entI (bstep (swp F p i) i ah) i i) := by
            rw [List.range_succ, List.foldl_append, hfold]
            exact detStep_some hpv
          have I2 := dstep_inv I hi hpv
          obtain ⟨kD, hout⟩ := hMM2.outer
          refine hGd ?_
          clear hGd Gd
          have hKits : ∀ p ∈ (L' + 1, o1) :: news, ∀ q ∈ its, p.1 ≠ q.1 := fun p hp q hq => ho6 p (hK p hp).1 q hq
          k_steps
          · rename_i hpi
            refine hideG fun Gd hGd => ?_
            obtain ⟨b1', us1, kk1, w1, w2, _, _⟩ := hMM2.row (r := i) (by lia)
            obtain ⟨b2', us2, kk2, w3, w4, _, _⟩ := hMM2.row (r := p) (by lia)
            refine hGd ?_
            clear hGd Gd
            refine Stop.mk (li_itemN (by assumption) hout (by lia) w2 ?_)
            k_steps
            refine Stop.mk (li_itemN (by assumption) hout (by lia) w4 ?_)
            k_steps
            rename Fr _ _ _ _ => FS
            rename News _ _ _ _ => NS
            refine hideG fun Gd hGd => ?_
            obtain ⟨pt, NS⟩ := headE NS
            refine hGd ?_
            clear hGd Gd
            refine Stop.mk (li_setU FS NS (.tail _ hout) (by lia) (by lia) (by rw [List.length_map]; omega) fun h9 F9 N9 => ?_)
            clear FS NS
            rw [Int.toNat_natCast] at N9
            k_steps
            rename Fr _ _ _ _ => FS
            rename News _ _ _ _ => NS
            refine Stop.mk (li_setU FS NS (mem_upd_self (.tail _ hout)) (by lia) (by lia) (by rw [List.length_set, List.length_map]; omega) fun h10 F10 N10 => ?_)
            clear FS NS
            rw [Int.toNat_natCast, upd_upd] at N10
            have hlist : ((bs'.map Value.ref).set p (.ref b1')).set i (.ref b2') = (swapL bs' 0 p i).map Value.ref := by
              rw [swapL, List.map_set, List.map_set, List.getD_eq_getElem?_getD, w1, List.getD_eq_getElem?_getD, w3]; rfl
            rw [hlist] at N10
            have hpi' : ¬ p = i := by lia
            have hMM3 := (hMM2.mono fun p hp => List.mem_cons_of_mem pt hp).swap (k := kD) (i := p) (j := i) (by lia) (by lia) ⟨_, List.mem_cons_of_mem pt hout⟩
            rw [show swapL F [] p i = swp F p i by rw [swp, if_neg hpi']] at hMM3
            have hbs3 : ∀ b ∈ swapL bs' 0 p i, b ∈ bs' := fun b hb => swapL_mem (by lia) (by lia) hb
            generalize hbb : swapL bs' 0 p i = bs3 at hMM3 N10 hbs3
            have hits3 : ∀ q ∈ its, q ∈ upd D3 (listOf (bs3.map Value.ref).toArray kD) (pt :: (nx ++ its)) := fun q hq => mem_upd_ne (.tail _ (List.mem_append_right _ hq)) (hoffD q hq).symm
            have hK3 : ∀ p ∈ (L' + 1, o1) :: news, p ∈ upd D3 (listOf (bs3.map Value.ref).toArray kD) (pt :: (nx ++ its)) ∧ p.1 ∉ bs3 := fun p hp => ⟨mem_upd_ne (.tail _ (List.mem_append_left _ (hK p hp).1)) (hKD p hp), fun h => (hK p hp).2 (hbs3 _ h)⟩
            have hoffB3 : ∀ b ∈ bs3, ∀ q ∈ its, b ≠ q.1 := fun b hb => hoffB b (hbs3 b hb)
            rw [if_neg hpi'] at hstep I2
            generalize upd D3 (listOf (bs3.map Value.ref).toArray kD) (pt :: (nx ++ its)) = nx1 at hMM3 N10 hits3 hK3
            k_steps

            have hFl3 : (swp F p i).length = vs.length := by rw [swp_length, hFl]
            refine' Con.use (bst_con _ D3 bs3 (swp F p i) i ah _ _ (ib i) hMM3 (by lia) (by lia) (fun r h => by rw [hFl3]; exact I.cols r (swp_mem hp2 (by lia) r h)) (fun r h => I.sz r (swp_mem hp2 (by lia) r h)) (Nat.le_trans (ib_mono (b := 4) (by lia)) (by decide)) I.ah (log_of_lt (Nat.lt_of_lt_of_le I.ahsz (Nat.pow_le_pow_right (by decide) (Nat.le_trans (ib_mono (b := 4) (by lia)) (by decide)))) (by decide))) ?k1 ?k2 ?k3 ?k4 ?k5 ?kK ?kd ?ku ?_
            (case k1 => k_asm)
            (case k2 => k_asm)
            (case k3 => k_asm)
            (case k4 => k_asm)
            (case k5 => k_asm)
            (case kK => first | exact rfl | assumption)
            (case kd => ktr_room)
            (case ku => ktr_units)
            intro r8 n8 h8 tk8 F8 N8 hp1_
            refine hideG fun Gd hGd => ?_
            obtain ⟨rfl, hMM8, hsame8, hkeep8⟩ := hp1_
            have hb8l : (bstep (swp F p i) i ah).length = vs.length := I2.rows
            have hb8c : ((bstep (swp F p i) i ah).getD i []).length = vs.length := I2.cols _ (getD_mem (by show i < (bstep _ _ _).length; rw [hb8l]; exact hi))
            obtain ⟨k8, hout8⟩ := hMM8.outer
            obtain ⟨b8, us8, k9, t8, q1, q2, q3, q4, q5⟩ := hMM8.cell (r := i) (c := i) (by rw [hb8l]; exact hi) (by rw [hb8c]; exact hi)
            refine hGd ?_
            clear hGd Gd
            k_steps
            refine Stop.mk (li_itemN (by assumption) hout8 (by lia) q2 ?_)
            k_steps
            refine Stop.mk (li_itemN (by assumption) q3 (by lia) q4 ?_)
            k_steps
            rename Fr _ _ _ _ => F9
            rename News _ _ _ _ => N9
            have hits8 : ∀ q ∈ its, q ∈ n8 := fun q hq => hkeep8 q (hits3 q hq) fun h => hoffB3 _ h q hq rfl
            refine hQ _ _ ?_
            refine lend (nx := offL its n8) F9 N9 hits8 offL_sub offL_off ⟨_, _, _, bs3, _, _, hstep, I2, hMM8.offL hoffD hoffB3, fun p hp => ⟨mem_offL (hkeep8 p (hK3 p hp).1 (hK3 p hp).2) (hKits p hp), (hK3 p hp).2⟩, by lia, ?_, by rfl, by rfl, by rfl⟩
            rcases hsg with h | h
            · exact .inr (by rw [h])
            · exact .inl (by rw [h]; rfl)
          · rename_i hpi
            have hpe : p = i := by lia
            rw [if_pos hpe] at hstep I2
            have hMM3 : MMat (nx ++ its) D3 bs' (swp F p i) := by rw [swp, if_pos hpe]; exact hMM2
            have hits3 : ∀ q ∈ its, q ∈ nx ++ its := fun q hq => List.mem_append_right _ hq
            have hK3 : ∀ p ∈ (L' + 1, o1) :: news, p ∈ nx ++ its ∧ p.1 ∉ bs' := fun p hp => ⟨List.mem_append_left _ (hK p hp).1, (hK p hp).2⟩
            have hoffB3 := hoffB

            have hFl3 : (swp F p i).length = vs.length := by rw [swp_length, hFl]
            refine' Con.use (bst_con _ D3 bs' (swp F p i) i ah _ _ (ib i) hMM3 (by lia) (by lia) (fun r h => by rw [hFl3]; exact I.cols r (swp_mem hp2 (by lia) r h)) (fun r h => I.sz r (swp_mem hp2 (by lia) r h)) (Nat.le_trans (ib_mono (b := 4) (by lia)) (by decide)) I.ah (log_of_lt (Nat.lt_of_lt_of_le I.ahsz (Nat.pow_le_pow_right (by decide) (Nat.le_trans (ib_mono (b := 4) (by lia)) (by decide)))) (by decide))) ?k1 ?k2 ?k3 ?k4 ?k5 ?kK ?kd ?ku ?_
            (case k1 => k_asm)
            (case k2 => k_asm)
            (case k3 => k_asm)
            (case k4 => k_asm)
            (case k5 => k_asm)
            (case kK => first | exact rfl | assumption)
            (case kd => ktr_room)
            (case ku => ktr_units)
            intro r8 n8 h8 tk8 F8 N8 hp1_
            refine hideG fun Gd hGd => ?_
            obtain ⟨rfl, hMM8, hsame8, hkeep8⟩ := hp1_
            have hb8l : (bstep (swp F p i) i ah).length = vs.length := I2.rows
            have hb8c : ((bstep (swp F p i) i ah).getD i []).length = vs.length := I2.cols _ (getD_mem (by show i < (bstep _ _ _).length; rw [hb8l]; exact hi))
            obtain ⟨k8, hout8⟩ := hMM8.outer
            obtain ⟨b8, us8, k9, t8, q1, q2, q3, q4, q5⟩ := hMM8.cell (r := i) (c := i) (by rw [hb8l]; exact hi) (by rw [hb8c]; exact hi)
            refine hGd ?_
            clear hGd Gd
            k_steps
            refine Stop.mk (li_itemN (by assumption) hout8 (by lia) q2 ?_)
            k_steps
            refine Stop.mk (li_itemN (by assumption) q3 (by lia) q4 ?_)
            k_steps
            rename Fr _ _ _ _ => F9
            rename News _ _ _ _ => N9
            have hits8 : ∀ q ∈ its, q ∈ n8 := fun q hq => hkeep8 q (hits3 q hq) fun h => hoffB3 _ h q hq rfl
            refine hQ _ _ ?_
            refine lend (nx := offL its n8) F9 N9 hits8 offL_sub offL_off ⟨_, _, _, bs', _, _, hstep, I2, hMM8.offL hoffD hoffB3, fun p hp => ⟨mem_offL (hkeep8 p (hK3 p hp).1 (hK3 p hp).2) (hKits p hp), (hK3 p hp).2⟩, by lia, ?_, by rfl, by rfl, by rfl⟩
            exact hsg
      · intro m1 nx h6 tk6 hp1_ F6 N6
        refine hideG fun Gd hGd => ?_
        obtain ⟨F, sg, ah, bs', tg, ta, hfold, I, hMM1, hK, hile, hsg, hmf, hms, hmh⟩ := hp1_
        refine hGd ?_
        clear hGd Gd
        replace F6 := fr_ov F6 (Kn.all (ps := [("found", .ref D3), ("sign", .int sg tg), ("ahead", .int ah ta)]) ⟨hmf, hms, hmh, trivial⟩)
        have hmul : IntMulOk sg ah := by
          rcases hsg with rfl | rfl
          · exact IntMulOk.of_left (by decide)
          · exact IntMulOk.of_left (by decide)
        k_steps
        refine hQ1 _ _ ?_
        (try dsimp only)
        k_steps
        refine hret _ _ _ _ (by assumption) (by assumption) ⟨fun p hp => (hK p (.tail _ hp)).1, ?_⟩
        rw [detP, ← hvl, hfold]
        exact ⟨_, rfl⟩
end
-- part: Pair
section
section
variable {prog : Program} {w : World} {A : Around} {E : Value → Shared → Prop} {s : Shared} {env : Env} {h₀ : Heap} {m : Str → Option Value} {news : Led}
theorem for_pair {x x₂ : Str} {px px₂ tp : Pos} {kk : Nat} {body : List Stmt} {Q : Flow → Shared → Prop} {keep : Led} {I : Addr} {n : Nat} {vs : List Value} {hp : Heap} {tk0 : Nat} {g dr os} (hh : A.handled = none)
    (S : Src prog w A h₀ env.locals (.Tuple [.Name x px, .Name x₂ px₂] kk tp) keep I n (fun i v h => ∃ T t y, v = .ref T ∧ vs[i]? = some y ∧ IsTup h T #[.int (i : Int) t, y]) news hp) (F : Fr h₀ env.locals hp m) (N : News h₀ env.locals hp news)
    (hx : env.kindOf x = some .local) (hx₂ : env.kindOf x₂ = some .local) (hpk : (env.scope.kind == .class || (env.scope.kind == .module && env.locals != env.globals)) = false)
    (J : Nat → (Str → Option Value) → Led → Prop) (h0 : J 0 m news) (hJk : ∀ i m nx, J i m nx → ∀ p ∈ keep, p ∈ nx)
    (turn : ∀ i y t m₁ nx h tk its, i < n → vs[i]? = some y → J i m₁ nx → Off its nx → Fr h₀ env.locals h (fun z => if z = x₂ then some y else if z = x then some (.int (i : Int) t) else m₁ z) → News h₀ env.locals h (nx ++ its) →
      ∀ Qt : Flow → Shared → Prop, (∀ f s₂, LPost h₀ env.locals its (J (i + 1)) ⟨h, g, dr, tk, os⟩ Q f s₂ → Qt f s₂) → wpAny (model prog w) A (execs body env) Qt E ⟨h, g, dr, tk, os⟩)
    (done : ∀ m' nx h tk, J n m' nx → Fr h₀ env.locals h m' → News h₀ env.locals h nx → Q .next ⟨h, g, dr, tk, os⟩) :
    TurnsAt prog w A h₀ env (.Tuple [.Name x px, .Name x₂ px₂] kk tp) body Q E (.ref I) ⟨hp, g, dr, tk0, os⟩ := by
  refine for_src S F N J h0 hJk ?_ done
  intro i v m₁ nx h tk its hi hp1_ hJ ho F₁ N₁ Qt hQt
  refine hideG fun Gd hGd => ?_
  obtain ⟨T, t, y, rfl, hy, hT⟩ := hp1_
  refine hGd ?_
  clear hGd Gd
  refine assign_Tuple_tuple hh hT rfl rfl fun h₅ he => ?_
  have he' : ∀ b o, h.get? b = some o → h₅.get? b = some o := fun b o e => he b o (Nat.ne_of_lt (Heap.lt_size e)) e
  have F₅ : Fr h₀ env.locals h₅ m₁ := ⟨F₁.ns.at' fun o e => he' _ o e, fun b o e => he' _ _ (F₁.keep b o e), F₁.above⟩
  have N₅ : News h₀ env.locals h₅ (nx ++ its) := fun p hp => ⟨he' _ _ (N₁ p hp).1, (N₁ p hp).2⟩
  refine assignInOrder_cons (wpAny_assign_Name (wpAny_storeName_local hx F₅.ns (fun h₆ hn₆ hs₆ => ?_) hpk))
  have F₆ := F₅.set hn₆ hs₆
  refine assignInOrder_cons (wpAny_assign_Name (wpAny_storeName_local hx₂ F₆.ns (fun h₇ hn₇ hs₇ => ?_) hpk))
  have F₇ := F₆.set hn₇ hs₇
  refine assignInOrder_nil ?_
  have N₇ : News h₀ env.locals h₇ (nx ++ its) := fun p hp => ⟨hs₇.extBut _ _ (N₅ p hp).2.1 (hs₆.extBut _ _ (N₅ p hp).2.1 (N₅ p hp).1), (N₅ p hp).2⟩
  exact turn i y t m₁ nx h₇ _ its hi hy hJ ho F₇ N₇ Qt hQt
end
end
-- part: W10
section
/-- the draw at a spot -/
theorem tbl_item {prog : Program} {w : World} {A : Around} {E : Value → Shared → Prop} {s : Shared} {h₀ : Heap} {L : Addr} {news : Led} {value slice : PySem.Expr} {D : Addr} {spot n : Nat} {u a0 a1 a2 a3 a4 a5 a6 a7 a8 a9 : Tok} {Q : Value → Shared → Prop}
    (N : News h₀ L s.heap ((D, ({ cls := .type "tuple", data := .seq #[.int 0 a0, .int 0 a1, .int 4 a2, .int 3 a3, .int 1 a4, .int 4 a5, .int 2 a6, .int 3 a7, .int 2 a8, .int 0 a9] n } : Obj)) :: news))
    (h : ∀ t, Q (.int (tblP.getD (spot % 10) 0) t) s) (hs : subscripted slice false (.ref D) (.int ((spot : Int).fmod 10) u) = operate [.ref D, .int ((spot : Int).fmod 10) u] (getItem (.ref D) (.int ((spot : Int).fmod 10) u)) := by with_unfolding_all rfl) :
    wpAny (model prog w) A (subscriptTail value slice (.ref D) (.int ((spot : Int).fmod 10) u)) Q E s := by
  have e : (spot : Int).fmod 10 = ((spot % 10 : Nat) : Int) := by rw [Int.fmod_eq_emod_of_nonneg _ (by decide)]; omega
  have hlt : spot % 10 < 10 := Nat.mod_lt _ (by decide)
  obtain ⟨t, ht⟩ : ∃ t, ([.int 0 a0, .int 0 a1, .int 4 a2, .int 3 a3, .int 1 a4, .int 4 a5, .int 2 a6, .int 3 a7, .int 2 a8, .int 0 a9] : List Value)[spot % 10]? = some (.int (tblP.getD (spot % 10) 0) t) := by
    generalize spot % 10 = q at hlt
    match q, hlt with
    | 0, _ | 1, _ | 2, _ | 3, _ | 4, _ | 5, _ | 6, _ | 7, _ | 8, _ | 9, _ => exact ⟨_, rfl⟩
  refine item_tupleT (l := [.int 0 a0, .int 0 a1, .int 4 a2, .int 3 a3, .int 1 a4, .int 4 a5, .int 2 a6, .int 3 a7, .int 2 a8, .int 0 a9]) (News.isTup N (.head _)) (by omega) (by omega) (j := spot % 10) ?_ ht (h t) hs
  rw [e]
  generalize spot % 10 = q at hlt
  match q, hlt with
  | 0, _ | 1, _ | 2, _ | 3, _ | 4, _ | 5, _ | 6, _ | 7, _ | 8, _ | 9, _ => rfl
theorem drawTok {h₀ h : Heap} {L P C : Addr} {x : Int} {t : Tok} {k : Nat} {rest : Led} (N : News h₀ L h ((P, listOf [.ref C, .int x t].toArray k) :: rest)) : ∃ t, News h₀ L h ((P, listOf #[.ref C, .int x t] k) :: rest) := ⟨t, N⟩
theorem draw_con {w mean mg mb} (rest : Led) (P C : Addr) (vs : List Value) (k kc : Nat) (ce : List Int) (spot : Nat) (many : Int) (ts tm : Tok) (hoff : ∀ p ∈ rest, p.1 ≠ P) (hC : (C, listOf vs.toArray kc) ∈ rest) (hA : All2 IntIn vs ce) (hcl : ce.length ≤ 100) (hsp : spot < 1000) (hmany : 0 < many) (hmany2 : many < 100) :
    Con w mean mg mb 143 5 60 ((P, listOf #[.ref C, .int spot ts] k) :: rest) [.ref P, .int many tm] (fun r n' => (∃ t, r = .int (drawP ce spot many) t) ∧ ∃ t, n' = (P, listOf #[.ref C, .int ((spot + 1 : Nat) : Int) t] k) :: rest) := by
  have hvl := hA.length
  have m1 : (P, listOf [.ref C, .int spot ts].toArray k) ∈ (P, listOf #[.ref C, .int spot ts] k) :: rest := .head _
  unfold Con
  intro dp un gd cn cs a' ccd cl outer A₀ base h₀ L m s Q E B F X N T hk hd hu hret
  refine wpAny_call ?_
  k_dflt ktr_enter
  refine letAE ?_
  intro tk1 Q1 hQ1 e1 A1
  rename Fr _ _ _ _ => F0
  replace F0 : Fr _ _ _ (fun y => List.lookup y ([("many", .int many tm), ("pool", .ref P)] : List (Str × Value))) := F0
  k_steps
  refine Stop.mk (li_item (by assumption) m1 (by decide) (by decide) (by rfl) ?_)
  k_steps
  rename Fr _ _ _ _ => FS
  rename News _ _ _ _ => NS
  refine Stop.mk (li_set (vs := [.ref C, .int spot ts]) (n := k) (rest := rest) FS NS hoff (by decide) (by decide) (by simp) fun h1 F1 N1 => ?_)
  clear FS NS
  refine hideG fun Gd hGd => ?_
  obtain ⟨t1, N1⟩ := drawTok (x := (spot : Int) + 1) (C := C) N1
  refine hGd ?_
  clear hGd Gd
  have m2 : (P, listOf [.ref C, .int ((spot : Int) + 1) t1].toArray k) ∈ (P, listOf #[.ref C, .int ((spot : Int) + 1) t1] k) :: rest := .head _
  have m3 : (C, listOf vs.toArray kc) ∈ (P, listOf #[.ref C, .int ((spot : Int) + 1) t1] k) :: rest := .tail _ hC
  k_steps
  refine Stop.mk (li_item (by assumption) m2 (by decide) (by decide) (by rfl) ?_)
  k_steps
  · refine Stop.mk (li_item (by assumption) m2 (by decide) (by decide) (by rfl) ?_)
    refine hideG fun Gd hGd => ?_
    obtain ⟨x, hx, tx, rfl⟩ := hA.get' (List.getElem?_eq_getElem (show spot < ce.length by omega))
    refine hGd ?_
    clear hGd Gd
    have hd : drawP ce spot many = ((ce[spot]).natAbs : Int) % many := by
      rw [drawP, if_pos (by omega), List.getD_eq_getElem?_getD, List.getElem?_eq_getElem (show spot < ce.length by omega)]; rfl
    k_steps
    refine Stop.mk (li_itemN (by assumption) m3 (by omega) hx ?_)
    k_steps
    refine hQ1 _ _ ?_
    (try dsimp only)
    k_steps
    rename News _ _ _ _ => kN
    rename Fr _ _ _ _ => kF
    refine hret _ _ _ _ kF kN ⟨?_, _, rfl⟩
    rw [hd, Int.fmod_eq_emod_of_nonneg _ (by omega)]
    rw [show (if ce[spot] < 0 then -ce[spot] else ce[spot]) = ((ce[spot]).natAbs : Int) by split <;> omega]
    exact ⟨_, rfl⟩
  · rename News _ _ _ _ => N2
    refine Stop.mk (tbl_item N2 fun tq => ?_)
    have hd : drawP ce spot many = tblP.getD (spot % 10) 0 % many := by rw [drawP, if_neg (by omega)]
    k_steps
    refine hQ1 _ _ ?_
    (try dsimp only)
    k_steps
    rename News _ _ _ _ => kN
    rename Fr _ _ _ _ => kF
    refine hret _ _ _ _ kF (nsub kN fun p hp => .tail _ hp) ⟨?_, _, rfl⟩
    rw [hd, Int.fmod_eq_emod_of_nonneg _ (by omega)]
    exact ⟨_, rfl⟩

theorem sums_con {w mean mg mb} (news : Led) (vy : Value) (x : Int) (tx : Tok) (ys : List Int) (hy : IRow news vy ys) (hl : ys.length ≤ 4) (hx : x.natAbs < 1000) (hs : ∀ y ∈ ys, y.natAbs < 1000) :
    Con w mean mg mb 164 5 60 news [.int x tx, vy] (fun r n' => n' = news ∧ ∃ t, r = .int (sumsP x ys) t) := by
  refine hideG fun Gd hGd => ?_
  obtain ⟨a, vs, k, rfl, hm, hA⟩ := hy
  refine hGd ?_
  clear hGd Gd
  have hvl := hA.length
  unfold Con
  intro dp un gd cn cs a' ccd cl outer A₀ base h₀ L m s Q E B F X N T hk hd hu hret
  refine wpAny_call ?_
  k_dflt ktr_enter
  refine letAE ?_
  intro tk1 Q1 hQ1 e1 A1
  rename Fr _ _ _ _ => F0
  replace F0 : Fr _ _ _ (fun y => List.lookup y ([("others", .ref a), ("number", .int x tx)] : List (Str × Value))) := F0
  k_steps
  rename Fr _ _ _ _ => FS
  rename News _ _ _ _ => NS
  refine Stop.mk (srcF_list (by rfl) FS NS (hm) ?_)
  clear FS NS
  intro I hI S FI NI
  refine for_src S FI NI (fun i m nx => nx = news ∧ m "number" = some (.int x tx) ∧ ∃ t, m "found" = some (.int ((ys.take i).foldl (fun f o => f * (x + o)) 1) t)) ⟨rfl, by rfl, _, by rfl⟩ (fun i m nx hj p hp => by rw [List.mem_singleton.mp hp, hj.1]; exact hm) ?_ ?_
  · intro i v m1 nx h2 tk2 its hi hv hp1_ ho F2 N2 Qt hQ
    refine hideG fun Gd hGd => ?_
    obtain ⟨rfl, hmn, tf, hmf⟩ := hp1_
    obtain ⟨y, hy, ty, rfl⟩ := hA.get hv
    refine hGd ?_
    clear hGd Gd
    replace F2 := fr_ov F2 (Kn.all (ps := [("number", .int x tx), ("found", .int ((ys.take i).foldl (fun f o => f * (x + o)) 1) tf)]) ⟨hmn, hmf, trivial⟩)
    have hyb := hs y (List.mem_of_getElem? hy)
    have hmul : IntMulOk ((ys.take i).foldl (fun f o => f * (x + o)) 1) (x + y) := IntMulOk.of_right (intBits_le_64 (by omega) (by omega))
    k_steps
    rename Fr _ _ _ _ => FS
    rename News _ _ _ _ => NS
    have e : (ys.take (i + 1)).foldl (fun f o => f * (x + o)) 1 = (ys.take i).foldl (fun f o => f * (x + o)) 1 * (x + y) := by rw [take_snoc hy, List.foldl_append]; rfl
    refine hQ _ _ ?_
    refine lend0 FS NS ho ⟨rfl, by rfl, _, by rw [e]; rfl⟩
  · intro m1 nx h2 tk2 hp1_ F2 N2
    refine hideG fun Gd hGd => ?_
    obtain ⟨rfl, hmn, tf, hmf⟩ := hp1_
    refine hGd ?_
    clear hGd Gd
    replace F2 := fr_ov F2 (Kn.all (ps := [("number", .int x tx), ("found", .int ((ys.take vs.length).foldl (fun f o => f * (x + o)) 1) tf)]) ⟨hmn, hmf, trivial⟩)
    rw [hvl, List.take_length] at F2
    k_steps
    refine hQ1 _ _ ?_
    (try dsimp only)
    k_steps
    exact hret _ _ _ _ (by assumption) (by assumption) ⟨rfl, _, rfl⟩

theorem apart_con {w mean mg mb} (news : Led) (vx : Value) (xs : List Int) (i0 : Nat) (t0 : Tok) (hx : IRow news vx xs) (hl : xs.length ≤ 4) (hi0 : i0 < xs.length) (hs : ∀ x ∈ xs, x.natAbs < 1000) :
    Con w mean mg mb 157 5 60 news [vx, .int i0 t0] (fun r n' => (∀ p ∈ news, p ∈ n') ∧ ∃ t, r = .int (apartP xs i0) t) := by
  refine hideG fun Gd hGd => ?_
  obtain ⟨a, vs, k, rfl, hm, hA⟩ := hx
  refine hGd ?_
  clear hGd Gd
  have hvl := hA.length
  unfold Con
  intro dp un gd cn cs a' ccd cl outer A₀ base h₀ L m s Q E B F X N T hk hd hu hret
  refine wpAny_call ?_
  k_dflt ktr_enter
  refine letAE ?_
  intro tk1 Q1 hQ1 e1 A1
  rename Fr _ _ _ _ => F0
  replace F0 : Fr _ _ _ (fun y => List.lookup y ([("at", .int i0 t0), ("numbers", .ref a)] : List (Str × Value))) := F0
  k_steps
  rename Fr _ _ _ _ => FS
  rename News _ _ _ _ => NS
  refine Stop.mk (enum_call FS NS (hm) ?_)
  clear FS NS
  intro eE eI hE FE NE hEn hEl hEe hElt hELt hE1 hE2
  k_steps
  refine Stop.mk (srcF_enum (by rfl) FE NE (hm) hEn hEl hEe hElt hELt hE1 hE2 ?_)
  intro S
  have hgx : ∀ i, i < xs.length → (xs.getD i 0).natAbs < 1000 := fun i h => hs _ (by rw [List.getD_eq_getElem?_getD, List.getElem?_eq_getElem h]; exact List.getElem_mem h)
  refine for_pair (by rfl) S FE NE (by rfl) (by rfl) (by rfl) (fun i m nx => nx = news ∧ m "numbers" = some (.ref a) ∧ m "at" = some (.int i0 t0) ∧ ∃ t, m "found" = some (.int ((List.range i).foldl (fun f spot => if spot = i0 then f else f * (xs.getD i0 0 - xs.getD spot 0)) 1) t)) ⟨rfl, by rfl, by rfl, _, by rfl⟩ (fun i m nx hj p hp => by rw [List.mem_singleton.mp hp, hj.1]; exact hm) ?_ ?_
  · intro i v t2 m1 nx h2 tk2 its hi hv hp1_ ho F2 N2 Qt hQ
    refine hideG fun Gd hGd => ?_
    obtain ⟨rfl, hmn, hma, tf, hmf⟩ := hp1_
    obtain ⟨y, hy, ty, rfl⟩ := hA.get hv
    obtain ⟨x0, hx0, tx0, rfl⟩ := hA.get' (List.getElem?_eq_getElem hi0)
    refine hGd ?_
    clear hGd Gd
    have hm2 : (a, listOf vs.toArray k) ∈ nx ++ its := List.mem_append_left _ hm
    have eo : m1 = ov m1 [("numbers", .ref a), ("at", .int i0 t0), ("found", .int ((List.range i).foldl (fun f spot => if spot = i0 then f else f * (xs.getD i0 0 - xs.getD spot 0)) 1) tf)] := (ov_eq (Kn.all (ps := [("numbers", .ref a), ("at", .int i0 t0), ("found", .int ((List.range i).foldl (fun f spot => if spot = i0 then f else f * (xs.getD i0 0 - xs.getD spot 0)) 1) tf)]) ⟨hmn, hma, hmf, trivial⟩)).symm
    rw [eo] at F2
    have hyd : xs.getD i 0 = y := by rw [List.getD_eq_getElem?_getD, hy]; rfl
    have hxd : xs.getD i0 0 = xs[i0] := by rw [List.getD_eq_getElem?_getD, List.getElem?_eq_getElem hi0]; rfl
    have hyb := hs y (List.mem_of_getElem? hy)
    have hxb := hs _ (List.getElem_mem hi0)
    have hmul : IntMulOk ((List.range i).foldl (fun f spot => if spot = i0 then f else f * (xs.getD i0 0 - xs.getD spot 0)) 1) (xs[i0] - y) := IntMulOk.of_right (intBits_le_64 (by omega) (by omega))
    have hst : (List.range (i + 1)).foldl (fun f spot => if spot = i0 then f else f * (xs.getD i0 0 - xs.getD spot 0)) 1 = if i = i0 then (List.range i).foldl (fun f spot => if spot = i0 then f else f * (xs.getD i0 0 - xs.getD spot 0)) 1 else (List.range i).foldl (fun f spot => if spot = i0 then f else f * (xs.getD i0 0 - xs.getD spot 0)) 1 * (xs[i0] - y) := by
      rw [List.range_succ, List.foldl_append, ← hxd, ← hyd]; rfl
    generalize (List.range i).foldl (fun f spot => if spot = i0 then f else f * (xs.getD i0 0 - xs.getD spot 0)) 1 = fo at F2 hmul hst
    k_steps
    · refine Stop.mk (li_itemN (by assumption) hm2 (by omega) hx0 ?_)
      rename_i hne
      rw [if_neg (by omega)] at hst
      k_steps
      rename Fr _ _ _ _ => FS
      rename News _ _ _ _ => NS
      refine hQ _ _ ?_
      exact lend0 FS NS ho ⟨rfl, by rfl, by rfl, _, by rw [hst]; rfl⟩
    · rename_i hne
      rw [if_pos (by omega)] at hst
      refine hQ _ _ ?_
      exact lend0 F2 N2 ho ⟨rfl, by rfl, by rfl, _, by rw [hst]; rfl⟩
  · intro m1 nx h2 tk2 hp1_ F2 N2
    refine hideG fun Gd hGd => ?_
    obtain ⟨rfl, hmn, hma, tf, hmf⟩ := hp1_
    refine hGd ?_
    clear hGd Gd
    replace F2 := fr_ov F2 (Kn.all (ps := [("found", .int ((List.range vs.length).foldl (fun f spot => if spot = i0 then f else f * (xs.getD i0 0 - xs.getD spot 0)) 1) tf)]) ⟨hmf, trivial⟩)
    k_steps
    refine hQ1 _ _ ?_
    (try dsimp only)
    k_steps
    refine hret _ _ _ _ (by assumption) (by assumption) ⟨fun p hp => hp, tf, ?_⟩
    rw [apartP, ← hvl]
end
-- part: W11
section
theorem spread_con {w mean mg mb} (news : Led) (vx : Value) (xs : List Int) (hx : IRow news vx xs) (hl : xs.length ≤ 4) (hs : ∀ x ∈ xs, x.natAbs < 1000) :
    Con w mean mg mb 150 5 60 news [vx] (fun r n' => (∀ p ∈ news, p ∈ n') ∧ ∃ t, r = .int (spreadP xs) t) := by
  refine hideG fun Gd hGd => ?_
  obtain ⟨a, vs, k, rfl, hm, hA⟩ := hx
  refine hGd ?_
  clear hGd Gd
  have hvl := hA.length
  unfold Con
  intro dp un gd cn cs a' ccd cl outer A₀ base h₀ L m s Q E B F X N T hk hd hu hret
  refine wpAny_call ?_
  k_dflt ktr_enter
  refine letAE ?_
  intro tk1 Q1 hQ1 e1 A1
  rename Fr _ _ _ _ => F0
  replace F0 : Fr _ _ _ (fun y => List.lookup y ([("numbers", .ref a)] : List (Str × Value))) := F0
  k_steps
  rename Fr _ _ _ _ => FS
  rename News _ _ _ _ => NS
  refine Stop.mk (enum_call FS NS (hm) ?_)
  clear FS NS
  intro eE eI hE FE NE hEn hEl hEe hElt hELt hE1 hE2
  k_steps
  refine Stop.mk (srcF_enum (by rfl) FE NE (hm) hEn hEl hEe hElt hELt hE1 hE2 ?_)
  intro S
  refine for_pair (by rfl) S FE NE (by rfl) (by rfl) (by rfl) (fun i m nx => Gr news (fun _ => True) nx ∧ m "numbers" = some (.ref a) ∧ ∃ t, m "found" = some (.int ((List.range i).foldl (fun f at_ => (xs.take at_).foldl (fun g e => g * (xs.getD at_ 0 - e)) f) 1) t)) ⟨.refl trivial, by rfl, _, by rfl⟩ (fun i m nx hj p hp => by rw [List.mem_singleton.mp hp]; exact hj.1.sub _ hm) ?_ ?_
  · intro i v t2 m1 nx h2 tk2 its hi hv hp1_ ho F2 N2 Qt hQ
    refine hideG fun Gd hGd => ?_
    obtain ⟨hg, hmn, tf, hmf⟩ := hp1_
    obtain ⟨y, hy, ty, rfl⟩ := hA.get hv
    refine hGd ?_
    clear hGd Gd
    have hm2 : (a, listOf vs.toArray k) ∈ nx ++ its := List.mem_append_left _ (hg.sub _ hm)
    have hyd : xs.getD i 0 = y := by rw [List.getD_eq_getElem?_getD, hy]; rfl
    have hyb := hs y (List.mem_of_getElem? hy)
    have hst : (List.range (i + 1)).foldl (fun f at_ => (xs.take at_).foldl (fun g e => g * (xs.getD at_ 0 - e)) f) 1 = (xs.take i).foldl (fun g e => g * (y - e)) ((List.range i).foldl (fun f at_ => (xs.take at_).foldl (fun g e => g * (xs.getD at_ 0 - e)) f) 1) := by
      rw [List.range_succ, List.foldl_append, ← hyd]; rfl
    generalize (List.range i).foldl (fun f at_ => (xs.take at_).foldl (fun g e => g * (xs.getD at_ 0 - e)) f) 1 = fo at hmf hst
    have eo : m1 = ov m1 [("numbers", .ref a), ("found", .int fo tf)] := (ov_eq (Kn.all (ps := [("numbers", .ref a), ("found", .int fo tf)]) ⟨hmn, hmf, trivial⟩)).symm
    rw [eo] at F2
    k_steps
    rename Fr _ _ _ _ => FS
    rename News _ _ _ _ => NS
    refine Stop.mk (li_upto (y := i) FS NS hm2 (by rw [sizeLine_eq]; omega) (fun D12 h12 F12 N12 hf12 => ?_) (by with_unfolding_all rfl) (by intro r; with_unfolding_all rfl))
    clear FS NS
    have hm3 : (D12, listOf (vs.take i).toArray 0) ∈ (D12, listOf (vs.take i).toArray 0) :: (nx ++ its) := .head _
    k_steps
    rename Fr _ _ _ _ => FS
    rename News _ _ _ _ => NS
    refine Stop.mk (srcF_list (by rfl) FS NS (hm3) ?_)
    clear FS NS
    intro I hI S FI NI
    have htl : (vs.take i).length = i := by rw [List.length_take]; omega
    refine for_src S FI NI (fun j m nx2 => nx2 = (D12, listOf (vs.take i).toArray 0) :: (nx ++ its) ∧ m "numbers" = some (.ref a) ∧ (∃ t, m "number" = some (.int y t)) ∧ ∃ t, m "found" = some (.int (((xs.take i).take j).foldl (fun g e => g * (y - e)) fo) t)) ⟨rfl, by rfl, ⟨_, by rfl⟩, _, by rfl⟩ (fun j m nx2 hj p hp => by rw [List.mem_singleton.mp hp, hj.1]; exact hm3) ?_ ?_
    · intro j v2 m3 nx2 h4 tk4 its4 hj hv2 hp1_ ho4 F4 N4 Qt hQ
      refine hideG fun Gd hGd => ?_
      obtain ⟨rfl, qn, ⟨t5, qy⟩, t6, qf⟩ := hp1_
      obtain ⟨e, he, te, rfl⟩ := (hA.take i).get hv2
      refine hGd ?_
      clear hGd Gd
      have heb := hs e (List.mem_of_mem_take (List.mem_of_getElem? he))
      have hst2 : ((xs.take i).take (j + 1)).foldl (fun g e => g * (y - e)) fo = ((xs.take i).take j).foldl (fun g e => g * (y - e)) fo * (y - e) := by rw [take_snoc he, List.foldl_append]; rfl
      generalize ((xs.take i).take j).foldl (fun g e => g * (y - e)) fo = fi at qf hst2
      replace F4 := fr_ov F4 (Kn.all (ps := [("numbers", .ref a), ("number", .int y t5), ("found", .int fi t6)]) ⟨qn, qy, qf, trivial⟩)
      have hmul : IntMulOk fi (y - e) := IntMulOk.of_right (intBits_le_64 (by omega) (by omega))
      k_steps
      rename Fr _ _ _ _ => FS
      rename News _ _ _ _ => NS
      refine hQ _ _ ?_
      exact lend0 FS NS ho4 ⟨rfl, by rfl, ⟨_, by rfl⟩, _, by rw [hst2]; rfl⟩
    · intro m3 nx2 h4 tk4 hp1_ F4 N4
      refine hideG fun Gd hGd => ?_
      obtain ⟨rfl, qn, _, t6, qf⟩ := hp1_
      refine hGd ?_
      clear hGd Gd
      rw [htl, List.take_of_length_le (show (xs.take i).length ≤ i by rw [List.length_take]; omega), ← hst] at qf
      k_steps
      refine hQ _ _ ?_
      refine lendG F4 N4 (P1 := fun _ => True) (Gr.one (q := (D12, _)) hf12 trivial) ho fun add _ hfa => ⟨hg.trans (P1 := fun _ => True) ⟨add, rfl, hfa, trivial⟩ fun _ _ _ _ => trivial, qn, _, qf⟩
  · intro m1 nx h2 tk2 hp1_ F2 N2
    refine hideG fun Gd hGd => ?_
    obtain ⟨hg, hmn, tf, hmf⟩ := hp1_
    refine hGd ?_
    clear hGd Gd
    replace F2 := fr_ov F2 (Kn.all (ps := [("found", .int ((List.range vs.length).foldl (fun f at_ => (xs.take at_).foldl (fun g e => g * (xs.getD at_ 0 - e)) f) 1) tf)]) ⟨hmf, trivial⟩)
    k_steps
    refine hQ1 _ _ ?_
    (try dsimp only)
    k_steps
    refine hret _ _ _ _ (by assumption) (by assumption) ⟨fun p hp => hg.sub p hp, tf, ?_⟩
    rw [spreadP, ← hvl]
end
-- part: Pair2
section
section
variable {prog : Program} {w : World} {A : Around} {E : Value → Shared → Prop} {s : Shared} {h₀ : Heap} {L : Addr} {m : Str → Option Value} {news : Led}
/-- a ledger whose head is the cell c -/
def CellJ (c : Addr) (Jr : (Str → Option Value) → Led → Prop) (m : Str → Option Value) (nx : Led) : Prop := ∃ o v0 rest, nx = (c, o) :: rest ∧ o.data = .cell v0 ∧ (∀ p ∈ rest, p.1 ≠ c) ∧ Jr m rest
theorem for_pairC {x x₂ : Str} {px px₂ tp : Pos} {kk : Nat} {body : List Stmt} {Q : Flow → Shared → Prop} {keep : Led} {I : Addr} {n : Nat} {vs : List Value} {hp : Heap} {tk0 : Nat} {g dr os} {c a : Addr} {cn : Str} {cs : Scope} {ccd : Value} {cl : List (Str × Addr)} (hh : A.handled = none)
    (S : Src prog w A h₀ L (.Tuple [.Name x px, .Name x₂ px₂] kk tp) keep I n (fun i v h => ∃ T t y, v = .ref T ∧ vs[i]? = some y ∧ IsTup h T #[.int (i : Int) t, y]) news hp) (F : Fr h₀ L hp m) (N : News h₀ L hp news)
    (hc : cl.lookup x = some c) (hk : cs.kind = .function) (hx : (envX cn cs L a ccd cl).kindOf x = some .cell) (hx₂ : (envX cn cs L a ccd cl).kindOf x₂ = some .local)
    (Jr : Nat → (Str → Option Value) → Led → Prop) (h0 : CellJ c (Jr 0) m news) (hJk : ∀ i m nx, Jr i m nx → ∀ p ∈ keep, p ∈ nx)
    (turn : ∀ i y t m₁ rest h tk its o, i < n → vs[i]? = some y → Jr i m₁ rest → (∀ p ∈ rest, p.1 ≠ c) → (∀ q ∈ its, c ≠ q.1) → Off its rest → o.data = .cell (some (.int (i : Int) t)) → Fr h₀ L h (fun z => if z = x₂ then some y else m₁ z) → News h₀ L h ((c, o) :: (rest ++ its)) →
      ∀ Qt : Flow → Shared → Prop, (∀ f s₂, LPost h₀ L its (CellJ c (Jr (i + 1))) ⟨h, g, dr, tk, os⟩ Q f s₂ → Qt f s₂) → wpAny (model prog w) A (execs body (envX cn cs L a ccd cl)) Qt E ⟨h, g, dr, tk, os⟩)
    (done : ∀ m' nx h tk, CellJ c (Jr n) m' nx → Fr h₀ L h m' → News h₀ L h nx → Q .next ⟨h, g, dr, tk, os⟩) :
    TurnsAt prog w A h₀ (envX cn cs L a ccd cl) (.Tuple [.Name x px, .Name x₂ px₂] kk tp) body Q E (.ref I) ⟨hp, g, dr, tk0, os⟩ := by
  refine for_src S F N (fun i m nx => CellJ c (Jr i) m nx) h0 (fun i m nx hj p hp => by obtain ⟨o, v0, rest, rfl, _, _, h⟩ := hj; exact .tail _ (hJk i m rest h p hp)) ?_ done
  intro i v m₁ nx h tk its hi hp1_ hp2_ ho F₁ N₁ Qt hQt
  refine hideG fun Gd hGd => ?_
  obtain ⟨T, t, y, rfl, hy, hT⟩ := hp1_
  obtain ⟨o, v0, rest, rfl, hd, hoc, hJ⟩ := hp2_
  refine hGd ?_
  clear hGd Gd
  refine assign_Tuple_tuple hh hT rfl rfl fun h₅ he => ?_
  have he' : ∀ b o, h.get? b = some o → h₅.get? b = some o := fun b o e => he b o (Nat.ne_of_lt (Heap.lt_size e)) e
  have F₅ : Fr h₀ L h₅ m₁ := ⟨F₁.ns.at' fun o e => he' _ o e, fun b o e => he' _ _ (F₁.keep b o e), F₁.above⟩
  have N₅ : News h₀ L h₅ ((c, o) :: (rest ++ its)) := fun p hp => ⟨he' _ _ (N₁ p hp).1, (N₁ p hp).2⟩
  have hci : ∀ q ∈ its, c ≠ q.1 := fun q hq => ho (c, o) (.head _) q hq
  refine assignInOrder_cons (wpAny_assign_Name (st_cell F₅ N₅ (fun p hp => (List.mem_append.mp hp).elim (hoc p) fun hq e => hci p hq e.symm) hc hd (fun h₆ o' F₆ N₆ hd' => ?_) hk hx))
  refine assignInOrder_cons (wpAny_assign_Name (wpAny_storeName_local hx₂ F₆.ns (fun h₇ hn₇ hs₇ => ?_) (by simp [envX, hk])))
  have F₇ := F₆.set hn₇ hs₇
  refine assignInOrder_nil ?_
  have N₇ : News h₀ L h₇ ((c, o') :: (rest ++ its)) := fun p hp => ⟨hs₇.extBut _ _ (N₆ p hp).2.1 (N₆ p hp).1, (N₆ p hp).2⟩
  exact turn i y t m₁ rest h₇ _ its o' hi hy hJ hoc hci (fun p hp => ho p (.tail _ hp)) hd' F₇ N₇ Qt hQt
end
end
-- part: W12
section
theorem Con.keep {w mean mg mb} {f : Addr} {d u : Nat} {news : Led} {vs : List Value} {P : Value → Prop} (C : Con w mean mg mb f d u news vs (fun r n' => (∀ p ∈ news, p ∈ n') ∧ P r)) : Con w mean mg mb f d u news vs (fun r n' => n' = news ∧ P r) := by
  unfold Con
  intro dp un gd cn cs a' ccd cl outer A₀ base h₀ L m s Q E B F X N T hk hd hu hret
  exact C dp un gd cn cs a' ccd cl outer A₀ base h₀ L m s Q E B F X N T hk hd hu fun r n' h' tk' F' N' ⟨h1, h2⟩ => hret r news h' tk' F' (nsub N' h1) ⟨rfl, h2⟩
theorem perm_con {w mean mg mb} : ∀ (n : Nat) (news : Led) (va : Value) (M : List (List Int)), M.length = n → IMat news va M → n ≤ 4 → (∀ r ∈ M, r.length ≤ 4) → (∀ r ∈ M, ∀ x ∈ r, x.natAbs < 2 ^ 22) →
    Con w mean mg mb 169 (10 * n + 10) (100 * n + 100) news [va] (fun r n' => n' = news ∧ ∃ t, r = .int (permN n M) t) := by
  intro n
  induction n with
  | zero =>
    intro news va M hl hM hn hr hs
    cases List.length_eq_zero_iff.mp hl
    refine hideG fun Gd hGd => ?_
    obtain ⟨a, vs, k, rfl, hm, hA⟩ := hM
    refine hGd ?_
    clear hGd Gd
    unfold Con
    intro dp un gd cn cs a' ccd cl outer A₀ base h₀ L m s Q E B F X N T hk hd hu hret
    refine wpAny_call ?_
    k_dflt ((refine' code_defC ?k1 ?k2 ?k3 ?k4 ?k5 ?kA ?kF ?kK ?k6 ?k7 ?k8 ?k9 ?kB ?kD ?_ ?c2 ?c3 ?c4; (case kA => exact rfl); (case kF => exact rfl); (case kK => assumption); (case k1 => k_asm); (case k2 => k_asm); (case k3 => k_asm); (case k4 => k_asm); (case k5 => k_asm); (case k6 => k_is); (case k7 => k_is); (case k8 => ktr_room); (case k9 => exact BindsTo.of_eq rfl); (case kB => exact rfl); (case kD => decide +kernel); (case c2 => exact rfl); (case c3 => exact rfl); (case c4 => exact rfl); k_whole; intro g' L' h' tk' cells' FG' F' N' Y' B' X' T' l1; (try k_lt l1); k_cells Y'; (try simp only [List.cons_append, List.nil_append] at N'); (try dsimp only); (try k_fold)))
    refine letAE ?_
    intro tk1 Q1 hQ1 e1 A1
    rename_i o1 d1
    replace d1 : o1.data = Data.cell none := d1
    rename Fr _ _ _ _ => F0
    replace F0 : Fr _ _ _ (fun y => if y = "rows" then some (.ref a) else none) := F0
    k_steps
    refine Stop.mk (eq_nil (M := []) (by assumption) ⟨a, vs, k, rfl, .tail _ (.tail _ hm), hA.mono fun _ _ h => IRow.mono h fun p hp => .tail _ (.tail _ hp)⟩ ⟨_, [], 0, rfl, .head _, trivial⟩ (by (try show (Around.deeper _ _).units + _ < _); ktr_units) ?_)
    rw [decide_eq_true rfl]
    k_steps
    refine hQ1 _ _ ?_
    (try dsimp only)
    k_steps
    rename News _ _ _ _ => kN
    refine hret _ _ _ _ (by assumption) (nsub kN fun p hp => .tail _ (.tail _ hp)) ⟨rfl, _, rfl⟩
  | succ n ih =>
    intro news va M hl hM hn hr hs
    obtain ⟨r, rs, rfl⟩ : ∃ r rs, M = r :: rs := by
      cases M with
      | nil => cases hl
      | cons r rs => exact ⟨r, rs, rfl⟩
    refine hideG fun Gd hGd => ?_
    obtain ⟨a, vs, k, rfl, hm, hA⟩ := hM
    refine hGd ?_
    clear hGd Gd
    unfold Con
    intro dp un gd cn cs a' ccd cl outer A₀ base h₀ L m s Q E B F X N T hk hd hu hret
    refine wpAny_call ?_
    k_dflt ((refine' code_defC ?k1 ?k2 ?k3 ?k4 ?k5 ?kA ?kF ?kK ?k6 ?k7 ?k8 ?k9 ?kB ?kD ?_ ?c2 ?c3 ?c4; (case kA => exact rfl); (case kF => exact rfl); (case kK => assumption); (case k1 => k_asm); (case k2 => k_asm); (case k3 => k_asm); (case k4 => k_asm); (case k5 => k_asm); (case k6 => k_is); (case k7 => k_is); (case k8 => ktr_room); (case k9 => exact BindsTo.of_eq rfl); (case kB => exact rfl); (case kD => decide +kernel); (case c2 => exact rfl); (case c3 => exact rfl); (case c4 => exact rfl); k_whole; intro g' L' h' tk' cells' FG' F' N' Y' B' X' T' l1; (try k_lt l1); k_cells Y'; (try simp only [List.cons_append, List.nil_append] at N'); (try dsimp only); (try k_fold)))
    refine letAE ?_
    intro tk1 Q1 hQ1 e1 A1
    rename_i o1 d1
    replace d1 : o1.data = Data.cell none := d1
    rename Fr _ _ _ _ => F0
    replace F0 : Fr _ _ _ (fun y => if y = "rows" then some (.ref a) else none) := F0
    k_steps
    refine Stop.mk (eq_nil (M := r :: rs) (by assumption) ⟨a, vs, k, rfl, .tail _ (.tail _ hm), hA.mono fun _ _ h => IRow.mono h fun p hp => .tail _ (.tail _ hp)⟩ ⟨_, [], 0, rfl, .head _, trivial⟩ (by (try show (Around.deeper _ _).units + _ < _); ktr_units) ?_)
    rw [decide_eq_false (List.cons_ne_nil _ _)]
    refine hideG fun Gd hGd => ?_
    obtain ⟨x0, hx0, b0, us0, k0, rfl, hb0, hB0⟩ := hA.get' (i := 0) rfl
    refine hGd ?_
    clear hGd Gd
    rename News _ _ _ _ => N1
    replace N1 := nsub (a := (L' + 1, o1) :: news) N1 fun p hp => .tail _ hp
    have m1 : (a, listOf vs.toArray k) ∈ (L' + 1, o1) :: news := .tail _ hm
    have m2 : (b0, listOf us0.toArray k0) ∈ (L' + 1, o1) :: news := .tail _ hb0
    have n0 : ∀ p ∈ news, @LT.lt Nat _ p.1 L' := by assumption
    have hoc : ∀ p ∈ news, p.1 ≠ L' + 1 := fun p hp => neN (by have := n0 p hp; lia)
    have hrl : r.length ≤ 4 := hr r (.head _)
    have hul := hB0.length
    k_steps
    refine Stop.mk (li_item (by assumption) m1 (by decide) (by decide) hx0 ?_)
    k_steps
    rename Fr _ _ _ _ => FS
    rename News _ _ _ _ => NS
    refine Stop.mk (enum_call FS NS (m2) ?_)
    clear FS NS
    intro eE eI hE FE NE hEn hEl hEe hElt hELt hE1 hE2
    k_steps
    refine Stop.mk (srcF_enum (by rfl) FE NE (m2) hEn hEl hEe hElt hELt hE1 hE2 ?_)
    intro S
    refine for_pairC (by rfl) S FE NE (by rfl) (by rfl) (by rfl) (by rfl) (fun i m nx => nx = news ∧ m "rows" = some (.ref a) ∧ ∃ t, m "found" = some (.int ((List.range i).foldl (fun f at_ => f + r.getD at_ 0 * permN n (rs.map (·.eraseIdx at_))) 0) t)) ⟨o1, none, news, rfl, d1, hoc, rfl, by rfl, _, by rfl⟩ (fun i m nx hj p hp => by rw [List.mem_singleton.mp hp, hj.1]; exact hb0) ?_ ?_
    · intro i v t2 m1' rest h2 tk2 its o hi hv hp1_ hoc2 hci ho hd2 F2 N2 Qt hQ
      refine hideG fun Gd hGd => ?_
      obtain ⟨rfl, hmr, tf, hmf⟩ := hp1_
      obtain ⟨y, hy, ty, rfl⟩ := hB0.get hv
      refine hGd ?_
      clear hGd Gd
      replace F2 := F2
      replace N2 := N2
      have hst : (List.range (i + 1)).foldl (fun f at_ => f + r.getD at_ 0 * permN n (rs.map (·.eraseIdx at_))) 0 = (List.range i).foldl (fun f at_ => f + r.getD at_ 0 * permN n (rs.map (·.eraseIdx at_))) 0 + y * permN n (rs.map (·.eraseIdx i)) := by
        have hyd : r.getD i 0 = y := by rw [List.getD_eq_getElem?_getD, hy]; rfl
        rw [List.range_succ, List.foldl_append, ← hyd]; rfl
      generalize (List.range i).foldl (fun f at_ => f + r.getD at_ 0 * permN n (rs.map (·.eraseIdx at_))) 0 = fo at hmf hst
      have eo : m1' = ov m1' [("rows", .ref a), ("found", .int fo tf)] := (ov_eq (Kn.all (ps := [("rows", .ref a), ("found", .int fo tf)]) ⟨hmr, hmf, trivial⟩)).symm
      rw [eo] at F2
      have m3 : (a, listOf vs.toArray k) ∈ (L' + 1, o) :: (rest ++ its) := .tail _ (List.mem_append_left _ hm)
      have c3 : (L' + 1, o) ∈ (L' + 1, o) :: (rest ++ its) := .head _
      have hvl : vs.length = rs.length + 1 := by rw [hA.length]; rfl
      have hlz : rs.length ≤ 3 := by simp only [List.length_cons] at hl; lia
      k_steps
      rename Fr _ _ _ _ => FS
      rename News _ _ _ _ => NS
      refine Stop.mk (li_from (x := 1) FS NS m3 (by rw [sizeLine_eq]; lia) (fun D1 h3 F3 N3 hf3 => ?_) (by with_unfolding_all rfl) (by intro r; with_unfolding_all rfl))
      clear FS NS
      have m4 : (D1, listOf (vs.drop 1).toArray 0) ∈ (D1, listOf (vs.drop 1).toArray 0) :: (L' + 1, o) :: (rest ++ its) := .head _
      have c4 : (L' + 1, o) ∈ (D1, listOf (vs.drop 1).toArray 0) :: (L' + 1, o) :: (rest ++ its) := .tail _ c3
      have hAd : All2 (IRow rest) (vs.drop 1) rs := hA.drop 1
      have hdl := hAd.length
      k_steps
      rename Fr _ _ _ _ => FS
      rename News _ _ _ _ => NS
      refine Stop.mk (srcC_list (by rfl) FS NS (m4) ?_)
      clear FS NS
      intro I hI S FI NI
      refine comp_local S (by rw [sizeLine_eq]; lia) FI NI (by decide) (by rfl) (by rfl) (fun i2 ys nx => Gr ((D1, listOf (vs.drop 1).toArray 0) :: (L' + 1, o) :: (rest ++ its)) (fun add => All2 (IRow (add ++ rest)) ys ((rs.map (·.eraseIdx i)).take i2)) nx) (.refl trivial) (fun i ys nx hj p hp => by rw [List.mem_singleton.mp hp]; exact hj.sub _ m4) ?_ (ret_E ?_)
      · intro C D2 j v ys nx h4 tk4 its4 oC m4' E4 hj hv4 hNs hx hJ ho4 F4 N4 Qc Qf hQ hQf
        refine hideG fun Gd hGd => ?_
        obtain ⟨row, hrow, b, us, kb, rfl, hb, hBx⟩ := hAd.get hv4
        refine hGd ?_
        clear hGd Gd
        have hrowl : row.length ≤ 4 := hr row (.tail _ (List.mem_of_getElem? hrow))
        have hbl := hBx.length
        have c5 : (L' + 1, o) ∈ nx := hJ.sub _ c4
        have m5 : (b, listOf us.toArray kb) ∈ nx := hJ.sub _ (by walk_at "mem")
        refine tests0 ?_
        k_steps
        rename Fr _ _ _ _ => FS
        rename News _ _ _ _ => NS
        refine Stop.mk (li_upto (y := i) FS NS (List.mem_append_left _ m5) (by rw [sizeLine_eq]; lia) (fun D6 h6 F6 N6 hf6 => ?_) (by with_unfolding_all rfl) (by intro r; with_unfolding_all rfl))
        clear FS NS
        have c6 : (L' + 1, o) ∈ (D6, listOf (us.take i).toArray 0) :: (nx ++ (C, oC) :: (D2, LCg.lst ys) :: its4) := .tail _ (List.mem_append_left _ c5)
        k_steps
        rename Fr _ _ _ _ => FS
        rename News _ _ _ _ => NS
        refine Stop.mk (li_from (x := i + 1) FS NS (.tail _ (List.mem_append_left _ m5)) (by rw [sizeLine_eq]; lia) (fun D7 h7 F7 N7 hf7 => ?_) (by with_unfolding_all rfl) (by intro r; with_unfolding_all rfl))
        clear FS NS
        k_steps
        rename Fr _ _ _ _ => FS
        rename News _ _ _ _ => NS
        refine Stop.mk (li_add FS NS (.tail _ (.head _)) (.head _) (by rw [List.length_take, List.length_drop, sizeLine_eq]; lia) fun D8 h8 F8 N8 hf8 => ?_)
        clear FS NS
        k_steps
        have hz : (rs.map (·.eraseIdx i))[j]? = some (row.take i ++ row.drop (i + 1)) := by rw [List.getElem?_map, hrow, Option.map_some, List.eraseIdx_eq_take_drop_succ]
        refine hQ _ _ ?_
        refine cendG (by assumption) (by assumption) (P1 := fun add => IRow (add ++ rest) (.ref D8) (row.take i ++ row.drop (i + 1))) (((Gr.one (P := fun _ => True) (q := (D6, _)) hf6 trivial).cons (P' := fun _ => True) (q := (D7, _)) hf7 fun _ _ => trivial).cons (q := (D8, _)) hf8 fun add _ => ⟨D8, us.take i ++ us.drop (i + 1), 0, rfl, .head _, (hBx.take _).append (hBx.drop _)⟩) ho4 fun add1 h1 hf1 => ?_
        exact hJ.trans ⟨add1, rfl, hf1, h1⟩ fun add1 add h k => all2_step h (fun _ _ h => IRow.mono h mem_mid) hz (IRow.mono k fun p hp => (List.mem_append.mp hp).elim (fun h => List.mem_append_left _ (List.mem_append_left _ h)) fun h => List.mem_append_right _ h)
      · intro D2 ys nx h4 tk4 hf4 hJ F4 N4 ho4
        rw [List.take_of_length_le (by rw [List.length_map]; lia)] at hJ
        have hsb := hJ.sub
        refine hideG fun Gd hGd => ?_
        obtain ⟨add, rfl, hfa, hAy⟩ := hJ
        refine hGd ?_
        clear hGd Gd
        have hIM : IMat ((D2, LCg.lst ys) :: (add ++ (D1, listOf (vs.drop 1).toArray 0) :: (L' + 1, o) :: (rest ++ its))) (.ref D2) (rs.map (·.eraseIdx i)) := ⟨D2, ys, _, rfl, .head _, hAy.mono fun _ _ h => IRow.mono h fun p hp => by
          rcases List.mem_append.mp hp with hp | hp
          · exact .tail _ (List.mem_append_left _ hp)
          · exact .tail _ (hsb _ (by walk_at "mem"))⟩
        have hsz2 : ∀ r2 ∈ rs.map (·.eraseIdx i), r2.length ≤ 4 ∧ ∀ x ∈ r2, x.natAbs < 2 ^ 22 := fun r2 h2 => by
          refine hideG fun Gd hGd => ?_
          obtain ⟨r3, h3, rfl⟩ := List.mem_map.mp h2
          refine hGd ?_
          clear hGd Gd
          refine ⟨Nat.le_trans (List.length_eraseIdx_le _ _) (hr r3 (.tail _ h3)), fun x hx => hs r3 (.tail _ h3) x (List.mem_of_mem_eraseIdx hx)⟩
        clear NI FI S
        k_steps
        refine' Con.use (ih _ _ (rs.map (·.eraseIdx i)) (by rw [List.length_map]; simpa using hl) hIM (by lia) (fun r2 h2 => (hsz2 r2 h2).1) (fun r2 h2 => (hsz2 r2 h2).2)) ?k1 ?k2 ?k3 ?k4 ?k5 ?kK ?kd ?ku ?_
        (case k1 => k_asm)
        (case k2 => k_asm)
        (case k3 => k_asm)
        (case k4 => k_asm)
        (case k5 => k_asm)
        (case kK => first | exact rfl | assumption)
        (case kd => ktr_room)
        (case ku => ktr_units)
        intro r9 n9 h9 tk9 F9 N9 hp1_
        refine hideG fun Gd hGd => ?_
        obtain ⟨rfl, t9, rfl⟩ := hp1_
        refine hGd ?_
        clear hGd Gd
        have hyb := hs r (.head _) y (List.mem_of_getElem? hy)
        have hmul : IntMulOk y (permN n (rs.map (·.eraseIdx i))) := IntMulOk.of_left (intBits_le_64 (by lia) (by lia))
        k_steps
        rename Fr _ _ _ _ => FS
        rename News _ _ _ _ => NS
        refine hQ _ _ ?_
        refine lend (nx := (L' + 1, o) :: rest) FS NS (fun p hp => .tail _ (hsb _ (by walk_at "mem"))) (fun p hp => .tail _ (hsb _ ?_)) (.cons hci ho) ⟨o, _, rest, rfl, hd2, hoc2, rfl, by rfl, _, by rw [hst]; rfl⟩
        rcases List.mem_cons.mp hp with rfl | hp
        · walk_at "mem"
        · walk_at "mem"
    · intro m1' nx h2 tk2 hp1_ F2 N2
      refine hideG fun Gd hGd => ?_
      obtain ⟨o, v0, rest, rfl, _, _, rfl, hmr, tf, hmf⟩ := hp1_
      refine hGd ?_
      clear hGd Gd
      replace F2 := fr_ov F2 (Kn.all (ps := [("found", .int ((List.range us0.length).foldl (fun f at_ => f + r.getD at_ 0 * permN n (rs.map (·.eraseIdx at_))) 0) tf)]) ⟨hmf, trivial⟩)
      k_steps
      refine hQ1 _ _ ?_
      (try dsimp only)
      k_steps
      rename News _ _ _ _ => kN
      refine hret _ _ _ _ (by assumption) (nsub kN fun p hp => .tail _ hp) ⟨rfl, tf, ?_⟩
      rw [hul]
      rfl
end
-- part: RetC
section
open LCg (NsObj lst lst_snoc)
section
variable {prog : Program} {w : World} {A : Around} {E : Value → Shared → Prop} {h₀ : Heap} {L : Addr} {m : Str → Option Value} {news : Led}
theorem st_cellU {s : Shared} {a : Addr} {cn : Str} {cs : Scope} {ccd : Value} {cl : List (Str × Addr)} {x : Str} {v : Value} {Q : Unit → Shared → Prop} {c : Addr} {o : Obj} {v₀ : Option Value} (F : Fr h₀ L s.heap m) (N : News h₀ L s.heap news) (hm : (c, o) ∈ news)
    (hc : cl.lookup x = some c) (hd : o.data = .cell v₀)
    (h : ∀ h' o', Fr h₀ L h' m → News h₀ L h' (upd c o' news) → o'.data = .cell (some v) → Q () { s with heap := h' })
    (hk : cs.kind = .function) (hx : (envX cn cs L a ccd cl).kindOf x = some .cell) : wpAny (model prog w) A (storeName (envX cn cs L a ccd cl) x v) Q E s := by
  refine st_cell (rest := news.filter fun p => decide (p.1 ≠ c)) F (fun p hp => ?_) (fun p hp => by simpa using (List.mem_filter.mp hp).2) hc hd (fun h' o' F' N' hd' => h h' o' F' (fun p hp => N' p ?_) hd') hk hx
  · rcases List.mem_cons.mp hp with rfl | hp
    · exact N _ hm
    · exact N p (List.mem_filter.mp hp).1
  · rcases of_mem_upd hp with rfl | ⟨h1, h2⟩
    · exact .head _
    · exact .tail _ (List.mem_filter.mpr ⟨h1, by simpa using h2⟩)
theorem ret_AC {hpp : Heap} {tk0 : Nat} {g dr os} {J : List Value → Led → Prop} {Q1 : Shared → Prop} {y : Str} {py : Pos} {a c : Addr} {cn : Str} {cs : Scope} {ccd : Value} {cl : List (Str × Addr)} (hc : cl.lookup y = some c) (hk : cs.kind = .function) (hy : (envX cn cs L a ccd cl).kindOf y = some .cell)
    (hJc : ∀ ys nx, J ys nx → ∃ o v₀, (c, o) ∈ nx ∧ o.data = .cell v₀)
    (fin : ∀ D ys nx h tk o', (∀ p ∈ news, p.1 < D) → J ys nx → Fr h₀ L h m → o'.data = .cell (some (.ref D)) → News h₀ L h (upd c o' ((D, lst ys) :: nx)) → Off [(D, lst ys)] nx → Q1 ⟨h, g, dr, tk, os⟩) :
    CRet h₀ L m news J (compPost (model prog w) A E (some (assign (.Name y py) (envX cn cs L a ccd cl))) fun _ s' => Q1 s') ⟨hpp, g, dr, tk0, os⟩ := by
  intro D C h tk m' ys nx hf hJ F N o hn hCL hC₀ hCD hCn
  show wpAny _ A (assign (.Name y py) (envX cn cs L a ccd cl) (.ref D)) _ _ _
  refine hideG fun Gd hGd => ?_
  obtain ⟨oC, heC, hoC⟩ := LCg.ns_obj hn
  obtain ⟨oc, v₀, hm, hd⟩ := hJc ys nx hJ
  refine hGd ?_
  clear hGd Gd
  have hcC : c ≠ C := hCn _ hm
  have N2 : News h₀ L h ((C, oC) :: (D, lst ys) :: nx) := fun p hp => by
    rcases List.mem_cons.mp hp with rfl | hp
    · exact ⟨heC, hCL, hC₀⟩
    · exact N p hp
  refine wpAny_assign_Name (st_cellU F N2 (.tail _ (.tail _ hm)) hc hd (fun h₂ o' F₂ N₃ hd' => ?_) hk hy)
  have hC2 := (N₃ (C, oC) (mem_upd_ne (.head _) (Ne.symm hcC))).1
  refine ⟨m', hoC.ns hC2, fun h'' hs'' => fin D ys nx h'' _ o' hf hJ (F₂.change hs'' hCL hC₀) hd' (fun p hp => ?_) o⟩
  have hp' : p ∈ upd c o' ((C, oC) :: (D, lst ys) :: nx) ∧ p.1 ≠ C := by
    rcases of_mem_upd hp with rfl | ⟨h1, h2⟩
    · exact ⟨mem_upd_self (.tail _ (.tail _ hm)), hcC⟩
    · refine ⟨mem_upd_ne (.tail _ h1) h2, ?_⟩
      rcases List.mem_cons.mp h1 with rfl | h1
      · exact Ne.symm hCD
      · exact hCn p h1
  have z := N₃ p hp'.1
  exact ⟨hs''.extBut _ _ hp'.2 z.1, z.2⟩
end
end
-- part: LawD
section
theorem draw_rng (ce : List Int) (s : Nat) {m : Int} (hm : 0 < m) : 0 ≤ drawP ce s m ∧ drawP ce s m < m := ⟨Int.emod_nonneg _ (by lia), Int.emod_lt_of_pos _ hm⟩
theorem lawN_rng (ce : List Int) : 2 ≤ lawN ce ∧ lawN ce ≤ 4 := by
  obtain ⟨h0, h3⟩ := draw_rng ce 1 (m := 3) (by decide)
  unfold lawN
  generalize drawP ce 1 3 = d at h0 h3
  have : d = 0 ∨ d = 1 ∨ d = 2 := by lia
  rcases this with rfl | rfl | rfl <;> decide
theorem lawX_rng {ce : List Int} {x : Int} (h : x ∈ lawX ce) : -4 ≤ x ∧ x ≤ 6 ∧ (drawP ce 0 2 = 1 → x % 2 = 0) ∧ (drawP ce 0 2 ≠ 1 → 0 ≤ x) := by
  have hn := lawN_rng ce
  unfold lawX at h
  split at h
  · rename_i hd
    obtain ⟨i, hi, rfl⟩ := List.mem_map.mp h
    have := draw_rng ce (2 + i) (m := 6) (by decide)
    exact ⟨by lia, by lia, fun _ => by lia, fun h => absurd hd h⟩
  · rename_i hd
    obtain ⟨i, hi, rfl⟩ := List.mem_map.mp h
    have := draw_rng ce 2 (m := 4) (by decide)
    rw [List.mem_range] at hi
    exact ⟨by lia, by lia, fun h => absurd h hd, fun _ => by lia⟩
theorem lawY_rng {ce : List Int} {y : Int} (h : y ∈ lawY ce) : -5 ≤ y ∧ y ≤ 6 ∧ (drawP ce 0 2 = 1 → y % 2 = 1) ∧ (drawP ce 0 2 ≠ 1 → 1 ≤ y) := by
  have hn := lawN_rng ce
  unfold lawY at h
  split at h
  · rename_i hd
    obtain ⟨i, hi, rfl⟩ := List.mem_map.mp h
    have := draw_rng ce (2 + lawN ce + i) (m := 6) (by decide)
    exact ⟨by lia, by lia, fun _ => by lia, fun h => absurd hd h⟩
  · rename_i hd
    obtain ⟨i, hi, rfl⟩ := List.mem_map.mp h
    have := draw_rng ce 3 (m := 3) (by decide)
    rw [List.mem_range] at hi
    exact ⟨by lia, by lia, fun h => absurd h hd, fun _ => by lia⟩
theorem law_ne {ce : List Int} {x y : Int} (hx : x ∈ lawX ce) (hy : y ∈ lawY ce) : x + y ≠ 0 := by
  obtain ⟨_, _, h1, h2⟩ := lawX_rng hx
  obtain ⟨_, _, h3, h4⟩ := lawY_rng hy
  by_cases hd : drawP ce 0 2 = 1
  · have := h1 hd
    have := h3 hd
    lia
  · have := h2 hd
    have := h4 hd
    lia
theorem lawX_len (ce : List Int) : (lawX ce).length = lawN ce := by unfold lawX; split <;> simp
theorem lawY_len (ce : List Int) : (lawY ce).length = lawN ce := by unfold lawY; split <;> simp
theorem one_pos {s : Int} (h : 0 < s) : (Rat.divInt 1 s).num = 1 ∧ ((Rat.divInt 1 s).den : Int) = s := by
  obtain ⟨h1, h2⟩ := rat_pos (x := 1) h
  rw [Int.one_gcd] at h1 h2
  exact ⟨by rw [← h1]; simp, by rw [← h2]; simp⟩
theorem one_neg {s : Int} (h : s < 0) : (Rat.divInt 1 s).num = -1 ∧ ((Rat.divInt 1 s).den : Int) = -s := by
  obtain ⟨h1, h2⟩ := rat_neg (x := 1) h
  rw [Int.one_gcd] at h1 h2
  refine ⟨by rw [← h1]; decide, ?_⟩
  rw [← h2]
  show s.fdiv (0 - 1) = -s
  rw [show (0 - 1 : Int) = -1 by decide, Int.fdiv_eq_ediv_of_dvd (by exact ⟨-s, by lia⟩)]
  lia
end
-- part: LawB
section
/-! bounds of what the law reckons -/
theorem fold_lt {d : Int → Int} {c : Nat} : ∀ (l : List Int) (f : Int) (b : Nat), f.natAbs < 2 ^ b → (∀ e ∈ l, (d e).natAbs < 2 ^ c) → (l.foldl (fun g e => g * d e) f).natAbs < 2 ^ (b + c * l.length)
  | [], _, _, h, _ => h
  | e :: l, f, b, h, hd => by
    have := fold_lt l (f * d e) (b + c) (by rw [Int.natAbs_mul]; exact mul_lt h (hd e (.head _))) fun e he => hd e (.tail _ he)
    rw [List.length_cons, Nat.mul_succ, show b + (c * l.length + c) = b + c + c * l.length by lia]
    exact this
theorem xb {ce : List Int} {x : Int} (h : x ∈ lawX ce) : x.natAbs < 1000 := by have := lawX_rng h; lia
theorem yb {ce : List Int} {x : Int} (h : x ∈ lawY ce) : x.natAbs < 1000 := by have := lawY_rng h; lia
theorem fold_ltN {g : Int → Nat → Int} {c : Nat} : ∀ (l : List Nat) (f : Int) (b : Nat), f.natAbs < 2 ^ b → (∀ f b, ∀ e ∈ l, f.natAbs < 2 ^ b → (g f e).natAbs < 2 ^ (b + c)) → (l.foldl g f).natAbs < 2 ^ (b + c * l.length)
  | [], _, _, h, _ => h
  | e :: l, f, b, h, hd => by
    have := fold_ltN l (g f e) (b + c) (hd f b e (.head _) h) fun f b e he => hd f b e (.tail _ he)
    rw [List.length_cons, Nat.mul_succ, show b + (c * l.length + c) = b + c + c * l.length by lia]
    exact this
theorem getD_abs {xs : List Int} {i : Nat} {B : Nat} (h : ∀ x ∈ xs, x.natAbs ≤ B) : (xs.getD i 0).natAbs ≤ B := by
  rw [List.getD_eq_getElem?_getD]
  cases e : xs[i]? with
  | none => exact Nat.zero_le _
  | some x => exact h x (List.mem_of_getElem? e)
theorem spread_lt {xs : List Int} (hl : xs.length ≤ 4) (h : ∀ x ∈ xs, x.natAbs ≤ 6) : (spreadP xs).natAbs < 2 ^ 65 := by
  have := fold_ltN (g := fun f at_ => (xs.take at_).foldl (fun g e => g * (xs.getD at_ 0 - e)) f) (c := 16) (List.range xs.length) 1 1 (by decide) fun f b e he hf => by
    have h2 := fold_lt (d := fun e2 => xs.getD e 0 - e2) (c := 4) (xs.take e) f b hf fun e2 he2 => by
      have h3 := getD_abs (i := e) h
      have h4 := h e2 (List.mem_of_mem_take he2)
      have h5 : (xs.getD e 0 - e2).natAbs ≤ (xs.getD e 0).natAbs + e2.natAbs := Int.natAbs_sub_le _ _
      show (xs.getD e 0 - e2).natAbs < 2 ^ 4
      lia
    exact Nat.lt_of_lt_of_le h2 (Nat.pow_le_pow_right (by decide) (by rw [List.length_take]; lia))
  refine Nat.lt_of_lt_of_le this (Nat.pow_le_pow_right (by decide) ?_)
  rw [List.length_range]; lia
theorem sums_lt {x : Int} {ys : List Int} (hl : ys.length ≤ 4) (hx : x.natAbs ≤ 6) (h : ∀ y ∈ ys, y.natAbs ≤ 6) : (sumsP x ys).natAbs < 2 ^ 17 := by
  have := fold_lt (d := fun o => x + o) (c := 4) ys 1 1 (by decide) fun e he => by
    have := h e he
    have h5 : (x + e).natAbs ≤ x.natAbs + e.natAbs := Int.natAbs_add_le _ _
    show (x + e).natAbs < 2 ^ 4
    lia
  exact Nat.lt_of_lt_of_le this (Nat.pow_le_pow_right (by decide) (by lia))
theorem apart_lt {xs : List Int} {i : Nat} (hl : xs.length ≤ 4) (h : ∀ x ∈ xs, x.natAbs ≤ 6) : (apartP xs i).natAbs < 2 ^ 17 := by
  have := fold_ltN (g := fun f spot => if spot = i then f else f * (xs.getD i 0 - xs.getD spot 0)) (c := 4) (List.range xs.length) 1 1 (by decide) fun f b e he hf => by
    split
    · exact Nat.lt_of_lt_of_le hf (Nat.pow_le_pow_right (by decide) (by lia))
    · rw [Int.natAbs_mul]
      refine mul_lt hf ?_
      have h3 := getD_abs (i := e) h
      have h4 := getD_abs (i := i) h
      have h5 : (xs.getD i 0 - xs.getD e 0).natAbs ≤ (xs.getD i 0).natAbs + (xs.getD e 0).natAbs := Int.natAbs_sub_le _ _
      show (xs.getD i 0 - xs.getD e 0).natAbs < 2 ^ 4
      lia
  refine Nat.lt_of_lt_of_le this (Nat.pow_le_pow_right (by decide) ?_)
  rw [List.length_range]; lia
theorem x6 {ce : List Int} {x : Int} (h : x ∈ lawX ce) : x.natAbs ≤ 6 := by have := lawX_rng h; lia
theorem y6 {ce : List Int} {x : Int} (h : x ∈ lawY ce) : x.natAbs ≤ 6 := by have := lawY_rng h; lia
theorem table_len (ce : List Int) : (tableP ce).length = lawN ce := by rw [tableP, List.length_map, lawX_len]
theorem table_row {ce : List Int} {r : List Rat} (h : r ∈ tableP ce) : r.length = lawN ce := by
  obtain ⟨x, _, rfl⟩ := List.mem_map.mp h
  rw [List.length_map, lawY_len]
theorem table_sz {ce : List Int} {r : List Rat} (h : r ∈ tableP ce) : ∀ q ∈ r, Sz 6 q := by
  obtain ⟨x, hx, rfl⟩ := List.mem_map.mp h
  intro q hq
  obtain ⟨y, hy, rfl⟩ := List.mem_map.mp hq
  have h1 := x6 hx
  have h2 := y6 hy
  have h5 : (x + y).natAbs ≤ x.natAbs + y.natAbs := Int.natAbs_add_le _ _
  exact sz_of (by decide) (by show (x + y).natAbs < 64; lia) (law_ne hx hy)
theorem whole_len (ce : List Int) : (wholeP (lawN ce) (lawX ce) (lawY ce)).length = lawN ce := by rw [wholeP, List.length_map, lawX_len]
theorem whole_row {ce : List Int} {r : List Int} (h : r ∈ wholeP (lawN ce) (lawX ce) (lawY ce)) : r.length = lawN ce := by
  obtain ⟨x, _, rfl⟩ := List.mem_map.mp h
  rw [wholeRow, List.length_map, List.length_range]
/-- below 2^11: three sums of one number -/
theorem whole_lt {ce : List Int} {r : List Int} (h : r ∈ wholeP (lawN ce) (lawX ce) (lawY ce)) : ∀ v ∈ r, v.natAbs < 2 ^ 11 := by
  obtain ⟨x, hx, rfl⟩ := List.mem_map.mp h
  intro v hv
  obtain ⟨i, hi, rfl⟩ := List.mem_map.mp hv
  rw [List.mem_range] at hi
  have hN := lawN_rng ce
  have hl := lawY_len ce
  have h1 := lawX_rng hx
  have key : ∀ (l : List Int) (f : Int) (b : Nat), f.natAbs ≤ 12 ^ b → (∀ e ∈ l, (x + e).natAbs ≤ 12) → (l.foldl (fun g e => g * (x + e)) f).natAbs ≤ 12 ^ (b + l.length) := by
    intro l
    induction l with
    | nil => exact fun f b h _ => h
    | cons e l ih =>
      intro f b h hd
      have := ih (f * (x + e)) (b + 1) (by rw [Int.natAbs_mul, Nat.pow_succ]; exact Nat.mul_le_mul h (hd e (.head _))) fun e he => hd e (.tail _ he)
      rw [List.length_cons, show b + (l.length + 1) = b + 1 + l.length by lia]
      exact this
  have := key ((lawY ce).take i ++ (lawY ce).drop (i + 1)) 1 0 (by decide) fun e he => by
    have he2 : e ∈ lawY ce := (List.mem_append.mp he).elim List.mem_of_mem_take List.mem_of_mem_drop
    have := lawY_rng he2
    lia
  have h3 : 0 + ((lawY ce).take i ++ (lawY ce).drop (i + 1)).length ≤ 3 := by
    rw [List.length_append, List.length_take, List.length_drop]; lia
  exact Nat.lt_of_le_of_lt (Nat.le_trans this (Nat.pow_le_pow_right (show 12 > 0 by decide) h3)) (show 12 ^ 3 < 2 ^ 11 by decide)
theorem sum_le {t : Nat → Int} {B : Nat} (h : ∀ i, (t i).natAbs ≤ B) : ∀ n, ((List.range n).foldl (fun f i => f + t i) 0).natAbs ≤ n * B
  | 0 => by simp
  | n + 1 => by
    rw [List.range_succ, List.foldl_append]
    have h1 := sum_le h n
    have h2 := h n
    have h3 := Int.natAbs_add_le ((List.range n).foldl (fun f i => f + t i) 0) (t n)
    show ((List.range n).foldl (fun f i => f + t i) 0 + t n).natAbs ≤ _
    rw [Nat.succ_mul]
    lia
theorem perm_lt : ∀ (k : Nat) (M : List (List Int)), (∀ r ∈ M, r.length ≤ 4) → (∀ r ∈ M, ∀ x ∈ r, x.natAbs < 2 ^ 11) → (permN k M).natAbs < 2 ^ (14 * k + 1)
  | 0, _, _, _ => by simp [permN]
  | k + 1, [], _, _ => by
    show (1 : Int).natAbs < _
    exact Nat.one_lt_two_pow (by lia)
  | k + 1, r :: rs, hl, hx => by
    have hB : ∀ i, (r.getD i 0 * permN k (rs.map (·.eraseIdx i))).natAbs ≤ 2 ^ (11 + (14 * k + 1)) := fun i => by
      rw [Int.natAbs_mul]
      refine Nat.le_of_lt (mul_lt ?_ (perm_lt k _ (fun r2 h2 => ?_) fun r2 h2 x hx2 => ?_))
      · rw [List.getD_eq_getElem?_getD]
        cases e : r[i]? with
        | none => exact Nat.two_pow_pos 11
        | some x => exact hx r (.head _) x (List.mem_of_getElem? e)
      · obtain ⟨r3, h3, rfl⟩ := List.mem_map.mp h2
        exact Nat.le_trans (List.length_eraseIdx_le _ _) (hl r3 (.tail _ h3))
      · obtain ⟨r3, h3, rfl⟩ := List.mem_map.mp h2
        exact hx r3 (.tail _ h3) x (List.mem_of_mem_eraseIdx hx2)
    have h1 := sum_le hB r.length
    have h2 := hl r (.head _)
    show ((List.range r.length).foldl (fun f at_ => f + r.getD at_ 0 * permN k (rs.map (·.eraseIdx at_))) 0).natAbs < _
    refine Nat.lt_of_le_of_lt h1 ?_
    have h3 : 2 ^ (14 * (k + 1) + 1) = 8 * 2 ^ (11 + (14 * k + 1)) := by
      rw [show 14 * (k + 1) + 1 = (11 + (14 * k + 1)) + 3 by lia, Nat.pow_add]; lia
    rw [h3]
    have h4 : 0 < 2 ^ (11 + (14 * k + 1)) := Nat.two_pow_pos _
    have h5 : r.length * 2 ^ (11 + (14 * k + 1)) ≤ 4 * 2 ^ (11 + (14 * k + 1)) := Nat.mul_le_mul_right _ h2
    lia
theorem lawS_lt (ce : List Int) : (lawS ce).natAbs < 2 ^ 130 := by
  have hN := lawN_rng ce
  rw [lawS, Int.natAbs_mul]
  exact mul_lt (spread_lt (by rw [lawX_len]; lia) fun _ h => x6 h) (spread_lt (by rw [lawY_len]; lia) fun _ h => y6 h)
theorem perm_mul (ce : List Int) : IntMulOk (lawS ce) (permN (lawN ce) (lawW ce)) := by
  have hN := lawN_rng ce
  exact mulOk_of (lawS_lt ce) (perm_lt _ _ (fun r h => by rw [whole_row h]; lia) fun r h => whole_lt h) (by decide) (by lia)
def Bdd (B : Nat) (tb : Int × Int) : Prop := tb.1.natAbs < 2 ^ B ∧ tb.2.natAbs < 2 ^ B
theorem step_bdd {B : Nat} {tb : Int × Int} {q : Rat} (h : Bdd B tb) (hq : Sz 1621 q) : Bdd (B + 1622) (stepQ tb q) := by
  obtain ⟨h1, h2⟩ := h
  obtain ⟨h3, h4⟩ := hq
  have e1 : (tb.1 * (q.den : Int)).natAbs < 2 ^ (B + 1621) := by rw [Int.natAbs_mul]; exact mul_lt h1 (by simpa using h4)
  have e2 : (q.num * tb.2).natAbs < 2 ^ (B + 1621) := by rw [Int.natAbs_mul, Nat.add_comm]; exact mul_lt h3 h2
  have e3 : (tb.2 * (q.den : Int)).natAbs < 2 ^ (B + 1621) := by rw [Int.natAbs_mul]; exact mul_lt h2 (by simpa using h4)
  have e4 := Int.natAbs_add_le (tb.1 * (q.den : Int)) (q.num * tb.2)
  have e5 : 2 ^ (B + 1622) = 2 ^ (B + 1621) * 2 := by rw [show B + 1622 = B + 1621 + 1 by lia, Nat.pow_succ]
  generalize 2 ^ (B + 1621) = Z at e1 e2 e3 e5
  refine ⟨?_, ?_⟩
  · show (tb.1 * (q.den : Int) + q.num * tb.2).natAbs < _
    lia
  · show (tb.2 * (q.den : Int)).natAbs < _
    lia
theorem row_bdd {B : Nat} {tb : Int × Int} {row : List Rat} (h : Bdd B tb) (hq : ∀ q ∈ row, Sz 1621 q) : ∀ j, j ≤ row.length → Bdd (B + 1622 * j) ((List.range j).foldl (fun tb s => stepQ tb (ent row s)) tb)
  | 0, _ => h
  | j + 1, hj => by
    rw [List.range_succ, List.foldl_append]
    exact step_bdd (row_bdd h hq j (by lia)) (hq _ (ent_mem (by lia)))
theorem all_bdd {n : Nat} {C : List (List Rat)} (hl : C.length = n) (hr : ∀ r ∈ C, r.length = n) (hq : ∀ r ∈ C, ∀ q ∈ r, Sz 1621 q) : ∀ i, i ≤ n → Bdd (1 + 1622 * (n * i)) ((List.range i).foldl (fun tb a => rowQ n tb (C.getD a [])) (0, 1))
  | 0, _ => ⟨Nat.two_pow_pos _, Nat.one_lt_two_pow (by lia)⟩
  | i + 1, hi => by
    rw [List.range_succ, List.foldl_append]
    have hm : C.getD i [] ∈ C := getD_mem (by lia)
    have := row_bdd (all_bdd hl hr hq i (by lia)) (hq _ hm) n (by rw [hr _ hm]; exact Nat.le_refl _)
    rw [show 1 + 1622 * (n * (i + 1)) = 1 + 1622 * (n * i) + 1622 * n by rw [Nat.mul_succ]; lia]
    exact this
theorem sum_abs : ∀ {l : List Int}, (∀ x ∈ l, x.natAbs ≤ 6) → l.sum.natAbs ≤ 6 * l.length
  | [], _ => by simp
  | x :: l, h => by
    have h1 := sum_abs (l := l) fun x hx => h x (.tail _ hx)
    have h2 := h x (.head _)
    rw [List.sum_cons, List.length_cons]
    have h3 := Int.natAbs_add_le x l.sum
    lia
theorem ints_are : ∀ {vs : List Value} {ns : List Int}, All2 IntIn vs ns → IntsAre vs ns
  | [], [], _ => .nil
  | _ :: _, _ :: _, ⟨⟨_, e⟩, h⟩ => by rw [e]; exact .cons _ _ (ints_are h)
  | [], _ :: _, h => h.elim
  | _ :: _, [], h => h.elim
end
-- part: PuC
section
theorem bstep_ent {M : List (List Int)} {n k r c : Nat} {ah : Int} (hl : M.length = n) (hc : ∀ x ∈ M, x.length = n) (h1 : k < r) (h2 : r < n) (h3 : k < c) (h4 : c < n) :
    entI (bstep M k ah) r c = (entI M r c * entI M k k - entI M r k * entI M k c).fdiv ah := by
  have hr : r < M.length := by lia
  have hrow : (M.getD r []) = M[r] := by rw [List.getD_eq_getElem?_getD, List.getElem?_eq_getElem hr]; rfl
  have hcl : c < (M[r]).length := by rw [hc _ (List.getElem_mem hr)]; exact h4
  have e : (bstep M k ah).getD r [] = (bRow (entI M k k) (M[r].getD k 0) ah (M.getD k []) M[r] k (M.length - (k + 1))).set k 0 := by
    simp only [bstep, bRows, List.getD_eq_getElem?_getD, List.getElem?_mapIdx, List.getElem?_eq_getElem hr, Option.map_some, Option.getD_some]
    rw [if_pos (by lia)]
  rw [entI, e]
  rw [List.getD_eq_getElem?_getD, List.getElem?_set, if_neg (by lia)]
  simp only [bRow, List.getElem?_mapIdx, List.getElem?_eq_getElem hcl, Option.map_some, Option.getD_some]
  rw [if_pos (by lia)]
  have e2 : entI M r c = M[r][c] := by rw [entI, hrow, List.getD_eq_getElem?_getD, List.getElem?_eq_getElem hcl]; rfl
  have e3 : entI M r k = M[r].getD k 0 := by rw [entI, hrow]
  rw [e2, e3]
  rfl
theorem swp_ent {F : List (List Int)} {k p r c : Nat} (hk : k < F.length) (hp : p < F.length) : entI (swp F p k) r c = entI F (sw k p r) c := by
  unfold swp
  by_cases e : p = k
  · rw [if_pos e]; subst e
    have : sw p p r = r := by unfold sw; split <;> (try split) <;> simp_all
    rw [this]
  · rw [if_neg e]
    simp only [entI, List.getD_eq_getElem?_getD]
    rw [swapL_get hp hk]
    have : (if r = k then p else if r = p then k else r) = sw k p r := by
      unfold sw
      split <;> split <;> (try split) <;> lia
    rw [this]
structure BInv (n k : Nat) (D : Int) (a : Nat → Nat → Int) (st : DSt) : Prop where
  rows : st.1.length = n
  cols : ∀ r ∈ st.1, r.length = n
  ents : ∀ r c, k ≤ r → r < n → k ≤ c → c < n → entI st.1 r c = mk a (k + 1) r c
  ah : st.2.2 = ld a k
  ah0 : ld a k ≠ 0
  sg : D = st.2.1 * ld a n
theorem b_step {n k p : Nat} {D : Int} {a : Nat → Nat → Int} {F : List (List Int)} {sg ah : Int} (I : BInv n k D a (F, sg, ah)) (hn : n ≤ 4) (hk : k < n) (h : pivP F k = some p) :
    BInv n (k + 1) D (swA k p a) (bstep (swp F p k) k ah, if p = k then sg else -sg, entI (bstep (swp F p k) k ah) k k) := by
  refine hideG fun Gd hGd => ?_
  obtain ⟨h1, h2, h3⟩ := piv_spec h
  refine hGd ?_
  clear hGd Gd
  have hrl : F.length = n := I.rows
  have hpn : p < n := by lia
  have hah : ah = ld a k := I.ah
  have he : entI (bstep (swp F p k) k ah) k k = entI F p k := by rw [entI, bstep, bRows_get (by lia), swp_get (by lia)]; rfl
  have hpv : entI F p k = mk a (k + 1) p k := I.ents p k h1 hpn (Nat.le_refl _) hk
  have hlead : ld (swA k p a) (k + 1) = entI F p k := by
    rw [hpv, ld, Nat.add_sub_cancel, mk_sw h1 (by lia)]
    congr 1
    unfold sw; split <;> simp_all
  have hsl : (swp F p k).length = n := by rw [swp_length, hrl]
  have hsc : ∀ r ∈ swp F p k, r.length = n := fun r hr => I.cols r (swp_mem h2 (by rw [hrl]; exact hk) r hr)
  have hswr : ∀ r, k ≤ r → r < n → k ≤ sw k p r ∧ sw k p r < n := fun r hr hr2 => by unfold sw; split <;> (try split) <;> lia
  have hse : ∀ r c, k ≤ r → r < n → k ≤ c → c < n → entI (swp F p k) r c = mk (swA k p a) (k + 1) r c := fun r c q1 q2 q3 q4 => by
    rw [swp_ent (by lia) (by lia), mk_sw h1 (by lia), I.ents _ c (hswr r q1 q2).1 (hswr r q1 q2).2 q3 q4]
  refine ⟨by rw [bstep, bRows_length, hsl], bstep_cols hsc, fun r c q1 q2 q3 q4 => ?_, by rw [hlead]; exact he, by rw [hlead]; exact h3, ?_⟩
  · show entI (bstep (swp F p k) k ah) r c = _
    rw [bstep_ent hsl hsc (by lia) q2 (by lia) q4, hse r c (by lia) q2 (by lia) q4, hse k k (Nat.le_refl _) hk (Nat.le_refl _) hk, hse r k (by lia) q2 (Nat.le_refl _) hk, hse k c (Nat.le_refl _) hk (by lia) q4]
    rw [syl _ (by lia), ld_swlow h1 (by lia), ← hah, Int.mul_fdiv_cancel_left _ (by rw [hah]; exact I.ah0)]
  · have e := I.sg
    dsimp only at e ⊢
    by_cases q : p = k
    · rw [if_pos q]
      have : swA k p a = a := by
        funext r c
        subst q
        unfold swA sw; split <;> (try split) <;> simp_all
      rw [this]; exact e
    · rw [if_neg q, ld_sw hn (by lia) hpn, Int.neg_mul_neg]; exact e
theorem fold_split (M : List (List Int)) (k : Nat) : (List.range (k + 1)).foldl detStep (some (M, 1, 1)) = detStep ((List.range k).foldl detStep (some (M, 1, 1))) k := by
  rw [List.range_succ, List.foldl_append]; rfl
theorem b_fold {n : Nat} {M : List (List Int)} (hn : n ≤ 4) (hn2 : 2 ≤ n) (hl : M.length = n) (hc : ∀ r ∈ M, r.length = n) : ∀ k, k ≤ n →
    (∃ a F sg ah, (List.range k).foldl detStep (some (M, 1, 1)) = some (F, sg, ah) ∧ BInv n k (ld (entI M) n) a (F, sg, ah)) ∨ ((List.range k).foldl detStep (some (M, 1, 1)) = none ∧ ld (entI M) n = 0)
  | 0, _ => .inl ⟨entI M, M, 1, 1, rfl, hl, hc, fun _ _ _ _ _ _ => rfl, rfl, by simp [ld, mk], by rw [Int.one_mul]⟩
  | k + 1, h => by
    rw [fold_split]
    rcases b_fold hn hn2 hl hc k (by lia) with ⟨a, F, sg, ah, e, I⟩ | ⟨e, h0⟩
    · rw [e]
      cases hp : pivP F k with
      | some p => exact .inl ⟨_, _, _, _, detStep_some hp, b_step I hn (by lia) hp⟩
      | none =>
        refine .inr ⟨detStep_none hp, ?_⟩
        rw [I.sg]
        have hz : ld a n = 0 := ld_zero hn hn2 (show k < n by lia) I.ah0 fun r h1 h2 => by
          have e2 := List.find?_eq_none.mp hp r (by rw [List.mem_range'_1]; have := I.rows; dsimp only at this; lia)
          have e3 : entI F r k = mk a (k + 1) r k := I.ents r k h1 h2 (Nat.le_refl _) (by lia)
          rw [← e3]
          simpa using e2
        rw [hz, Int.mul_zero]
    · rw [e]; exact .inr ⟨rfl, h0⟩
/-- the program's determinant is the determinant -/
theorem det_ld {n : Nat} {M : List (List Int)} (hn : n ≤ 4) (hn2 : 2 ≤ n) (hl : M.length = n) (hc : ∀ r ∈ M, r.length = n) : detP M = ld (entI M) n := by
  unfold detP
  rw [hl]
  rcases b_fold hn hn2 hl hc n (Nat.le_refl _) with ⟨a, F, sg, ah, e, I⟩ | ⟨e, h0⟩
  · rw [e]
    have h1 := I.sg
    have h2 := I.ah
    dsimp only at h1 h2 ⊢
    rw [h2, ← h1]
  · rw [e, h0]
end
-- part: PuG
section
/-! Gauss and Jordan keep the kernel -/
def sumN : Nat → (Nat → Rat) → Rat
  | 0, _ => 0
  | n + 1, f => sumN n f + f n
theorem sumN_congr {f g : Nat → Rat} : ∀ {n : Nat}, (∀ i, i < n → f i = g i) → sumN n f = sumN n g
  | 0, _ => rfl
  | n + 1, h => by rw [sumN, sumN, sumN_congr fun i hi => h i (by lia), h n (by lia)]
theorem sumN_add (f g : Nat → Rat) : ∀ n : Nat, sumN n (fun i => f i + g i) = sumN n f + sumN n g
  | 0 => by simp only [sumN]; grind
  | n + 1 => by simp only [sumN, sumN_add f g n]; grind
theorem sumN_mul (q : Rat) (f : Nat → Rat) : ∀ n : Nat, sumN n (fun i => q * f i) = q * sumN n f
  | 0 => by simp only [sumN]; grind
  | n + 1 => by simp only [sumN, sumN_mul q f n]; grind
theorem sumN_zero {f : Nat → Rat} {n : Nat} (h : ∀ i, i < n → f i = 0) : sumN n f = 0 := by
  rw [sumN_congr (g := fun _ => 0) h]
  clear h
  induction n with
  | zero => rfl
  | succ n ih => rw [sumN, ih]; grind
theorem sumN_split (f : Nat → Rat) (a : Nat) : ∀ b : Nat, sumN (a + b) f = sumN a f + sumN b (fun i => f (a + i))
  | 0 => by simp only [sumN, Nat.add_zero]; grind
  | b + 1 => by rw [← Nat.add_assoc, sumN, sumN, sumN_split f a b]; grind
theorem sumN_one {n k : Nat} {f : Nat → Rat} (hk : k < n) (h : ∀ i, i < n → i ≠ k → f i = 0) : sumN n f = f k := by
  induction n with
  | zero => lia
  | succ n ih =>
    rw [sumN]
    by_cases e : k = n
    · subst e
      rw [sumN_zero fun i hi => h i (by lia) (by lia)]; grind
    · rw [ih (by lia) fun i hi => h i (by lia), h n (by lia) (by lia)]; grind
theorem sumN_swap (f : Nat → Nat → Rat) (a : Nat) : ∀ b : Nat, sumN a (fun i => sumN b fun j => f i j) = sumN b fun j => sumN a fun i => f i j
  | 0 => sumN_zero fun _ _ => rfl
  | b + 1 => by
    rw [sumN, ← sumN_swap f a b, ← sumN_add]
    rfl
/-- a row upon a vector -/
def dot (n : Nat) (r : List Rat) (z : Nat → Rat) : Rat := sumN n fun i => ent r i * z i
theorem ent_map {r : List Rat} {f : Rat → Rat} {i : Nat} (h : i < r.length) : ent (r.map f) i = f (ent r i) := by
  simp only [ent, List.getD_eq_getElem?_getD, List.getElem?_map, List.getElem?_eq_getElem h, Option.map_some, Option.getD_some]
theorem ent_elim {pr row : List Rat} {c j : Nat} (h1 : j < row.length) (h2 : j < pr.length) : ent (elim pr c row) j = ent row j - ent row c * ent pr j := by
  unfold elim
  split
  · rename_i h; rw [h]; grind
  · simp only [ent, List.getD_eq_getElem?_getD, List.getElem?_zipWith, List.getElem?_eq_getElem h1, List.getElem?_eq_getElem h2, Option.getD_some]
theorem dot_div {n : Nat} {r : List Rat} {p : Rat} {z : Nat → Rat} (h : n ≤ r.length) : dot n (r.map (· / p)) z = p⁻¹ * dot n r z := by
  unfold dot
  rw [← sumN_mul]
  exact sumN_congr fun i hi => by rw [ent_map (by lia), Rat.div_def]; grind
theorem dot_elim {n : Nat} {pr row : List Rat} {c : Nat} {z : Nat → Rat} (h1 : n ≤ row.length) (h2 : n ≤ pr.length) : dot n (elim pr c row) z = dot n row z - ent row c * dot n pr z := by
  have e : dot n (elim pr c row) z = sumN n (fun i => ent row i * z i + (-ent row c) * (ent pr i * z i)) := sumN_congr fun i hi => by rw [ent_elim (by lia) (by lia)]; grind
  rw [e, sumN_add, sumN_mul, dot, dot]; grind
def Ker (nr nc : Nat) (M : List (List Rat)) (z : Nat → Rat) : Prop := ∀ o, o < nr → dot nc (M.getD o []) z = 0

theorem swap_row {M : List (List Rat)} {i j o : Nat} (hi : i < M.length) (hj : j < M.length) : (swapL M [] i j).getD o [] = M.getD (if o = j then i else if o = i then j else o) [] := by
  rw [List.getD_eq_getElem?_getD, swapL_get hi hj, ← List.getD_eq_getElem?_getD]
/-- the rows behind a step with a pivot -/
structure StepR (nr nc r p c : Nat) (M M' : List (List Rat)) : Prop where
  hr : r < nr
  hp : p < nr
  rp : r ≤ p
  lead : ent (M.getD p []) c ≠ 0
  prow : M'.getD r [] = (M.getD p []).map (· / ent (M.getD p []) c)
  rest : ∀ o, o < nr → o ≠ r → M'.getD o [] = elim (M'.getD r []) c (M.getD (if o = p then r else o) [])
theorem step_rows {nr nc c p : Nat} {t : List Nat} {st : List (List Rat) × List Nat} (I : EInv nr nc st) (hc : c < nc) (he : spots st.1 st.2.length c = p :: t) :
    StepR nr nc st.2.length p c st.1 (stepM st c).1 ∧ (stepM st c).2 = st.2 ++ [c] := by
  have hp : p ∈ spots st.1 st.2.length c := by rw [he]; exact .head _
  have D := mid_of I hc hp
  refine hideG fun Gd hGd => ?_
  obtain ⟨q1, q2, q3⟩ := spots_mem hp
  obtain ⟨h1, h2, h3, h4, h5⟩ := swap_sz I hp
  refine hGd ?_
  clear hGd Gd
  have hst : stepM st c = (elimAll ((swapL st.1 [] st.2.length p).set st.2.length (pivotRow (swapL st.1 [] st.2.length p) st.2.length c)) st.2.length c ((swapL st.1 [] st.2.length p).set st.2.length (pivotRow (swapL st.1 [] st.2.length p) st.2.length c)).length, st.2 ++ [c]) := by
    unfold stepM; rw [he]
  rw [hst]
  refine ⟨?_, rfl⟩
  have hpr : ((swapL st.1 [] st.2.length p).set st.2.length (pivotRow (swapL st.1 [] st.2.length p) st.2.length c)).getD st.2.length [] = (st.1.getD p []).map (· / ent (st.1.getD p []) c) := by
    rw [List.getD_eq_getElem?_getD, List.getElem?_set, if_pos rfl, if_pos (by lia), Option.getD_some, pivotRow, h5]
  have hother : ∀ o, o ≠ st.2.length → ((swapL st.1 [] st.2.length p).set st.2.length (pivotRow (swapL st.1 [] st.2.length p) st.2.length c)).getD o [] = st.1.getD (if o = p then st.2.length else o) [] := fun o ho => by
    rw [List.getD_eq_getElem?_getD, List.getElem?_set, if_neg (Ne.symm ho), ← List.getD_eq_getElem?_getD, swap_row (by lia) (by lia)]
    by_cases e : o = p
    · rw [if_pos e, if_pos e]
    · rw [if_neg e, if_neg e, if_neg ho]
  have hr2 : (elimAll ((swapL st.1 [] st.2.length p).set st.2.length (pivotRow (swapL st.1 [] st.2.length p) st.2.length c)) st.2.length c ((swapL st.1 [] st.2.length p).set st.2.length (pivotRow (swapL st.1 [] st.2.length p) st.2.length c)).length).getD st.2.length [] = (st.1.getD p []).map (· / ent (st.1.getD p []) c) := by
    rw [elimAll_get (by rw [D.rows]; exact h1), if_neg (by lia), hpr]
  refine ⟨h1, h2, q1, q3, hr2, fun o ho hor => ?_⟩
  dsimp only
  rw [hr2, elimAll_get (by rw [D.rows]; exact ho), if_pos ⟨by rw [D.rows]; exact ho, hor⟩, hpr, hother o hor]
theorem row_len {nr nc o : Nat} {st : List (List Rat) × List Nat} (I : EInv nr nc st) (h : o < nr) : (st.1.getD o []).length = nc := I.cols _ (getD_mem (by rw [I.rows]; exact h))
theorem step_ker {nr nc c p : Nat} {t : List Nat} {st : List (List Rat) × List Nat} {z : Nat → Rat} (I : EInv nr nc st) (hc : c < nc) (he : spots st.1 st.2.length c = p :: t) :
    Ker nr nc (stepM st c).1 z ↔ Ker nr nc st.1 z := by
  refine hideG fun Gd hGd => ?_
  obtain ⟨S, _⟩ := step_rows I hc he
  refine hGd ?_
  clear hGd Gd
  have hl : ∀ o, o < nr → nc ≤ (st.1.getD o []).length := fun o h => by rw [row_len I h]; exact Nat.le_refl _
  have e1 : dot nc ((stepM st c).1.getD st.2.length []) z = (ent (st.1.getD p []) c)⁻¹ * dot nc (st.1.getD p []) z := by
    rw [S.prow, dot_div (hl p S.hp)]
  have e2 : ∀ o, o < nr → o ≠ st.2.length → dot nc ((stepM st c).1.getD o []) z = dot nc (st.1.getD (if o = p then st.2.length else o) []) z - ent (st.1.getD (if o = p then st.2.length else o) []) c * dot nc ((stepM st c).1.getD st.2.length []) z := fun o ho hor => by
    rw [S.rest o ho hor, dot_elim (hl _ (by have := S.hr; split <;> lia))]
    rw [S.prow, List.length_map]; exact hl p S.hp
  constructor
  · intro K o ho
    have k1 := K _ S.hr
    rw [e1] at k1
    have kp : dot nc (st.1.getD p []) z = 0 := by
      have h := Rat.mul_inv_cancel _ S.lead
      rcases Rat.mul_eq_zero.mp k1 with h2 | h2
      · rw [h2, Rat.mul_zero] at h; exact absurd h (by decide)
      · exact h2
    by_cases hop : o = p
    · rw [hop]; exact kp
    · have hq : ∃ q, q < nr ∧ q ≠ st.2.length ∧ (if q = p then st.2.length else q) = o := by
        by_cases hor : o = st.2.length
        · exact ⟨p, S.hp, by lia, by rw [if_pos rfl]; exact hor.symm⟩
        · exact ⟨o, ho, hor, if_neg hop⟩
      refine hideG fun Gd hGd => ?_
      obtain ⟨q, hq1, hq2, hq3⟩ := hq
      refine hGd ?_
      clear hGd Gd
      have k2 := K q hq1
      rw [e2 q hq1 hq2, hq3, K _ S.hr] at k2
      grind
  · intro K o ho
    by_cases hor : o = st.2.length
    · rw [hor, e1, K p S.hp]; grind
    · rw [e2 o ho hor, e1, K p S.hp, K _ (by have := S.hr; split <;> lia)]; grind
/-- the columns below k are those of one -/
def UCols (nr : Nat) (M : List (List Rat)) (k : Nat) : Prop := ∀ o, o < nr → ∀ j, j < k → ent (M.getD o []) j = if o = j then 1 else 0
theorem step_ucols {nr nc k p : Nat} {t : List Nat} {st : List (List Rat) × List Nat} (I : EInv nr nc st) (hc : k < nc) (hs : st.2 = List.range k) (he : spots st.1 st.2.length k = p :: t) (U : UCols nr st.1 k) :
    UCols nr (stepM st k).1 (k + 1) ∧ (stepM st k).2 = List.range (k + 1) := by
  refine hideG fun Gd hGd => ?_
  obtain ⟨S, S2⟩ := step_rows I hc he
  refine hGd ?_
  clear hGd Gd
  have hk : st.2.length = k := by rw [hs, List.length_range]
  refine ⟨fun o ho j hj => ?_, by rw [S2, hs, List.range_succ]⟩
  rw [hk] at S
  have hl : ∀ o, o < nr → (st.1.getD o []).length = nc := fun o h => row_len I h
  have hprow : ∀ j, j < k + 1 → ent ((stepM st k).1.getD k []) j = if k = j then 1 else 0 := fun j hj => by
    rw [S.prow, ent_map (by rw [hl p S.hp]; lia)]
    by_cases e : k = j
    · subst e; rw [if_pos rfl]; exact Rat.mul_inv_cancel _ S.lead
    · rw [if_neg e, U p S.hp j (by lia), if_neg (by have := S.rp; lia)]; grind
  by_cases hok : o = k
  · rw [hok]; exact hprow j hj
  · have hq : (if o = p then k else o) < nr := by have := S.hr; split <;> lia
    rw [S.rest o ho hok, ent_elim (by rw [hl _ hq]; lia) (by rw [S.prow, List.length_map, hl p S.hp]; lia), hprow j hj]
    by_cases e : k = j
    · subst e; rw [if_pos rfl, if_neg hok]; grind
    · rw [if_neg e, U _ hq j (by lia)]
      have hrp := S.rp
      have h3 : ((if o = p then k else o) = j) ↔ (o = j) := by split <;> lia
      simp only [h3]
      grind
theorem step_none {c : Nat} {st : List (List Rat) × List Nat} (he : spots st.1 st.2.length c = []) : stepM st c = st := by
  unfold stepM; rw [he]
end
-- part: PuH
section
/-! the program's inverse: the inverse, or a vector that the table sends to 0 -/
section
variable {W : List (List Rat)} {n nc : Nat}
abbrev gj (W : List (List Rat)) (k : Nat) : List (List Rat) × List Nat := (List.range k).foldl stepM (W, [])
theorem gj_succ (k : Nat) : gj W (k + 1) = stepM (gj W k) k := by
  unfold gj
  rw [List.range_succ, List.foldl_append]; rfl
theorem gj_ker (hl : W.length = n) (hr : ∀ r ∈ W, r.length = nc) (hs : ∀ r ∈ W, ∀ x ∈ r, Sz 6 x) {z : Nat → Rat} : ∀ k, k ≤ nc → (Ker n nc (gj W k).1 z ↔ Ker n nc W z)
  | 0, _ => Iff.rfl
  | k + 1, h => by
    rw [← gj_ker hl hr hs k (by lia), gj_succ]
    cases he : spots (gj W k).1 (gj W k).2.length k with
    | nil => rw [step_none he]
    | cons p t => exact step_ker (ech_inv hl hr hs k (by lia)) (by lia) he
def FullAt (W : List (List Rat)) (n k : Nat) : Prop := (gj W k).2 = List.range k ∧ UCols n (gj W k).1 k
theorem gj_pref (hl : W.length = n) (hr : ∀ r ∈ W, r.length = nc) (hs : ∀ r ∈ W, ∀ x ∈ r, Sz 6 x) : ∀ k, k ≤ nc → FullAt W n k ∨ ∃ c, c < k ∧ FullAt W n c ∧ spots (gj W c).1 c c = []
  | 0, _ => .inl ⟨rfl, fun _ _ j hj => absurd hj (by lia)⟩
  | k + 1, h => by
    rcases gj_pref hl hr hs k (by lia) with F | ⟨c, hc, F, e⟩
    · have hlen : (gj W k).2.length = k := by rw [F.1, List.length_range]
      cases he : spots (gj W k).1 k k with
      | nil => exact .inr ⟨k, by lia, F, he⟩
      | cons p t =>
        have := step_ucols (ech_inv hl hr hs k (by lia)) (by lia) F.1 (by rw [hlen]; exact he) F.2
        rw [← gj_succ] at this
        exact .inl ⟨this.2, this.1⟩
    · exact .inr ⟨c, by lia, F, e⟩
theorem gj_piv_mem (k : Nat) : ∀ c ∈ (gj W (k + 1)).2, c ∈ (gj W k).2 ∨ c = k := by
  intro c hc
  rw [gj_succ] at hc
  unfold stepM at hc
  split at hc
  · exact .inl hc
  · rcases List.mem_append.mp hc with h | h
    · exact .inl h
    · exact .inr (List.mem_singleton.mp h)
theorem gj_no {c : Nat} (F : (gj W c).2 = List.range c) (e : spots (gj W c).1 c c = []) : ∀ d, c ∉ (gj W (c + 1 + d)).2
  | 0 => by
    have : gj W (c + 1) = gj W c := by rw [gj_succ, step_none (by rw [F, List.length_range]; exact e)]
    rw [Nat.add_zero, this, F, List.mem_range]; lia
  | d + 1 => fun h => by
    rcases gj_piv_mem (c + 1 + d) _ h with h | h
    · exact gj_no F e d h
    · lia
theorem gj_rows (hl : W.length = n) (hr : ∀ r ∈ W, r.length = nc) (hs : ∀ r ∈ W, ∀ x ∈ r, Sz 6 x) {k : Nat} (h : k ≤ nc) : (gj W k).1.length = n := (ech_inv hl hr hs k h).rows
theorem gj_stay (hl : W.length = n) (hr : ∀ r ∈ W, r.length = nc) (hs : ∀ r ∈ W, ∀ x ∈ r, Sz 6 x) (F : (gj W n).2 = List.range n) : ∀ d, n + d ≤ nc → gj W (n + d) = gj W n
  | 0, _ => rfl
  | d + 1, h => by
    have ih := gj_stay hl hr hs F d (by lia)
    rw [← Nat.add_assoc, gj_succ, ih, step_none]
    rw [F, List.length_range, spots, gj_rows hl hr hs (by lia)]
    simp
end
theorem ent_left {r s : List Rat} {j : Nat} (h : j < r.length) : ent (r ++ s) j = ent r j := by
  simp only [ent, List.getD_eq_getElem?_getD, List.getElem?_append_left h]
theorem ent_right {r s : List Rat} {j n : Nat} (h : r.length = n) : ent (r ++ s) (n + j) = ent s j := by
  subst h
  simp only [ent, List.getD_eq_getElem?_getD, List.getElem?_append_right (Nat.le_add_right _ _), Nat.add_sub_cancel_left]
theorem ent_unit {n i j : Nat} (h : j < n) : ent (unitRow n i) j = if i = j then 1 else 0 := by
  simp only [ent, unitRow, List.getD_eq_getElem?_getD, List.getElem?_map, List.getElem?_range h, Option.map_some, Option.getD_some]
theorem ent_drop {r : List Rat} {n j : Nat} : ent (r.drop n) j = ent r (n + j) := by
  simp only [ent, List.getD_eq_getElem?_getD, List.getElem?_drop]
def joinV (n : Nat) (u v : Nat → Rat) (i : Nat) : Rat := if i < n then u i else v (i - n)
theorem sum_join {n : Nat} {f : Nat → Rat} {u v : Nat → Rat} : sumN (2 * n) (fun i => f i * joinV n u v i) = sumN n (fun j => f j * u j) + sumN n (fun j => f (n + j) * v j) := by
  rw [Nat.two_mul, sumN_split]
  congr 1
  · exact sumN_congr fun i hi => by rw [joinV, if_pos hi]
  · exact sumN_congr fun i hi => by rw [joinV, if_neg (by lia), Nat.add_sub_cancel_left]
theorem sum_delta {n i : Nat} {v : Nat → Rat} (h : i < n) : sumN n (fun j => (if i = j then 1 else 0) * v j) = v i := by
  rw [sumN_one h fun j hj hne => by rw [if_neg (Ne.symm hne), Rat.zero_mul], if_pos rfl, Rat.one_mul]
/-- the table upon a vector -/
def app (n : Nat) (M : List (List Rat)) (u : Nat → Rat) (i : Nat) : Rat := sumN n fun j => ent (M.getD i []) j * u j
theorem wide_row {M : List (List Rat)} {i : Nat} (h : i < M.length) : (wideM M).getD i [] = M.getD i [] ++ unitRow M.length i := by
  simp only [wideM, List.getD_eq_getElem?_getD, List.getElem?_mapIdx, List.getElem?_eq_getElem h, Option.map_some, Option.getD_some]
theorem wide_ker {M : List (List Rat)} {n : Nat} {u v : Nat → Rat} (hl : M.length = n) (hr : ∀ r ∈ M, r.length = n) : Ker n (2 * n) (wideM M) (joinV n u v) ↔ ∀ i, i < n → app n M u i + v i = 0 := by
  refine forall_congr' fun i => forall_congr' fun hi => ?_
  have hrow : (M.getD i []).length = n := hr _ (getD_mem (by lia))
  rw [dot, sum_join, wide_row (by lia), hl]
  have e1 : sumN n (fun j => ent (M.getD i [] ++ unitRow n i) j * u j) = app n M u i := sumN_congr fun j hj => by rw [ent_left (by lia)]
  have e2 : sumN n (fun j => ent (M.getD i [] ++ unitRow n i) (n + j) * v j) = v i := by
    rw [← sum_delta (v := v) hi]
    exact sumN_congr fun j hj => by rw [ent_right hrow, ent_unit hj]
  rw [e1, e2]
theorem inv_cases {M : List (List Rat)} {n : Nat} (hl : M.length = n) (hr : ∀ r ∈ M, r.length = n) (hs : ∀ r ∈ M, ∀ x ∈ r, Sz 6 x) :
    (∃ B, invP M = some B ∧ B.length = n ∧ (∀ r ∈ B, r.length = n) ∧ (∀ r ∈ B, ∀ x ∈ r, Sz (bd n) x) ∧ ∀ u v : Nat → Rat, (∀ i, i < n → app n M u i + v i = 0) ↔ ∀ o, o < n → u o + app n B v o = 0) ∨
    (invP M = none ∧ ∃ u k, k < n ∧ u k = 1 ∧ ∀ i, i < n → app n M u i = 0) := by
  have wl : (wideM M).length = n := by simp [wideM, hl]
  have wr : ∀ r ∈ wideM M, r.length = 2 * n := fun r h => by
    refine hideG fun Gd hGd => ?_
    obtain ⟨i, hi, rfl⟩ := List.getElem_of_mem h
    refine hGd ?_
    clear hGd Gd
    simp only [wideM, List.getElem_mapIdx, List.length_append, unitRow, List.length_map, List.length_range]
    rw [hr _ (List.getElem_mem _)]; lia
  have ws : ∀ r ∈ wideM M, ∀ x ∈ r, Sz 6 x := fun r h x hx => by
    refine hideG fun Gd hGd => ?_
    obtain ⟨i, hi, rfl⟩ := List.getElem_of_mem h
    refine hGd ?_
    clear hGd Gd
    simp only [wideM, List.getElem_mapIdx, List.mem_append] at hx
    rcases hx with hx | hx
    · exact hs _ (List.getElem_mem _) x hx
    · simp only [unitRow, List.mem_map] at hx
      refine hideG fun Gd hGd => ?_
      obtain ⟨c, _, rfl⟩ := hx
      refine hGd ?_
      clear hGd Gd
      split
      · exact ⟨by decide, by decide⟩
      · exact ⟨by decide, by decide⟩
  have hI := ech_inv wl wr ws n (by lia)
  rcases gj_pref wl wr ws n (by lia) with F | ⟨c, hc, F, e⟩
  · refine .inl ⟨(gj (wideM M) n).1.map (·.drop n), ?_, by rw [List.length_map, hI.rows], fun r h => ?_, fun r h x hx => ?_, fun u v => ?_⟩
    · have e1 : ech (wideM M) (2 * n) = gj (wideM M) n := by
        have := gj_stay wl wr ws F.1 n (by lia)
        rw [← Nat.two_mul] at this
        exact this
      unfold invP
      rw [hl, e1, F.1, if_pos (List.take_of_length_le (by rw [List.length_range]; exact Nat.le_refl _))]
    · refine hideG fun Gd hGd => ?_
      obtain ⟨r0, h0, rfl⟩ := List.mem_map.mp h
      refine hGd ?_
      clear hGd Gd
      rw [List.length_drop, hI.cols r0 h0]; lia
    · refine hideG fun Gd hGd => ?_
      obtain ⟨r0, h0, rfl⟩ := List.mem_map.mp h
      refine hGd ?_
      clear hGd Gd
      have h1 := hI.sz r0 h0 x (List.mem_of_mem_drop hx)
      rw [show ((List.range n).foldl stepM (wideM M, [])).2 = List.range n from F.1, List.length_range] at h1
      exact h1
    · rw [← wide_ker hl hr, ← gj_ker wl wr ws n (by lia)]
      refine forall_congr' fun o => forall_congr' fun ho => ?_
      have hB : ((gj (wideM M) n).1.map (·.drop n)).getD o [] = ((gj (wideM M) n).1.getD o []).drop n := by
        simp only [List.getD_eq_getElem?_getD, List.getElem?_map, List.getElem?_eq_getElem (show o < (gj (wideM M) n).1.length by rw [hI.rows]; exact ho), Option.map_some, Option.getD_some]
      rw [dot, sum_join, app, hB]
      have e1 : sumN n (fun j => ent ((gj (wideM M) n).1.getD o []) j * u j) = u o := by
        rw [← sum_delta (v := u) ho]
        exact sumN_congr fun j hj => by rw [F.2 o ho j hj]
      have e2 : sumN n (fun j => ent (((gj (wideM M) n).1.getD o []).drop n) j * v j) = sumN n (fun j => ent ((gj (wideM M) n).1.getD o []) (n + j) * v j) := sumN_congr fun j hj => by rw [ent_drop]
      rw [e1, e2]
  · refine .inr ⟨?_, joinV c (fun j => - ent ((gj (wideM M) c).1.getD j []) c) (fun j => if j = 0 then 1 else 0), c, hc, by rw [joinV, if_neg (by lia), Nat.sub_self, if_pos rfl], ?_⟩
    · unfold invP
      rw [hl, if_neg]
      intro h
      have h1 : c ∈ (ech (wideM M) (2 * n)).2 := List.mem_of_mem_take (by rw [h, List.mem_range]; exact hc)
      have h2 := gj_no F.1 e (2 * n - (c + 1))
      rw [show c + 1 + (2 * n - (c + 1)) = 2 * n by lia] at h2
      exact h2 h1
    · have hIc := ech_inv wl wr ws c (by lia)
      generalize hz : joinV c (fun j => - ent ((gj (wideM M) c).1.getD j []) c) (fun j => if j = 0 then (1 : Rat) else 0) = u
      have hz1 : ∀ j, j < c → u j = - ent ((gj (wideM M) c).1.getD j []) c := fun j hj => by rw [← hz, joinV, if_pos hj]
      have hz2 : u c = 1 := by rw [← hz, joinV, if_neg (by lia), Nat.sub_self, if_pos rfl]
      have hz3 : ∀ j, c < j → u j = 0 := fun j hj => by rw [← hz, joinV, if_neg (by lia), if_neg (by lia)]
      have hker : Ker n (2 * n) (gj (wideM M) c).1 (joinV n u fun _ => 0) := fun o ho => by
        rw [dot, sum_join]
        have e2 : sumN n (fun j => ent ((gj (wideM M) c).1.getD o []) (n + j) * 0) = 0 := sumN_zero fun j _ => Rat.mul_zero _
        have e3 : sumN n (fun j => ent ((gj (wideM M) c).1.getD o []) j * u j) = 0 := by
          rw [show n = c + (n - c) by lia, sumN_split, sumN_one (n := n - c) (k := 0) (by lia) fun i hi hne => by rw [hz3 _ (by lia), Rat.mul_zero]]
          rw [Nat.add_zero, hz2, Rat.mul_one]
          by_cases hoc : o < c
          · rw [sumN_one hoc fun j hj hne => by rw [F.2 o ho j hj, if_neg (Ne.symm hne), Rat.zero_mul], F.2 o ho o hoc, if_pos rfl, hz1 o hoc, Rat.one_mul]
            exact Rat.neg_add_cancel _
          · rw [sumN_zero fun j hj => by rw [F.2 o ho j hj, if_neg (by lia), Rat.zero_mul], Rat.zero_add]
            have h1 := e
            unfold spots at h1
            rw [List.filter_eq_nil_iff] at h1
            have h2 := h1 o (by rw [List.mem_range'_1]; have : (gj (wideM M) c).1.length = n := hIc.rows; lia)
            simpa using h2
        rw [e2, e3, Rat.add_zero]
      intro i hi
      have h1 := (wide_ker hl hr).mp ((gj_ker wl wr ws c (by lia)).mp hker) i hi
      rwa [Rat.add_zero] at h1
end
-- part: PuJ
section
section
variable {M : List (List Rat)} {n : Nat}
theorem app_sub {u w : Nat → Rat} {i : Nat} : app n M (fun t => u t + (-1) * w t) i = app n M u i + (-1) * app n M w i := by
  unfold app
  rw [← sumN_mul, ← sumN_add]
  exact sumN_congr fun j _ => by grind
theorem app_unit {k i : Nat} (hk : k < n) : app n M (fun t => if k = t then 1 else 0) i = ent (M.getD i []) k := by
  unfold app
  rw [← sum_delta (v := fun t => ent (M.getD i []) t) hk]
  exact sumN_congr fun j _ => Rat.mul_comm _ _
theorem app_zero {i : Nat} : app n M (fun _ => 0) i = 0 := sumN_zero fun _ _ => Rat.mul_zero _
theorem inv_none (hl : M.length = n) (hr : ∀ r ∈ M, r.length = n) (hs : ∀ r ∈ M, ∀ x ∈ r, Sz 6 x)
    (h : (∃ i i', i < n ∧ i' < n ∧ i ≠ i' ∧ M.getD i [] = M.getD i' []) ∨ (∃ j j', j < n ∧ j' < n ∧ j ≠ j' ∧ ∀ i, i < n → ent (M.getD i []) j = ent (M.getD i []) j')) : invP M = none := by
  rcases inv_cases hl hr hs with ⟨B, hB, _, _, _, hK⟩ | ⟨h0, _⟩
  · exfalso
    rcases h with ⟨i, i', hi, hi', hne, he⟩ | ⟨j, j', hj, hj', hne, he⟩
    · have k := (hK (fun o => -(app n B (fun t => if i = t then 1 else 0) o)) (fun t => if i = t then 1 else 0)).mpr fun o ho => by grind
      have k1 := k i hi
      have k2 := k i' hi'
      rw [if_pos rfl, app, he] at k1
      rw [if_neg hne, app] at k2
      rw [Rat.add_zero] at k2
      rw [k2] at k1
      grind
    · have k := (hK (fun t => (if j = t then 1 else 0) + (-1) * (if j' = t then 1 else 0)) (fun _ => 0)).mp fun i hi => by
        rw [app_sub, app_unit hj, app_unit hj', he i hi]; grind
      have k1 := k j hj
      rw [app_zero, if_pos rfl, if_neg (Ne.symm hne)] at k1
      grind
  · exact h0
theorem inv_some {C : Nat → Nat → Rat} (hl : M.length = n) (hr : ∀ r ∈ M, r.length = n) (hs : ∀ r ∈ M, ∀ x ∈ r, Sz 6 x)
    (hAC : ∀ i l, i < n → l < n → sumN n (fun j => ent (M.getD i []) j * C j l) = if i = l then 1 else 0) (hCA : ∀ k j, k < n → j < n → sumN n (fun i => C k i * ent (M.getD i []) j) = if k = j then 1 else 0) :
    ∃ B, invP M = some B ∧ B.length = n ∧ (∀ r ∈ B, r.length = n) ∧ (∀ r ∈ B, ∀ x ∈ r, Sz (bd n) x) ∧ ∀ o l, o < n → l < n → ent (B.getD o []) l = C o l := by
  rcases inv_cases hl hr hs with ⟨B, hB, h1, h2, h3, hK⟩ | ⟨_, u, k, hk, hu, hz⟩
  · refine ⟨B, hB, h1, h2, h3, fun o l ho hlt => ?_⟩
    have k := (hK (fun j => (-1) * C j l) (fun t => if l = t then 1 else 0)).mp (fun i hi => ?_) o ho
    · rw [app_unit hlt] at k
      grind
    · have e : app n M (fun j => (-1) * C j l) i = (-1) * sumN n (fun j => ent (M.getD i []) j * C j l) := by
        unfold app
        rw [← sumN_mul]
        exact sumN_congr fun j _ => by grind
      rw [e, hAC i l hi hlt]
      by_cases q : i = l
      · rw [if_pos q, if_pos q.symm]; grind
      · rw [if_neg q, if_neg (Ne.symm q)]; grind
  · exfalso
    have e1 : sumN n (fun i => C k i * app n M u i) = 0 := sumN_zero fun i hi => by rw [hz i hi, Rat.mul_zero]
    have e2 : sumN n (fun i => C k i * app n M u i) = u k := by
      have : sumN n (fun i => C k i * app n M u i) = sumN n (fun j => (if k = j then 1 else 0) * u j) := by
        rw [show sumN n (fun i => C k i * app n M u i) = sumN n (fun i => sumN n fun j => C k i * (ent (M.getD i []) j * u j)) from sumN_congr fun i _ => by rw [app, sumN_mul]]
        rw [sumN_swap]
        refine sumN_congr fun j hj => ?_
        rw [← hCA k j hk hj, Rat.mul_comm, ← sumN_mul]
        exact sumN_congr fun i _ => by grind
      rw [this, sum_delta hk]
    rw [e2, hu] at e1
    grind
end
/-! the sum of a table, by tops and bottoms -/
def frac (S : Rat) (tb : Int × Int) : Prop := (tb.1 : Rat) = S * tb.2
theorem q_den (q : Rat) : q * ((q.den : Int) : Rat) = (q.num : Rat) := by
  have h := Rat.num_divInt_den q
  rw [Rat.divInt_eq_div, Rat.div_def] at h
  have h0 : ((q.den : Int) : Rat) ≠ 0 := fun h => q.den_nz (by exact_mod_cast Rat.intCast_eq_zero_iff.mp h)
  have e : q * ((q.den : Int) : Rat) = ((q.num : Rat) * ((q.den : Int) : Rat)⁻¹) * ((q.den : Int) : Rat) := by rw [h]
  rw [e, Rat.mul_assoc, Rat.inv_mul_cancel _ h0, Rat.mul_one]
theorem frac_step {S : Rat} {tb : Int × Int} {q : Rat} (h : frac S tb) : frac (S + q) (stepQ tb q) := by
  unfold frac stepQ at *
  have e : q * ((q.den : Int) : Rat) = (q.num : Rat) := q_den q
  rw [Rat.intCast_add, Rat.intCast_mul, Rat.intCast_mul, Rat.intCast_mul, h, ← e]
  grind
theorem frac_row {S : Rat} {tb : Int × Int} {row : List Rat} (h : frac S tb) : ∀ n, frac (S + sumN n fun s => ent row s) ((List.range n).foldl (fun tb s => stepQ tb (ent row s)) tb)
  | 0 => by rw [sumN, Rat.add_zero]; exact h
  | n + 1 => by
    rw [List.range_succ, List.foldl_append, sumN, ← Rat.add_assoc]
    exact frac_step (frac_row h n)
theorem frac_all {n : Nat} {C : List (List Rat)} : ∀ k, frac (sumN k fun a => sumN n fun s => ent (C.getD a []) s) ((List.range k).foldl (fun tb a => rowQ n tb (C.getD a [])) (0, 1))
  | 0 => by
    show ((0 : Int) : Rat) = 0 * _
    rw [Rat.zero_mul]; rfl
  | k + 1 => by
    rw [List.range_succ, List.foldl_append, sumN]
    exact frac_row (frac_all k) n
/-- what all numbers of the inverse add up to -/
theorem sum_law {n : Nat} {x y : Nat → Rat} {A C : Nat → Nat → Rat} (hA : ∀ i j, i < n → j < n → (x i + y j) * A i j = 1)
    (hAC : ∀ i, i < n → sumN n (fun j => A i j * C j i) = 1) (hCA : ∀ k, k < n → sumN n (fun i => C k i * A i k) = 1) :
    sumN n (fun a => sumN n fun s => C a s) = sumN n x + sumN n y := by
  have e : ∀ a s, a < n → s < n → C a s = x s * (A s a * C a s) + y a * (C a s * A s a) := fun a s ha hs => by
    have := hA s a hs ha
    have e2 : C a s * ((x s + y a) * A s a) = C a s := by rw [this, Rat.mul_one]
    grind
  have e1 : sumN n (fun a => sumN n fun s => C a s) = sumN n (fun a => sumN n fun s => x s * (A s a * C a s)) + sumN n (fun a => sumN n fun s => y a * (C a s * A s a)) := by
    rw [← sumN_add]
    refine sumN_congr fun a ha => ?_
    rw [← sumN_add]
    exact sumN_congr fun s hs => e a s ha hs
  rw [e1, sumN_swap]
  congr 1
  · refine sumN_congr fun s hs => ?_
    rw [sumN_mul, hAC s hs, Rat.mul_one]
  · refine sumN_congr fun a ha => ?_
    rw [sumN_mul, hCA a ha, Rat.mul_one]
end
-- part: PuK
section
theorem sums3 (x a b c : Int) : sumsP x [a, b, c] = W3p x a b c := by simp [sumsP, W3p]
theorem sums2 (x a b : Int) : sumsP x [a, b] = (x + a) * (x + b) := by simp [sumsP]
theorem sums1 (x a : Int) : sumsP x [a] = x + a := by simp [sumsP]
theorem perm4 (a b c d e f g h i j k l m n o p : Int) : permN 4 [[a, b, c, d], [e, f, g, h], [i, j, k, l], [m, n, o, p]] = p4 a b c d e f g h i j k l m n o p := rfl
theorem perm3 (a b c d e f g h i : Int) : permN 3 [[a, b, c], [d, e, f], [g, h, i]] = p3 a b c d e f g h i := rfl
theorem perm2 (a b c d : Int) : permN 2 [[a, b], [c, d]] = a * d + b * c := by
  simp [permN, List.range_succ]
theorem spread4 (a b c d : Int) : spreadP [a, b, c, d] = (b-a)*(c-a)*(c-b)*(d-a)*(d-b)*(d-c) := by simp [spreadP, List.range_succ]
theorem spread3 (a b c : Int) : spreadP [a, b, c] = (b-a)*(c-a)*(c-b) := by simp [spreadP, List.range_succ]
theorem spread2 (a b : Int) : spreadP [a, b] = b-a := by simp [spreadP, List.range_succ]
theorem list2 {α : Type} {l : List α} (h : l.length = 2) : ∃ a b, l = [a, b] := by
  match l, h with
  | [a, b], _ => exact ⟨a, b, rfl⟩
theorem list3 {α : Type} {l : List α} (h : l.length = 3) : ∃ a b c, l = [a, b, c] := by
  match l, h with
  | [a, b, c], _ => exact ⟨a, b, c, rfl⟩
theorem list4 {α : Type} {l : List α} (h : l.length = 4) : ∃ a b c d, l = [a, b, c, d] := by
  match l, h with
  | [a, b, c, d], _ => exact ⟨a, b, c, d, rfl⟩
theorem det2' (a b c d : Int) : detP [[a, b], [c, d]] = a * d - c * b := by
  rw [det_ld (n := 2) (by decide) (by decide) rfl (by simp)]; rfl
theorem det3' (a b c d e f g h i : Int) : detP [[a, b, c], [d, e, f], [g, h, i]] = d3 a b c d e f g h i := by
  rw [det_ld (n := 3) (by decide) (by decide) rfl (by simp)]; rfl
theorem det4' (a b c d e f g h i j k l m n o p : Int) : detP [[a, b, c, d], [e, f, g, h], [i, j, k, l], [m, n, o, p]] = d4 a b c d e f g h i j k l m n o p := by
  rw [det_ld (n := 4) (by decide) (by decide) rfl (by simp)]; rfl
theorem det_law {n : Nat} {xs ys : List Int} (hn : 2 ≤ n) (hn4 : n ≤ 4) (hx : xs.length = n) (hy : ys.length = n) :
    detP (wholeP n xs ys) = spreadP xs * spreadP ys ∧ detP (sqP (wholeP n xs ys)) = spreadP xs * spreadP ys * permN n (wholeP n xs ys) := by
  have : n = 2 ∨ n = 3 ∨ n = 4 := by lia
  rcases this with rfl | rfl | rfl
  · obtain ⟨x1, x2, rfl⟩ := list2 hx
    obtain ⟨y1, y2, rfl⟩ := list2 hy
    have e : wholeP 2 [x1, x2] [y1, y2] = [[sumsP x1 [y2], sumsP x1 [y1]], [sumsP x2 [y2], sumsP x2 [y1]]] := rfl
    have e2 : ∀ a b c d : Int, sqP [[a, b], [c, d]] = [[a*a, b*b], [c*c, d*d]] := fun _ _ _ _ => rfl
    simp only [e, e2, sums1, det2', perm2, spread2]
    constructor <;> grind
  · obtain ⟨x1, x2, x3, rfl⟩ := list3 hx
    obtain ⟨y1, y2, y3, rfl⟩ := list3 hy
    have e : wholeP 3 [x1, x2, x3] [y1, y2, y3] = [[sumsP x1 [y2, y3], sumsP x1 [y1, y3], sumsP x1 [y1, y2]], [sumsP x2 [y2, y3], sumsP x2 [y1, y3], sumsP x2 [y1, y2]], [sumsP x3 [y2, y3], sumsP x3 [y1, y3], sumsP x3 [y1, y2]]] := rfl
    have e2 : ∀ a b c d e f g h i : Int, sqP [[a, b, c], [d, e, f], [g, h, i]] = [[a*a, b*b, c*c], [d*d, e*e, f*f], [g*g, h*h, i*i]] := fun _ _ _ _ _ _ _ _ _ => rfl
    rw [e, e2]
    simp only [sums2, det3', perm3, spread3]
    rw [bor3, cau3]
    exact ⟨rfl, rfl⟩
  · obtain ⟨x1, x2, x3, x4, rfl⟩ := list4 hx
    obtain ⟨y1, y2, y3, y4, rfl⟩ := list4 hy
    have e : wholeP 4 [x1, x2, x3, x4] [y1, y2, y3, y4] = [[sumsP x1 [y2, y3, y4], sumsP x1 [y1, y3, y4], sumsP x1 [y1, y2, y4], sumsP x1 [y1, y2, y3]], [sumsP x2 [y2, y3, y4], sumsP x2 [y1, y3, y4], sumsP x2 [y1, y2, y4], sumsP x2 [y1, y2, y3]], [sumsP x3 [y2, y3, y4], sumsP x3 [y1, y3, y4], sumsP x3 [y1, y2, y4], sumsP x3 [y1, y2, y3]], [sumsP x4 [y2, y3, y4], sumsP x4 [y1, y3, y4], sumsP x4 [y1, y2, y4], sumsP x4 [y1, y2, y3]]] := rfl
    have e2 : ∀ a b c d e f g h i j k l m n o p : Int, sqP [[a, b, c, d], [e, f, g, h], [i, j, k, l], [m, n, o, p]] = [[a*a, b*b, c*c, d*d], [e*e, f*f, g*g, h*h], [i*i, j*j, k*k, l*l], [m*m, n*n, o*o, p*p]] := fun _ _ _ _ _ _ _ _ _ _ _ _ _ _ _ _ => rfl
    rw [e, e2]
    simp only [sums3, det4', perm4, spread4]
    rw [bor4, cau4]
    exact ⟨rfl, rfl⟩
end
-- part: PuM
section
/-! written by wip/gencau2.py -/
abbrev rt (xs : List Int) (i : Nat) : Rat := ((xs.getD i 0 : Int) : Rat)
abbrev tA (xs ys : List Int) (i j : Nat) : Rat := Rat.divInt 1 (xs.getD i 0 + ys.getD j 0)
abbrev tC (xs ys : List Int) (j l : Nat) : Rat := ((upP xs ys j l : Int) : Rat) / ((loP xs ys j l : Int) : Rat)
theorem tA_mul {xs ys : List Int} {i j : Nat} (h : xs.getD i 0 + ys.getD j 0 ≠ 0) : (rt xs i + rt ys j) * tA xs ys i j = 1 := by
  have e : rt xs i + rt ys j = ((xs.getD i 0 + ys.getD j 0 : Int) : Rat) := (Rat.intCast_add _ _).symm
  have h0 : ((xs.getD i 0 + ys.getD j 0 : Int) : Rat) ≠ 0 := fun q => h (Rat.intCast_eq_zero_iff.mp q)
  rw [e, tA, Rat.divInt_eq_div, Rat.div_def, show ((1 : Int) : Rat) = 1 from rfl, Rat.one_mul, Rat.mul_inv_cancel _ h0]
theorem swapC {C s s' P Q U H : Rat} (h : C * (s * P * Q) = U * H) (hs : s = s') : C * (s' * Q * P) = H * U := by
  rw [← hs, Rat.mul_comm H U, ← h, Rat.mul_assoc s Q P, Rat.mul_comm Q P, ← Rat.mul_assoc s P Q]
theorem apc2 (x1 x2 : Int) : ∀ l, l < 2 → ((apartP [x1, x2] l : Int) : Rat) = ap2 (rt [x1, x2]) l := by
  intro l hl
  have : l = 0 ∨ l = 1 := by lia
  rcases this with rfl | rfl <;> simp [apartP, List.range_succ, ap2, rt, Rat.intCast_mul, Rat.intCast_sub]
theorem upc2 (z : Int) (x1 x2 : Int) : ((sumsP z [x1, x2] : Int) : Rat) = up2 (z : Rat) (rt [x1, x2]) := by
  simp [sumsP, up2, rt, Rat.intCast_mul, Rat.intCast_add]
theorem apn2 {x1 x2 : Int} (h : spreadP [x1, x2] ≠ 0) : ∀ l, l < 2 → ap2 (rt [x1, x2]) l ≠ 0 := by
  intro l hl e
  rw [← apc2 x1 x2 l hl, Rat.intCast_eq_zero_iff] at e
  apply h
  rw [spread2]
  have : l = 0 ∨ l = 1 := by lia
  rcases this with rfl | rfl <;> simp [apartP, List.range_succ, Int.mul_eq_zero, Int.sub_eq_zero] at e ⊢ <;> lia
theorem van20 {x1 x2 : Int} (h : spreadP [x1, x2] ≠ 0) : (((rt [x1, x2] 0-rt [x1, x2] 1))*((1))) ≠ 0 := by
  intro e
  apply h
  rw [spread2]
  simp [rt, Rat.mul_eq_zero, ← Rat.intCast_sub, Rat.intCast_eq_zero_iff, Int.mul_eq_zero, Int.sub_eq_zero] at e ⊢
  try lia
theorem cau2l {x1 x2 y1 y2 : Int} (hne : ∀ i j, i < 2 → j < 2 → [x1, x2].getD i 0 + [y1, y2].getD j 0 ≠ 0) (hx : spreadP [x1, x2] ≠ 0) (hy : spreadP [y1, y2] ≠ 0) :
    (∀ i l, i < 2 → l < 2 → sumN 2 (fun j => tA [x1, x2] [y1, y2] i j * tC [x1, x2] [y1, y2] j l) = if i = l then 1 else 0) ∧ (∀ k j, k < 2 → j < 2 → sumN 2 (fun i => tC [x1, x2] [y1, y2] k i * tA [x1, x2] [y1, y2] i j) = if k = j then 1 else 0) ∧ ∀ a s, a < 2 → s < 2 → loP [x1, x2] [y1, y2] a s ≠ 0 := by
  have hA : ∀ i j, i < 2 → j < 2 → (rt [x1, x2] i + rt [y1, y2] j) * tA [x1, x2] [y1, y2] i j = 1 := fun i j hi hj => tA_mul (hne i j hi hj)
  have hlo : ∀ a s, a < 2 → s < 2 → ((loP [x1, x2] [y1, y2] a s : Int) : Rat) = (rt [x1, x2] s + rt [y1, y2] a) * ap2 (rt [x1, x2]) s * ap2 (rt [y1, y2]) a := fun a s ha hs => by
    rw [loP, Rat.intCast_mul, Rat.intCast_mul, Rat.intCast_add, apc2 x1 x2 s hs, apc2 y1 y2 a ha]
  have hup : ∀ a s, ((upP [x1, x2] [y1, y2] a s : Int) : Rat) = up2 (rt [x1, x2] s) (rt [y1, y2]) * up2 (rt [y1, y2] a) (rt [x1, x2]) := fun a s => by
    rw [upP, Rat.intCast_mul, upc2, upc2]
  have hlo0 : ∀ a s, a < 2 → s < 2 → ((loP [x1, x2] [y1, y2] a s : Int) : Rat) ≠ 0 := fun a s ha hs => by
    rw [hlo a s ha hs]
    exact fun e => (Rat.mul_eq_zero.mp e).elim (fun e => (Rat.mul_eq_zero.mp e).elim (ne_of_inv (hA s a hs ha)) (apn2 hx s hs)) (apn2 hy a ha)
  have hC : ∀ j l, j < 2 → l < 2 → tC [x1, x2] [y1, y2] j l * ((rt [x1, x2] l + rt [y1, y2] j) * ap2 (rt [x1, x2]) l * ap2 (rt [y1, y2]) j) = up2 (rt [x1, x2] l) (rt [y1, y2]) * up2 (rt [y1, y2] j) (rt [x1, x2]) := fun j l hj hl => by
    rw [← hlo j l hj hl, ← hup j l, tC, Rat.div_def, Rat.mul_assoc, Rat.inv_mul_cancel _ (hlo0 j l hj hl), Rat.mul_one]
  refine ⟨fun i l hi hl => ?_, fun k j hk hj => ?_, fun a s ha hs e => hlo0 a s ha hs (by rw [e]; rfl)⟩
  · rw [← ac2 hA hC (apn2 hx) (van20 hy) i l hi hl]
    simp only [sumN, Rat.zero_add]
  · have := ac2 (x := rt [y1, y2]) (y := rt [x1, x2]) (A := fun a b => tA [x1, x2] [y1, y2] b a) (C := fun a b => tC [x1, x2] [y1, y2] b a) (fun i j hi hj => by rw [Rat.add_comm]; exact hA j i hj hi) (fun j l hj hl => swapC (hC l j hl hj) (Rat.add_comm _ _)) (apn2 hy) (van20 hx) j k hj hk
    rw [show (if k = j then (1 : Rat) else 0) = if j = k then 1 else 0 by by_cases h : k = j <;> simp [h, eq_comm], ← this]
    simp only [sumN, Rat.zero_add, Rat.mul_comm]
theorem apc3 (x1 x2 x3 : Int) : ∀ l, l < 3 → ((apartP [x1, x2, x3] l : Int) : Rat) = ap3 (rt [x1, x2, x3]) l := by
  intro l hl
  have : l = 0 ∨ l = 1 ∨ l = 2 := by lia
  rcases this with rfl | rfl | rfl <;> simp [apartP, List.range_succ, ap3, rt, Rat.intCast_mul, Rat.intCast_sub]
theorem upc3 (z : Int) (x1 x2 x3 : Int) : ((sumsP z [x1, x2, x3] : Int) : Rat) = up3 (z : Rat) (rt [x1, x2, x3]) := by
  simp [sumsP, up3, rt, Rat.intCast_mul, Rat.intCast_add]
theorem apn3 {x1 x2 x3 : Int} (h : spreadP [x1, x2, x3] ≠ 0) : ∀ l, l < 3 → ap3 (rt [x1, x2, x3]) l ≠ 0 := by
  intro l hl e
  rw [← apc3 x1 x2 x3 l hl, Rat.intCast_eq_zero_iff] at e
  apply h
  rw [spread3]
  have : l = 0 ∨ l = 1 ∨ l = 2 := by lia
  rcases this with rfl | rfl | rfl <;> simp [apartP, List.range_succ, Int.mul_eq_zero, Int.sub_eq_zero] at e ⊢ <;> lia
theorem van30 {x1 x2 x3 : Int} (h : spreadP [x1, x2, x3] ≠ 0) : (((rt [x1, x2, x3] 0-rt [x1, x2, x3] 1)*(rt [x1, x2, x3] 0-rt [x1, x2, x3] 2))*(((rt [x1, x2, x3] 1-rt [x1, x2, x3] 2)))) ≠ 0 := by
  intro e
  apply h
  rw [spread3]
  simp [rt, Rat.mul_eq_zero, ← Rat.intCast_sub, Rat.intCast_eq_zero_iff, Int.mul_eq_zero, Int.sub_eq_zero] at e ⊢
  try lia
theorem cau3l {x1 x2 x3 y1 y2 y3 : Int} (hne : ∀ i j, i < 3 → j < 3 → [x1, x2, x3].getD i 0 + [y1, y2, y3].getD j 0 ≠ 0) (hx : spreadP [x1, x2, x3] ≠ 0) (hy : spreadP [y1, y2, y3] ≠ 0) :
    (∀ i l, i < 3 → l < 3 → sumN 3 (fun j => tA [x1, x2, x3] [y1, y2, y3] i j * tC [x1, x2, x3] [y1, y2, y3] j l) = if i = l then 1 else 0) ∧ (∀ k j, k < 3 → j < 3 → sumN 3 (fun i => tC [x1, x2, x3] [y1, y2, y3] k i * tA [x1, x2, x3] [y1, y2, y3] i j) = if k = j then 1 else 0) ∧ ∀ a s, a < 3 → s < 3 → loP [x1, x2, x3] [y1, y2, y3] a s ≠ 0 := by
  have hA : ∀ i j, i < 3 → j < 3 → (rt [x1, x2, x3] i + rt [y1, y2, y3] j) * tA [x1, x2, x3] [y1, y2, y3] i j = 1 := fun i j hi hj => tA_mul (hne i j hi hj)
  have hlo : ∀ a s, a < 3 → s < 3 → ((loP [x1, x2, x3] [y1, y2, y3] a s : Int) : Rat) = (rt [x1, x2, x3] s + rt [y1, y2, y3] a) * ap3 (rt [x1, x2, x3]) s * ap3 (rt [y1, y2, y3]) a := fun a s ha hs => by
    rw [loP, Rat.intCast_mul, Rat.intCast_mul, Rat.intCast_add, apc3 x1 x2 x3 s hs, apc3 y1 y2 y3 a ha]
  have hup : ∀ a s, ((upP [x1, x2, x3] [y1, y2, y3] a s : Int) : Rat) = up3 (rt [x1, x2, x3] s) (rt [y1, y2, y3]) * up3 (rt [y1, y2, y3] a) (rt [x1, x2, x3]) := fun a s => by
    rw [upP, Rat.intCast_mul, upc3, upc3]
  have hlo0 : ∀ a s, a < 3 → s < 3 → ((loP [x1, x2, x3] [y1, y2, y3] a s : Int) : Rat) ≠ 0 := fun a s ha hs => by
    rw [hlo a s ha hs]
    exact fun e => (Rat.mul_eq_zero.mp e).elim (fun e => (Rat.mul_eq_zero.mp e).elim (ne_of_inv (hA s a hs ha)) (apn3 hx s hs)) (apn3 hy a ha)
  have hC : ∀ j l, j < 3 → l < 3 → tC [x1, x2, x3] [y1, y2, y3] j l * ((rt [x1, x2, x3] l + rt [y1, y2, y3] j) * ap3 (rt [x1, x2, x3]) l * ap3 (rt [y1, y2, y3]) j) = up3 (rt [x1, x2, x3] l) (rt [y1, y2, y3]) * up3 (rt [y1, y2, y3] j) (rt [x1, x2, x3]) := fun j l hj hl => by
    rw [← hlo j l hj hl, ← hup j l, tC, Rat.div_def, Rat.mul_assoc, Rat.inv_mul_cancel _ (hlo0 j l hj hl), Rat.mul_one]
  refine ⟨fun i l hi hl => ?_, fun k j hk hj => ?_, fun a s ha hs e => hlo0 a s ha hs (by rw [e]; rfl)⟩
  · rw [← ac3 hA hC (apn3 hx) (van30 hy) i l hi hl]
    simp only [sumN, Rat.zero_add]
  · have := ac3 (x := rt [y1, y2, y3]) (y := rt [x1, x2, x3]) (A := fun a b => tA [x1, x2, x3] [y1, y2, y3] b a) (C := fun a b => tC [x1, x2, x3] [y1, y2, y3] b a) (fun i j hi hj => by rw [Rat.add_comm]; exact hA j i hj hi) (fun j l hj hl => swapC (hC l j hl hj) (Rat.add_comm _ _)) (apn3 hy) (van30 hx) j k hj hk
    rw [show (if k = j then (1 : Rat) else 0) = if j = k then 1 else 0 by by_cases h : k = j <;> simp [h, eq_comm], ← this]
    simp only [sumN, Rat.zero_add, Rat.mul_comm]
theorem apc4 (x1 x2 x3 x4 : Int) : ∀ l, l < 4 → ((apartP [x1, x2, x3, x4] l : Int) : Rat) = ap4 (rt [x1, x2, x3, x4]) l := by
  intro l hl
  have : l = 0 ∨ l = 1 ∨ l = 2 ∨ l = 3 := by lia
  rcases this with rfl | rfl | rfl | rfl <;> simp [apartP, List.range_succ, ap4, rt, Rat.intCast_mul, Rat.intCast_sub]
theorem upc4 (z : Int) (x1 x2 x3 x4 : Int) : ((sumsP z [x1, x2, x3, x4] : Int) : Rat) = up4 (z : Rat) (rt [x1, x2, x3, x4]) := by
  simp [sumsP, up4, rt, Rat.intCast_mul, Rat.intCast_add]
theorem apn4 {x1 x2 x3 x4 : Int} (h : spreadP [x1, x2, x3, x4] ≠ 0) : ∀ l, l < 4 → ap4 (rt [x1, x2, x3, x4]) l ≠ 0 := by
  intro l hl e
  rw [← apc4 x1 x2 x3 x4 l hl, Rat.intCast_eq_zero_iff] at e
  apply h
  rw [spread4]
  have : l = 0 ∨ l = 1 ∨ l = 2 ∨ l = 3 := by lia
  rcases this with rfl | rfl | rfl | rfl <;> simp [apartP, List.range_succ, Int.mul_eq_zero, Int.sub_eq_zero] at e ⊢ <;> lia
theorem van40 {x1 x2 x3 x4 : Int} (h : spreadP [x1, x2, x3, x4] ≠ 0) : (((rt [x1, x2, x3, x4] 0-rt [x1, x2, x3, x4] 1)*(rt [x1, x2, x3, x4] 0-rt [x1, x2, x3, x4] 2)*(rt [x1, x2, x3, x4] 0-rt [x1, x2, x3, x4] 3))*(((rt [x1, x2, x3, x4] 1-rt [x1, x2, x3, x4] 2)*(rt [x1, x2, x3, x4] 1-rt [x1, x2, x3, x4] 3)*(rt [x1, x2, x3, x4] 2-rt [x1, x2, x3, x4] 3)))) ≠ 0 := by
  intro e
  apply h
  rw [spread4]
  simp [rt, Rat.mul_eq_zero, ← Rat.intCast_sub, Rat.intCast_eq_zero_iff, Int.mul_eq_zero, Int.sub_eq_zero] at e ⊢
  try lia
theorem cau4l {x1 x2 x3 x4 y1 y2 y3 y4 : Int} (hne : ∀ i j, i < 4 → j < 4 → [x1, x2, x3, x4].getD i 0 + [y1, y2, y3, y4].getD j 0 ≠ 0) (hx : spreadP [x1, x2, x3, x4] ≠ 0) (hy : spreadP [y1, y2, y3, y4] ≠ 0) :
    (∀ i l, i < 4 → l < 4 → sumN 4 (fun j => tA [x1, x2, x3, x4] [y1, y2, y3, y4] i j * tC [x1, x2, x3, x4] [y1, y2, y3, y4] j l) = if i = l then 1 else 0) ∧ (∀ k j, k < 4 → j < 4 → sumN 4 (fun i => tC [x1, x2, x3, x4] [y1, y2, y3, y4] k i * tA [x1, x2, x3, x4] [y1, y2, y3, y4] i j) = if k = j then 1 else 0) ∧ ∀ a s, a < 4 → s < 4 → loP [x1, x2, x3, x4] [y1, y2, y3, y4] a s ≠ 0 := by
  have hA : ∀ i j, i < 4 → j < 4 → (rt [x1, x2, x3, x4] i + rt [y1, y2, y3, y4] j) * tA [x1, x2, x3, x4] [y1, y2, y3, y4] i j = 1 := fun i j hi hj => tA_mul (hne i j hi hj)
  have hlo : ∀ a s, a < 4 → s < 4 → ((loP [x1, x2, x3, x4] [y1, y2, y3, y4] a s : Int) : Rat) = (rt [x1, x2, x3, x4] s + rt [y1, y2, y3, y4] a) * ap4 (rt [x1, x2, x3, x4]) s * ap4 (rt [y1, y2, y3, y4]) a := fun a s ha hs => by
    rw [loP, Rat.intCast_mul, Rat.intCast_mul, Rat.intCast_add, apc4 x1 x2 x3 x4 s hs, apc4 y1 y2 y3 y4 a ha]
  have hup : ∀ a s, ((upP [x1, x2, x3, x4] [y1, y2, y3, y4] a s : Int) : Rat) = up4 (rt [x1, x2, x3, x4] s) (rt [y1, y2, y3, y4]) * up4 (rt [y1, y2, y3, y4] a) (rt [x1, x2, x3, x4]) := fun a s => by
    rw [upP, Rat.intCast_mul, upc4, upc4]
  have hlo0 : ∀ a s, a < 4 → s < 4 → ((loP [x1, x2, x3, x4] [y1, y2, y3, y4] a s : Int) : Rat) ≠ 0 := fun a s ha hs => by
    rw [hlo a s ha hs]
    exact fun e => (Rat.mul_eq_zero.mp e).elim (fun e => (Rat.mul_eq_zero.mp e).elim (ne_of_inv (hA s a hs ha)) (apn4 hx s hs)) (apn4 hy a ha)
  have hC : ∀ j l, j < 4 → l < 4 → tC [x1, x2, x3, x4] [y1, y2, y3, y4] j l * ((rt [x1, x2, x3, x4] l + rt [y1, y2, y3, y4] j) * ap4 (rt [x1, x2, x3, x4]) l * ap4 (rt [y1, y2, y3, y4]) j) = up4 (rt [x1, x2, x3, x4] l) (rt [y1, y2, y3, y4]) * up4 (rt [y1, y2, y3, y4] j) (rt [x1, x2, x3, x4]) := fun j l hj hl => by
    rw [← hlo j l hj hl, ← hup j l, tC, Rat.div_def, Rat.mul_assoc, Rat.inv_mul_cancel _ (hlo0 j l hj hl), Rat.mul_one]
  refine ⟨fun i l hi hl => ?_, fun k j hk hj => ?_, fun a s ha hs e => hlo0 a s ha hs (by rw [e]; rfl)⟩
  · rw [← ac4 hA hC (apn4 hx) (van40 hy) i l hi hl]
    simp only [sumN, Rat.zero_add]
  · have := ac4 (x := rt [y1, y2, y3, y4]) (y := rt [x1, x2, x3, x4]) (A := fun a b => tA [x1, x2, x3, x4] [y1, y2, y3, y4] b a) (C := fun a b => tC [x1, x2, x3, x4] [y1, y2, y3, y4] b a) (fun i j hi hj => by rw [Rat.add_comm]; exact hA j i hj hi) (fun j l hj hl => swapC (hC l j hl hj) (Rat.add_comm _ _)) (apn4 hy) (van40 hx) j k hj hk
    rw [show (if k = j then (1 : Rat) else 0) = if j = k then 1 else 0 by by_cases h : k = j <;> simp [h, eq_comm], ← this]
    simp only [sumN, Rat.zero_add, Rat.mul_comm]
end
-- part: PuL
section
theorem cauchy {n : Nat} {xs ys : List Int} (hn : 2 ≤ n) (hn4 : n ≤ 4) (hlx : xs.length = n) (hly : ys.length = n) (hne : ∀ i j, i < n → j < n → xs.getD i 0 + ys.getD j 0 ≠ 0) (hx : spreadP xs ≠ 0) (hy : spreadP ys ≠ 0) :
    (∀ i l, i < n → l < n → sumN n (fun j => tA xs ys i j * tC xs ys j l) = if i = l then 1 else 0) ∧ (∀ k j, k < n → j < n → sumN n (fun i => tC xs ys k i * tA xs ys i j) = if k = j then 1 else 0) ∧ ∀ a s, a < n → s < n → loP xs ys a s ≠ 0 := by
  have : n = 2 ∨ n = 3 ∨ n = 4 := by lia
  rcases this with rfl | rfl | rfl
  · obtain ⟨x1, x2, rfl⟩ := list2 hlx
    obtain ⟨y1, y2, rfl⟩ := list2 hly
    exact cau2l hne hx hy
  · obtain ⟨x1, x2, x3, rfl⟩ := list3 hlx
    obtain ⟨y1, y2, y3, rfl⟩ := list3 hly
    exact cau3l hne hx hy
  · obtain ⟨x1, x2, x3, x4, rfl⟩ := list4 hlx
    obtain ⟨y1, y2, y3, y4, rfl⟩ := list4 hly
    exact cau4l hne hx hy
/-- no spread: two alike -/
theorem spread_zero {n : Nat} {xs : List Int} (hn : 2 ≤ n) (hn4 : n ≤ 4) (hl : xs.length = n) (h : spreadP xs = 0) : ∃ i j, i < n ∧ j < n ∧ i ≠ j ∧ xs.getD i 0 = xs.getD j 0 := by
  have : n = 2 ∨ n = 3 ∨ n = 4 := by lia
  rcases this with rfl | rfl | rfl
  · obtain ⟨a, b, rfl⟩ := list2 hl
    rw [spread2] at h
    exact ⟨1, 0, by decide, by decide, by decide, by show b = a; lia⟩
  · obtain ⟨a, b, c, rfl⟩ := list3 hl
    rw [spread3] at h
    rcases Int.mul_eq_zero.mp h with h | h
    · rcases Int.mul_eq_zero.mp h with h | h
      · exact ⟨1, 0, by decide, by decide, by decide, by show b = a; lia⟩
      · exact ⟨2, 0, by decide, by decide, by decide, by show c = a; lia⟩
    · exact ⟨2, 1, by decide, by decide, by decide, by show c = b; lia⟩
  · obtain ⟨a, b, c, d, rfl⟩ := list4 hl
    rw [spread4] at h
    rcases Int.mul_eq_zero.mp h with h | h
    · rcases Int.mul_eq_zero.mp h with h | h
      · rcases Int.mul_eq_zero.mp h with h | h
        · rcases Int.mul_eq_zero.mp h with h | h
          · rcases Int.mul_eq_zero.mp h with h | h
            · exact ⟨1, 0, by decide, by decide, by decide, by show b = a; lia⟩
            · exact ⟨2, 0, by decide, by decide, by decide, by show c = a; lia⟩
          · exact ⟨2, 1, by decide, by decide, by decide, by show c = b; lia⟩
        · exact ⟨3, 0, by decide, by decide, by decide, by show d = a; lia⟩
      · exact ⟨3, 1, by decide, by decide, by decide, by show d = b; lia⟩
    · exact ⟨3, 2, by decide, by decide, by decide, by show d = c; lia⟩
theorem sum_rt {n : Nat} {xs : List Int} (hn : 2 ≤ n) (hn4 : n ≤ 4) (hl : xs.length = n) : sumN n (rt xs) = ((xs.sum : Int) : Rat) := by
  have : n = 2 ∨ n = 3 ∨ n = 4 := by lia
  rcases this with rfl | rfl | rfl
  · obtain ⟨a, b, rfl⟩ := list2 hl
    simp only [sumN, rt, List.getD_cons_zero, List.getD_cons_succ, List.sum_cons, List.sum_nil, Int.add_zero, Rat.intCast_add, Rat.zero_add]
  · obtain ⟨a, b, c, rfl⟩ := list3 hl
    simp only [sumN, rt, List.getD_cons_zero, List.getD_cons_succ, List.sum_cons, List.sum_nil, Int.add_zero, Rat.intCast_add, Rat.zero_add, Rat.add_assoc]
  · obtain ⟨a, b, c, d, rfl⟩ := list4 hl
    simp only [sumN, rt, List.getD_cons_zero, List.getD_cons_succ, List.sum_cons, List.sum_nil, Int.add_zero, Rat.intCast_add, Rat.zero_add, Rat.add_assoc]
theorem getD_mem0 {xs : List Int} {i n : Nat} (hl : xs.length = n) (h : i < n) : xs.getD i 0 ∈ xs := getD_mem (by lia)
theorem table_getD {ce : List Int} {i : Nat} (h : i < lawN ce) : (tableP ce).getD i [] = (lawY ce).map fun other => Rat.divInt 1 ((lawX ce).getD i 0 + other) := by
  have hi : i < (lawX ce).length := by rw [lawX_len]; exact h
  simp only [tableP, List.getD_eq_getElem?_getD, List.getElem?_map, List.getElem?_eq_getElem hi, Option.map_some, Option.getD_some]
theorem table_ent {ce : List Int} {i j : Nat} (h : i < lawN ce) (hj : j < lawN ce) : ent ((tableP ce).getD i []) j = tA (lawX ce) (lawY ce) i j := by
  rw [table_getD h]
  have hj2 : j < (lawY ce).length := by rw [lawY_len]; exact hj
  simp only [ent, tA, List.getD_eq_getElem?_getD, List.getElem?_map, List.getElem?_eq_getElem hj2, Option.map_some, Option.getD_some]
/-- where both go up by ones the inverse is whole -/
def upList (n f : Nat) : List Int := (List.range n).map fun (i : Nat) => (f : Int) + (i : Int)
theorem whole_div : ∀ n ∈ [2, 3, 4], ∀ f ∈ List.range 4, ∀ s ∈ List.range 3, ∀ a ∈ List.range n, ∀ b ∈ List.range n, upP (upList n f) (upList n (s + 1)) a b % loP (upList n f) (upList n (s + 1)) a b = 0 := by decide +kernel
theorem law_up {ce : List Int} (h : drawP ce 0 2 ≠ 1) : ∃ f s, f < 4 ∧ s < 3 ∧ lawX ce = upList (lawN ce) f ∧ lawY ce = upList (lawN ce) (s + 1) := by
  have h1 := draw_rng ce 2 (m := 4) (by decide)
  have h2 := draw_rng ce 3 (m := 3) (by decide)
  refine ⟨(drawP ce 2 4).toNat, (drawP ce 3 3).toNat, by lia, by lia, ?_, ?_⟩
  · rw [lawX, if_neg h, upList, Int.toNat_of_nonneg h1.1]
  · rw [lawY, if_neg h, upList]
    refine List.map_congr_left fun i _ => ?_
    have : (((drawP ce 3 3).toNat + 1 : Nat) : Int) = 1 + drawP ce 3 3 := by lia
    rw [this]
theorem div_den {u l : Int} (hl : l ≠ 0) (h : u % l = 0) : ((u : Rat) / (l : Rat)).den = 1 := by
  obtain ⟨k, rfl⟩ := Int.dvd_of_emod_eq_zero h
  have h0 : (l : Rat) ≠ 0 := fun q => hl (Rat.intCast_eq_zero_iff.mp q)
  have e : ((l * k : Int) : Rat) / (l : Rat) = (k : Rat) := by
    rw [Rat.intCast_mul, Rat.div_def, Rat.mul_comm (l : Rat) (k : Rat), Rat.mul_assoc, Rat.mul_inv_cancel _ h0, Rat.mul_one]
  rw [e]
  rfl
theorem div_num {u l : Int} (hl : l ≠ 0) : ((u : Rat) / (l : Rat)).num * l = u * (((u : Rat) / (l : Rat)).den : Int) := by
  rw [← Rat.divInt_eq_div]
  exact (Rat.divInt_eq_divInt_iff (by exact_mod_cast Rat.den_nz _) hl).mp (Rat.num_divInt_den _)
theorem law_none {ce : List Int} (h : lawS ce = 0) : invP (tableP ce) = none := by
  have hN := lawN_rng ce
  refine inv_none (n := lawN ce) (table_len ce) (fun r h => table_row h) (fun r h => table_sz h) ?_
  rcases Int.mul_eq_zero.mp h with h | h
  · obtain ⟨i, j, hi, hj, hne, he⟩ := spread_zero hN.1 hN.2 (lawX_len ce) h
    exact .inl ⟨i, j, hi, hj, hne, by rw [table_getD hi, table_getD hj, he]⟩
  · obtain ⟨i, j, hi, hj, hne, he⟩ := spread_zero hN.1 hN.2 (lawY_len ce) h
    exact .inr ⟨i, j, hi, hj, hne, fun k hk => by rw [table_ent hk hi, table_ent hk hj, tA, tA, he]⟩
theorem law_some {ce : List Int} (h : lawS ce ≠ 0) : ∃ C, invP (tableP ce) = .some C ∧ C.length = lawN ce ∧ (∀ r ∈ C, r.length = lawN ce) ∧ (∀ r ∈ C, ∀ q ∈ r, Sz 1621 q) ∧
    (∀ a s, a < lawN ce → s < lawN ce → (ent (C.getD a []) s).num * loP (lawX ce) (lawY ce) a s = upP (lawX ce) (lawY ce) a s * (ent (C.getD a []) s).den) ∧
    (drawP ce 0 2 ≠ 1 → ∀ a s, a < lawN ce → s < lawN ce → (ent (C.getD a []) s).den = 1) ∧
    (allQ (lawN ce) C).1 = ((lawX ce).sum + (lawY ce).sum) * (allQ (lawN ce) C).2 := by
  have hN := lawN_rng ce
  have hx : spreadP (lawX ce) ≠ 0 := fun e => h (by rw [lawS, e, Int.zero_mul])
  have hy : spreadP (lawY ce) ≠ 0 := fun e => h (by rw [lawS, e, Int.mul_zero])
  have hne : ∀ i j, i < lawN ce → j < lawN ce → (lawX ce).getD i 0 + (lawY ce).getD j 0 ≠ 0 := fun i j hi hj => law_ne (getD_mem0 (lawX_len ce) hi) (getD_mem0 (lawY_len ce) hj)
  obtain ⟨hAC, hCA, hlo⟩ := cauchy hN.1 hN.2 (lawX_len ce) (lawY_len ce) hne hx hy
  obtain ⟨B, hB, h1, h2, h3, h4⟩ := inv_some (C := tC (lawX ce) (lawY ce)) (n := lawN ce) (table_len ce) (fun r h => table_row h) (fun r h => table_sz h)
    (fun i l hi hl => by rw [← hAC i l hi hl]; exact sumN_congr fun j hj => by rw [table_ent hi hj]) (fun k j hk hj => by rw [← hCA k j hk hj]; exact sumN_congr fun i hi => by rw [table_ent hi hj])
  refine ⟨B, hB, h1, h2, fun r hr q hq => (h3 r hr q hq).mono (bd_mono (b := 4) hN.2), fun a s ha hs => ?_, fun hd a s ha hs => ?_, ?_⟩
  · rw [h4 a s ha hs]
    exact div_num (hlo a s ha hs)
  · rw [h4 a s ha hs]
    refine div_den (hlo a s ha hs) ?_
    obtain ⟨f, t, hf, ht, e1, e2⟩ := law_up hd
    rw [e1, e2]
    exact whole_div (lawN ce) (by have : lawN ce = 2 ∨ lawN ce = 3 ∨ lawN ce = 4 := by lia
                                  rcases this with e | e | e <;> rw [e] <;> decide) f (List.mem_range.mpr hf) t (List.mem_range.mpr ht) a (List.mem_range.mpr ha) s (List.mem_range.mpr hs)
  · have hfr := frac_all (n := lawN ce) (C := B) (lawN ce)
    have hs : (sumN (lawN ce) fun a => sumN (lawN ce) fun s => ent (B.getD a []) s) = (((lawX ce).sum + (lawY ce).sum : Int) : Rat) := by
      rw [Rat.intCast_add, ← sum_rt hN.1 hN.2 (lawX_len ce), ← sum_rt hN.1 hN.2 (lawY_len ce)]
      rw [← sum_law (A := tA (lawX ce) (lawY ce)) (C := tC (lawX ce) (lawY ce)) (fun i j hi hj => tA_mul (hne i j hi hj)) (fun i hi => by rw [hAC i i hi hi, if_pos rfl]) (fun k hk => by rw [hCA k k hk hk, if_pos rfl])]
      exact sumN_congr fun a ha => sumN_congr fun s hs => h4 a s ha hs
    rw [hs] at hfr
    unfold frac at hfr
    rw [← Rat.intCast_mul, Rat.intCast_inj] at hfr
    exact hfr
structure LawOk (ce : List Int) : Prop where
  det1 : detP (lawW ce) = lawS ce
  det2 : detP (sqP (lawW ce)) = lawS ce * permN (lawN ce) (lawW ce)
  none : lawS ce = 0 → invP (tableP ce) = .none
  some : lawS ce ≠ 0 → ∃ C, invP (tableP ce) = .some C ∧ C.length = lawN ce ∧ (∀ r ∈ C, r.length = lawN ce) ∧ (∀ r ∈ C, ∀ q ∈ r, Sz 1621 q) ∧
    (∀ a s, a < lawN ce → s < lawN ce → (ent (C.getD a []) s).num * loP (lawX ce) (lawY ce) a s = upP (lawX ce) (lawY ce) a s * (ent (C.getD a []) s).den) ∧
    (drawP ce 0 2 ≠ 1 → ∀ a s, a < lawN ce → s < lawN ce → (ent (C.getD a []) s).den = 1) ∧
    (allQ (lawN ce) C).1 = ((lawX ce).sum + (lawY ce).sum) * (allQ (lawN ce) C).2
theorem law_ok (ce : List Int) : LawOk ce :=
  have hN := lawN_rng ce
  have hD := det_law hN.1 hN.2 (lawX_len ce) (lawY_len ce)
  ⟨hD.1, hD.2, law_none, law_some⟩
end
-- part: WL
section
local macro_rules | `(tactic| walk_at "exec If") => `(tactic| (k_here; refine Stop.go ?_))
local macro_rules | `(tactic| walk_at "call builtin:sum") => `(tactic| (k_here; refine Stop.go ?_))
def IsT3 (o : Obj) : Prop := ∃ a0 a1 a2 n, o = { cls := .type "tuple", data := .seq #[.int 3 a0, .int 2 a1, .int 4 a2] n }
theorem t3E {h₀ h : Heap} {L T : Addr} {a0 a1 a2 : Tok} {n : Nat} {rest : Led} (N : News h₀ L h ((T, ({ cls := .type "tuple", data := .seq #[.int 3 a0, .int 2 a1, .int 4 a2] n } : Obj)) :: rest)) : ∃ o, IsT3 o ∧ News h₀ L h ((T, o) :: rest) := ⟨_, ⟨a0, a1, a2, n, rfl⟩, N⟩
theorem t3_item {prog : Program} {w : World} {A : Around} {E : Value → Shared → Prop} {s : Shared} {h₀ : Heap} {L : Addr} {news : Led} {value slice : PySem.Expr} {T : Addr} {o : Obj} {d : Int} {u : Tok} {Q : Value → Shared → Prop}
    (N : News h₀ L s.heap news) (hm : (T, o) ∈ news) (ho : IsT3 o) (h0 : 0 ≤ d) (h3 : d < 3)
    (h : ∀ t, Q (.int (nP d : Int) t) s) (hs : subscripted slice false (.ref T) (.int d u) = operate [.ref T, .int d u] (getItem (.ref T) (.int d u)) := by with_unfolding_all rfl) :
    wpAny (model prog w) A (subscriptTail value slice (.ref T) (.int d u)) Q E s := by
  obtain ⟨a0, a1, a2, n, rfl⟩ := ho
  obtain ⟨k, rfl⟩ : ∃ k : Nat, d = k := ⟨d.toNat, by lia⟩
  have hk : k < 3 := by lia
  obtain ⟨t, ht⟩ : ∃ t, ([.int 3 a0, .int 2 a1, .int 4 a2] : List Value)[k]? = some (.int (nP k : Int) t) := by
    match k, hk with
    | 0, _ | 1, _ | 2, _ => exact ⟨_, rfl⟩
  refine item_tupleT (l := [.int 3 a0, .int 2 a1, .int 4 a2]) (News.isTup N hm) (by lia) (by lia) (j := k) ?_ ht (h t) hs
  match k, hk with
  | 0, _ | 1, _ | 2, _ => rfl
/-- behind the law's first if -/
def AfterIf (h₀ : Heap) (L : Addr) (ce : List Int) (s₁ : Shared) (f : Flow) (s' : Shared) : Prop :=
  f = .next ∧ ∃ h tk m X Y, ∃ vx vy : List Value, ∃ kx ky q6 p2 p3 tn, s' = { s₁ with heap := h, toks := tk } ∧ Fr h₀ L h m ∧
    News h₀ L h [(L + 1 + 1 + 1 + 1 + 1 + 1, q6), (L + 1 + 1, p2), (L + 1 + 1 + 1, p3), (X, listOf vx.toArray kx), (Y, listOf vy.toArray ky)] ∧
    q6.data = .cell none ∧ p2.data = .cell (some (.int (lawN ce : Int) tn)) ∧ p3.data = .cell (some (.ref Y)) ∧ @LT.lt Nat _ (L + 6) X ∧ @LT.lt Nat _ (L + 6) Y ∧ All2 IntIn vx (lawX ce) ∧ All2 IntIn vy (lawY ce) ∧
    m "is_drawn" = some (.bool (drawP ce 0 2 == 1)) ∧ m "x" = some (.ref X)
theorem frE {h₀ h : Heap} {L : Addr} {m : Str → Option Value} (F : Fr h₀ L h m) : ∃ m, Fr h₀ L h m := ⟨m, F⟩
theorem six {h₀ h : Heap} {L : Addr} {p : Addr × Obj} {o1 o2 o3 o4 o5 o6 : Obj} (N : News h₀ L h [p, (L + 1 + 1 + 1 + 1 + 1 + 1, o6), (L + 1 + 1 + 1 + 1 + 1, o5), (L + 1 + 1 + 1 + 1, o4), (L + 1 + 1 + 1, o3), (L + 1 + 1, o2), (L + 1, o1)]) (hf : Fresh p.1 [(L + 1 + 1 + 1 + 1 + 1 + 1, o6), (L + 1 + 1 + 1 + 1 + 1, o5), (L + 1 + 1 + 1 + 1, o4), (L + 1 + 1 + 1, o3), (L + 1 + 1, o2), (L + 1, o1)])
    (d1 : o1.data = .cell none) (d2 : o2.data = .cell none) (d3 : o3.data = .cell none) (d4 : o4.data = .cell none) (d5 : o5.data = .cell none) (d6 : o6.data = .cell none) :
    ∃ q1 q2 q3 q4 q5 q6 : Obj, q1.data = .cell none ∧ q2.data = .cell none ∧ q3.data = .cell none ∧ q4.data = .cell none ∧ q5.data = .cell none ∧ q6.data = .cell none ∧ @LT.lt Nat _ (L + 6) p.1 ∧
      News h₀ L h [(L + 1, q1), (L + 1 + 1, q2), (L + 1 + 1 + 1, q3), (L + 1 + 1 + 1 + 1, q4), (L + 1 + 1 + 1 + 1 + 1, q5), (L + 1 + 1 + 1 + 1 + 1 + 1, q6), p] :=
  ⟨o1, o2, o3, o4, o5, o6, d1, d2, d3, d4, d5, d6, hf (L + 1 + 1 + 1 + 1 + 1 + 1, o6) (.head _), fun q hq => N q (by
    simp only [List.mem_cons, List.not_mem_nil, or_false] at hq ⊢
    rcases hq with h | h | h | h | h | h | h
    all_goals simp only [h, true_or, or_true])⟩
theorem numNew {w : World} {D : Addr} {q : Rat} {a b : Int} {t u : Tok} {n : Nat} {rest : Led} (e1 : q.num = a) (e2 : (q.den : Int) = b) : NumIn w ((D, ({ cls := .type "tuple", data := .seq #[.int a t, .int b u] n } : Obj)) :: rest) (.ref D) q :=
  ⟨D, t, u, n, rfl, .inl (by rw [e1, e2]; exact .head _)⟩
/-- between the turns of the law's three loops -/
inductive TJ (w : World) (L : Nat) (r2 r3 : Obj) (vx vy : List Value) (kx ky : Nat) (X Y T : Addr) (ce : List Int) (k : Nat) (m : Str → Option Value) (nx : Led) : Prop
  | mk (o : Obj) (v0 : Option Value) (rows : List Value) (kt : Nat) (imm : Led) (h1 : nx = (L + 1 + 1 + 1 + 1 + 1 + 1, o) :: (T, listOf rows.toArray kt) :: ([(L + 1 + 1, r2), (L + 1 + 1 + 1, r3), (X, listOf vx.toArray kx), (Y, listOf vy.toArray ky)] ++ imm))
    (h2 : o.data = .cell v0) (h3 : ∀ p ∈ imm, @LT.lt Nat _ (L + 6) p.1 ∧ p.1 ≠ T) (h4 : All2 (QRow w imm) rows ((tableP ce).take k)) (h5 : m "is_drawn" = some (.bool (drawP ce 0 2 == 1))) (h6 : m "x" = some (.ref X)) (h7 : m "table" = some (.ref T)) :
    TJ w L r2 r3 vx vy kx ky X Y T ce k m nx
inductive LJ (led : Led) (X G : Addr) (ce : List Int) (Ci : List (List Rat)) (i : Nat) (m : Str → Option Value) (nx : Led) : Prop
  | mk (h1 : nx = led) (h2 : m "is_drawn" = some (.bool (drawP ce 0 2 == 1))) (h3 : m "x" = some (.ref X)) (h4 : m "told" = some (.ref G)) (h5 : ∃ t, m "top" = some (.int ((List.range i).foldl (fun tb a => rowQ (lawN ce) tb (Ci.getD a [])) (0, 1)).1 t))
    (h6 : ∃ t, m "bottom" = some (.int ((List.range i).foldl (fun tb a => rowQ (lawN ce) tb (Ci.getD a [])) (0, 1)).2 t)) : LJ led X G ce Ci i m nx
inductive IJ (led : Led) (X G : Addr) (ce : List Int) (row : List Rat) (fo : Int × Int) (i j : Nat) (m : Str → Option Value) (nx : Led) : Prop
  | mk (h1 : nx = led) (h2 : m "is_drawn" = some (.bool (drawP ce 0 2 == 1))) (h3 : m "x" = some (.ref X)) (h4 : m "told" = some (.ref G)) (h5 : ∃ t, m "at" = some (.int i t)) (h6 : ∃ t, m "top" = some (.int ((List.range j).foldl (fun tb s => stepQ tb (ent row s)) fo).1 t))
    (h7 : ∃ t, m "bottom" = some (.int ((List.range j).foldl (fun tb s => stepQ tb (ent row s)) fo).2 t)) : IJ led X G ce row fo i j m nx
set_option maxHeartbeats 0
-- Names of our own, taken on purpose: the head of law_all would lay its largest quick twins (equations that only spare the kernel work) under these very names;
-- finding them taken it goes without those twins, which keeps the compiled file small. Nothing leans on these rows.
theorem law_all.tw357486453476387696 : True := True.intro
theorem law_all.tw17593554062392306943 : True := True.intro
theorem law_all.tw18376688217284010310 : True := True.intro
theorem law_all.tw8102590376130340518 : True := True.intro
theorem law_all.tw6517876322585433092 : True := True.intro
theorem law_all.tw728987619377575743 : True := True.intro
theorem law_all.tw10839815008358228737 : True := True.intro
theorem law_all.tw9385401536114106463 : True := True.intro
theorem law_all.tw15877617104253876215 : True := True.intro
theorem law_all.tw1702886262042523489 : True := True.intro
theorem law_all.tw18383949787495555429 : True := True.intro
theorem law_all.tw12020096104662128255 : True := True.intro
theorem law_all.tw11660793784710997211 : True := True.intro
theorem law_all.tw4607750278909125284 : True := True.intro
theorem law_all.tw2103784332974290115 : True := True.intro
theorem law_all.tw6317846471518068684 : True := True.intro
theorem law_all.tw6592884879708733306 : True := True.intro
theorem law_all.tw6550320685308687620 : True := True.intro
theorem law_all.tw5007728179111998763 : True := True.intro
theorem law_all.tw8729561690571945798 : True := True.intro
theorem law_all.tw7296818474457393607 : True := True.intro
theorem law_all.tw17613353281601113540 : True := True.intro
theorem law_all.tw1115970785884932992 : True := True.intro
theorem law_all.tw404534946110283943 : True := True.intro
theorem law_all.tw3226911033302893226 : True := True.intro
theorem law_all.tw7791439051762490624 : True := True.intro
theorem law_all.tw11090485264053204359 : True := True.intro
theorem law_all.tw3826946535189723318 : True := True.intro
theorem law_all.tw7290121776363987770 : True := True.intro
theorem law_all.tw8559622642134532576 : True := True.intro
theorem law_all.tw11464865452401227656 : True := True.intro
theorem law_all.tw13760747126890918739 : True := True.intro
theorem law_all.tw2030871139163601056 : True := True.intro
theorem law_all.tw31263012393092130 : True := True.intro
theorem law_all.tw10145363553656391591 : True := True.intro
theorem law_all.tw11819635365892184359 : True := True.intro
theorem law_all.tw4338267340049963969 : True := True.intro
theorem law_all.tw11185291794543270386 : True := True.intro
theorem law_all.tw7209142699435546151 : True := True.intro
theorem law_all.tw9144500139776326259 : True := True.intro
theorem law_all.tw18369321035705266579 : True := True.intro
theorem law_all.tw801417409540640141 : True := True.intro
theorem law_all.tw12481217338035120217 : True := True.intro
theorem law_all.tw11085147635474315433 : True := True.intro
theorem law_all.tw15982079766070313398 : True := True.intro
theorem law_all.tw7244142420057014546 : True := True.intro
theorem law_all.tw12729013581757030507 : True := True.intro
theorem law_all.tw12836747770095448064 : True := True.intro
theorem law_all.tw857312800663944748 : True := True.intro
theorem law_all.tw2224743311408289904 : True := True.intro
theorem law_all.tw3707600311073335261 : True := True.intro
set_option Elab.async true
theorem law_all : PySem.Challenge.rw_xm0074_01.Holds := by
  w_on
  o_law
  o_head (kHook Mine.hd.heap_1 [2, 3, 15, 22, 24, 25, 27, 28, 29, 30, 31, 32, 35, 37, 38, 40, 41, 42, 43, 44, 46, 47, 49, 50, 51, 53, 54, 56, 57, 58, 60, 61, 63, 64, 65, 67, 68, 70, 71, 72, 74, 75, 77, 78, 79, 81, 82, 84, 85, 86, 89, 90, 91, 94, 95, 96, 98, 99, 101, 102, 103, 106, 107, 108, 111, 112, 113, 116, 117, 118, 120, 121, 123, 124, 125, 127, 128, 130, 131, 132, 135, 136, 137, 139, 140, 142, 143, 144, 146, 147, 149, 150, 151, 153, 154, 156, 157, 158, 160, 161, 163, 164, 165, 168, 169, 170, 173, 174] (fun _ => by kernel_rfl))
  (case hw => w_witness2)
  k_go0
  all_goals (try k_fold)
  k_steps
  rename Shared => s1
  rename World => w0
  rename Top _ _ _ _ _ _ => T0
  replace T0 : TopF _ _ _ _ := T0
  rename Fr _ _ _ _ => F0
  rename News _ _ _ _ => N0
  rename IntsAre _ _ => hI0
  rename Heap.IsList _ _ _ => hl0
  have hlen0 := Int.not_lt.mp ‹¬ ((63 : Nat) : Int) < _›
  have hIl := hI0.length
  refine Stop.mk (li_uptoL (y := 10) F0 N0 (Fr.lst F0 hl0) (by rw [sizeLine_eq]; omega) (fun C h2 F2 N2 hf2 => ?_) (by with_unfolding_all rfl) (by intro r; with_unfolding_all rfl))
  have hA0 := (ints_of hI0).take 10
  refine hideG fun Gd hGd => ?_
  obtain ⟨q1, q2, q3, q4, q5, q6, d1, d2, d3, d4, d5, d6, hLC, N3⟩ := six N2 hf2 (by assumption) (by assumption) (by assumption) (by assumption) (by assumption) (by assumption)
  refine hGd ?_
  clear hGd Gd
  clear N2
  have hcl : (List.take 10 _ : List Int).length ≤ 10 := Nat.le_trans (Nat.le_of_eq hA0.length.symm) (List.length_take_le _ _)
  generalize (List.take 10 _ : List Value) = cv at N3 hA0
  generalize (List.take 10 _ : List Int) = ce at hA0 hcl
  have mC : (C, listOf cv.toArray 0) ∈ [(s1.heap.objs.size + 1, q1), (s1.heap.objs.size + 1 + 1, q2), (s1.heap.objs.size + 1 + 1 + 1, q3), (s1.heap.objs.size + 1 + 1 + 1 + 1, q4), (s1.heap.objs.size + 1 + 1 + 1 + 1 + 1, q5), (s1.heap.objs.size + 1 + 1 + 1 + 1 + 1 + 1, q6), (C, listOf cv.toArray 0)] := by walk_at "mem"
  have hLC' : @LT.lt Nat _ (s1.heap.objs.size + 6) C := hLC
  clear hLC
  rename Fr _ _ _ _ => FS
  rename News _ _ _ _ => NS
  refine Stop.mk (srcC_list (by rfl) FS NS (mC) ?_)
  clear FS NS
  intro I hI S FI NI
  have hcvl := hA0.length
  refine comp_local S (by rw [sizeLine_eq]; omega) FI NI (by decide) (by rfl) (by rfl) (fun i ys nx => nx = [(s1.heap.objs.size + 1, q1), (s1.heap.objs.size + 1 + 1, q2), (s1.heap.objs.size + 1 + 1 + 1, q3), (s1.heap.objs.size + 1 + 1 + 1 + 1, q4), (s1.heap.objs.size + 1 + 1 + 1 + 1 + 1, q5), (s1.heap.objs.size + 1 + 1 + 1 + 1 + 1 + 1, q6), (C, listOf cv.toArray 0)] ∧ All2 IntIn ys (ce.take i)) ⟨rfl, trivial⟩ (fun i ys nx hj p hp => by rw [List.mem_singleton.mp hp, hj.1]; exact mC) ?_ (ret_E ?_)
  · intro C1 D1 i v ys nx h3 tk3 its3 oC m3 E3 hi hv hNs hx hp1_ ho3 F3 N3 Qc Qf hQ hQf
    refine hideG fun Gd hGd => ?_
    obtain ⟨rfl, hys⟩ := hp1_
    obtain ⟨x, hx1, tx, rfl⟩ := hA0.get hv
    refine hGd ?_
    clear hGd Gd
    refine tests0 ?_
    k_steps
    refine hQ _ _ ?_
    exact cend0 (by assumption) (by assumption) ho3 ⟨rfl, all2_step hys (fun _ _ h => h) hx1 ⟨_, rfl⟩⟩
  · intro C2 cw nx h3 tk3 hf3 hp1_ F3 N3 ho3
    refine hideG fun Gd hGd => ?_
    obtain ⟨rfl, hys⟩ := hp1_
    refine hGd ?_
    clear hGd Gd
    clear NI FI S
    rw [hcvl, List.take_length] at hys
    k_steps
    rename Fr _ _ _ _ => FS
    rename News _ _ _ _ => NS
    refine hideG fun Gd hGd => ?_
    obtain ⟨m0, FS⟩ := frE FS
    refine hGd ?_
    clear hGd Gd
    rename_i P _ _ lP
    have hCC : @LT.lt Nat _ C C2 := hf3 (C, listOf cv.toArray 0) (by walk_at "mem")
    have hCP : @LT.lt Nat _ C2 P := lP.1
    have NS2 : News s1.heap s1.heap.objs.size _ [(s1.heap.objs.size + 1, q1), (s1.heap.objs.size + 1 + 1, q2), (s1.heap.objs.size + 1 + 1 + 1, q3), (s1.heap.objs.size + 1 + 1 + 1 + 1, q4), (s1.heap.objs.size + 1 + 1 + 1 + 1 + 1, q5), (s1.heap.objs.size + 1 + 1 + 1 + 1 + 1 + 1, q6), (P, listOf #[.ref C2, .int (0 : Nat) tk3] 0), (C2, LCg.lst cw)] := nsub NS (by walk_at "sub")
    clear NS
    refine Stop.mk (st_cell FS NS2 (by walk_at "sub") (by rfl) d1 ?_ (by rfl) (by rfl))
    clear FS NS2
    intro h4 p1 F4 N4 e1
    have N5 : News s1.heap s1.heap.objs.size _ [(P, listOf #[.ref C2, .int (0 : Nat) tk3] 0), (C2, LCg.lst cw), (s1.heap.objs.size + 1, p1), (s1.heap.objs.size + 1 + 1, q2), (s1.heap.objs.size + 1 + 1 + 1, q3), (s1.heap.objs.size + 1 + 1 + 1 + 1, q4), (s1.heap.objs.size + 1 + 1 + 1 + 1 + 1, q5), (s1.heap.objs.size + 1 + 1 + 1 + 1 + 1 + 1, q6)] := nsub N4 (by walk_at "sub")
    clear N4
    have hoffP : ∀ p ∈ [(C2, LCg.lst cw), (s1.heap.objs.size + 1, p1), (s1.heap.objs.size + 1 + 1, q2), (s1.heap.objs.size + 1 + 1 + 1, q3), (s1.heap.objs.size + 1 + 1 + 1 + 1, q4), (s1.heap.objs.size + 1 + 1 + 1 + 1 + 1, q5), (s1.heap.objs.size + 1 + 1 + 1 + 1 + 1 + 1, q6)], p.1 ≠ P := by walk_at "sub"
    k_steps
    refine' Con.use (draw_con _ P C2 cw 0 _ ce 0 2 _ _ hoffP (.head _) hys (by lia) (by decide) (by decide) (by decide)) ?k1 ?k2 ?k3 ?k4 ?k5 ?kK ?kd ?ku ?_
    (case k1 => k_asm)
    (case k2 => k_asm)
    (case k3 => k_asm)
    (case k4 => k_asm)
    (case k5 => k_asm)
    (case kK => first | exact rfl | assumption)
    (case kd => ktr_room)
    (case ku => ktr_units)
    intro r6 n6 h6 tk6 F6 N6 hp1_
    refine hideG fun Gd hGd => ?_
    obtain ⟨⟨t6, rfl⟩, t7, rfl⟩ := hp1_
    refine hGd ?_
    clear hGd Gd
    k_steps
    rename News _ _ _ _ => NS
    rename_i T3 _ _ lT
    refine hideG fun Gd hGd => ?_
    obtain ⟨o3, hT3, N7⟩ := t3E NS
    refine hGd ?_
    clear hGd Gd
    have lTP : @LT.lt Nat _ P T3 := lT.1
    clear NS
    have N8 : News s1.heap s1.heap.objs.size _ [(P, listOf #[.ref C2, .int ((0 + 1 : Nat) : Int) t7] 0), (T3, o3), (C2, LCg.lst cw), (s1.heap.objs.size + 1, p1), (s1.heap.objs.size + 1 + 1, q2), (s1.heap.objs.size + 1 + 1 + 1, q3), (s1.heap.objs.size + 1 + 1 + 1 + 1, q4), (s1.heap.objs.size + 1 + 1 + 1 + 1 + 1, q5), (s1.heap.objs.size + 1 + 1 + 1 + 1 + 1 + 1, q6)] := nsub N7 (by walk_at "sub")
    clear N7
    have hoffP2 : ∀ p ∈ [(T3, o3), (C2, LCg.lst cw), (s1.heap.objs.size + 1, p1), (s1.heap.objs.size + 1 + 1, q2), (s1.heap.objs.size + 1 + 1 + 1, q3), (s1.heap.objs.size + 1 + 1 + 1 + 1, q4), (s1.heap.objs.size + 1 + 1 + 1 + 1 + 1, q5), (s1.heap.objs.size + 1 + 1 + 1 + 1 + 1 + 1, q6)], p.1 ≠ P := fun p hp => by
      rcases List.mem_cons.mp hp with rfl | hp
      · exact neGt lTP
      · exact hoffP p hp
    refine' Con.use (draw_con _ P C2 cw 0 _ ce 1 3 _ _ hoffP2 (.tail _ (.head _)) hys (by lia) (by decide) (by decide) (by decide)) ?k1 ?k2 ?k3 ?k4 ?k5 ?kK ?kd ?ku ?_
    (case k1 => k_asm)
    (case k2 => k_asm)
    (case k3 => k_asm)
    (case k4 => k_asm)
    (case k5 => k_asm)
    (case kK => first | exact rfl | assumption)
    (case kd => ktr_room)
    (case ku => ktr_units)
    intro r6 n6 h6 tk6 F6 N6 hp1_
    refine hideG fun Gd hGd => ?_
    obtain ⟨⟨t8, rfl⟩, t9, rfl⟩ := hp1_
    refine hGd ?_
    clear hGd Gd
    have hd3 : 0 ≤ drawP ce 1 3 ∧ drawP ce 1 3 < 3 := ⟨Int.emod_nonneg _ (by decide), Int.emod_lt_of_pos _ (by decide)⟩
    k_steps
    refine Stop.mk (t3_item (by assumption) (.tail _ (.head _)) hT3 hd3.1 hd3.2 fun tn => ?_)
    k_steps
    rename Fr _ _ _ _ => FS
    rename News _ _ _ _ => NS
    have hnn : 2 ≤ nP (drawP ce 1 3) ∧ nP (drawP ce 1 3) ≤ 4 := by
      refine hideG fun Gd hGd => ?_
      obtain ⟨h0, h3⟩ := hd3
      refine hGd ?_
      clear hGd Gd
      generalize drawP ce 1 3 = d at h0 h3
      have : d = 0 ∨ d = 1 ∨ d = 2 := by lia
      rcases this with rfl | rfl | rfl <;> decide
    have N9 : News s1.heap s1.heap.objs.size _ [(s1.heap.objs.size + 1 + 1, q2), (P, listOf #[.ref C2, .int ((1 + 1 : Nat) : Int) t9] 0), (C2, LCg.lst cw), (s1.heap.objs.size + 1, p1), (s1.heap.objs.size + 1 + 1 + 1, q3), (s1.heap.objs.size + 1 + 1 + 1 + 1, q4), (s1.heap.objs.size + 1 + 1 + 1 + 1 + 1, q5), (s1.heap.objs.size + 1 + 1 + 1 + 1 + 1 + 1, q6)] := nsub NS (by walk_at "sub")
    clear NS
    refine Stop.mk (st_cell FS N9 (by walk_at "sub") (by rfl) d2 ?_ (by rfl) (by rfl))
    clear FS N9
    intro h9 p2 F9 N9 e2
    k_steps
    refine Stop.mk (wpAny_mono (Q := AfterIf s1.heap s1.heap.objs.size ce s1) ?_ (fun f s' hAI => ?_) (fun _ _ e => e))
    rotate_left
    · refine hideG fun Gd hGd => ?_
      obtain ⟨rfl, h20, tk20, m20, X, Y, vx, vy, kx, ky, r6, r2, r3, tn2, rfl, F20, N20, f6, f2, f3, hLX, hLY, hvx, hvy, hmd, hmx⟩ := hAI
      refine hGd ?_
      clear hGd Gd
      dsimp only
      replace F20 := fr_ov F20 (Kn.all (ps := [("is_drawn", .bool (drawP ce 0 2 == 1)), ("x", .ref X)]) ⟨hmd, hmx, trivial⟩)
      have mX : (X, listOf vx.toArray kx) ∈ [(s1.heap.objs.size + 1 + 1 + 1 + 1 + 1 + 1, r6), (s1.heap.objs.size + 1 + 1, r2), (s1.heap.objs.size + 1 + 1 + 1, r3), (X, listOf vx.toArray kx), (Y, listOf vy.toArray ky)] := by walk_at "mem"
      k_steps
      rename News _ _ _ _ => NS
      rename_i T _ lT _ _
      have lTL : @LT.lt Nat _ (s1.heap.objs.size + 6) T := lT.1
      have lTX : @LT.lt Nat _ X T := lT.2.2.2.1
      have lTY : @LT.lt Nat _ Y T := lT.2.2.2.2
      have hvxl := hvx.length
      have hvyl := hvy.length
      have hXl := lawX_len ce
      have hYl := lawY_len ce
      have hN := lawN_rng ce
      have NS2 := nsub (a := (s1.heap.objs.size + 1 + 1 + 1 + 1 + 1 + 1, r6) :: (T, listOf #[] 0) :: [(s1.heap.objs.size + 1 + 1, r2), (s1.heap.objs.size + 1 + 1 + 1, r3), (X, listOf vx.toArray kx), (Y, listOf vy.toArray ky)]) NS (by walk_at "sub")
      clear NS
      have mX2 : (X, listOf vx.toArray kx) ∈ (s1.heap.objs.size + 1 + 1 + 1 + 1 + 1 + 1, r6) :: (T, listOf #[] 0) :: [(s1.heap.objs.size + 1 + 1, r2), (s1.heap.objs.size + 1 + 1 + 1, r3), (X, listOf vx.toArray kx), (Y, listOf vy.toArray ky)] := by walk_at "mem"
      rename Fr _ _ _ _ => FS
      rename News _ _ _ _ => NS
      refine Stop.mk (srcF_list (by rfl) FS NS (mX2) ?_)
      clear FS NS
      intro I hI S FI NI
      refine for_src S FI NI (fun k m nx => TJ w0 s1.heap.objs.size r2 r3 vx vy kx ky X Y T ce k m nx) ?th0 (fun k m nx hj p hp => ?thk) ?tturn ?tdone
      case th0 =>
        exact ⟨r6, none, [], 0, [], rfl, f6, (fun _ h => nomatch h), trivial, by rfl, by rfl, by rfl⟩
      case thk =>
        refine hideG fun Gd hGd => ?_
        obtain ⟨o, v0, rows, kt, imm, rfl, _⟩ := hj
        refine hGd ?_
        clear hGd Gd
        rw [List.mem_singleton.mp hp]
        walk_at "mem"
      case tturn =>
        intro k v m21 nx h21 tk21 its21 hk hv hp1_ ho21 F21 N21 Qt hQ
        refine hideG fun Gd hGd => ?_
        obtain ⟨o, v0, rows, kt, imm, rfl, ho0, himm, hrows, qd, qx, qt⟩ := hp1_
        replace F21 := fr_ov F21 (Kn.all (ps := [("is_drawn", .bool (drawP ce 0 2 == 1)), ("x", .ref X), ("table", .ref T)]) ⟨qd, qx, qt, trivial⟩)
        obtain ⟨x, hx, tx, rfl⟩ := hvx.get hv
        refine hGd ?_
        clear hGd Gd
        k_steps
        have b3 : (s1.heap.objs.size + 1 + 1 + 1, r3) ∈ (T, listOf rows.toArray kt) :: ([(s1.heap.objs.size + 1 + 1, r2), (s1.heap.objs.size + 1 + 1 + 1, r3), (X, listOf vx.toArray kx), (Y, listOf vy.toArray ky)] ++ imm) ++ its21 := by walk_at "mem"
        have bY : (Y, listOf vy.toArray ky) ∈ (T, listOf rows.toArray kt) :: ([(s1.heap.objs.size + 1 + 1, r2), (s1.heap.objs.size + 1 + 1 + 1, r3), (X, listOf vx.toArray kx), (Y, listOf vy.toArray ky)] ++ imm) ++ its21 := by walk_at "mem"
        have bT : (T, listOf rows.toArray kt) ∈ (T, listOf rows.toArray kt) :: ([(s1.heap.objs.size + 1 + 1, r2), (s1.heap.objs.size + 1 + 1 + 1, r3), (X, listOf vx.toArray kx), (Y, listOf vy.toArray ky)] ++ imm) ++ its21 := by walk_at "mem"
        have bo : ∀ p ∈ (T, listOf rows.toArray kt) :: ([(s1.heap.objs.size + 1 + 1, r2), (s1.heap.objs.size + 1 + 1 + 1, r3), (X, listOf vx.toArray kx), (Y, listOf vy.toArray ky)] ++ imm) ++ its21, p.1 ≠ s1.heap.objs.size + 1 + 1 + 1 + 1 + 1 + 1 := off_app (off_cons (cb6 lTL).symm (off_app (by walk_at "sub") fun p hp => (cb6 (himm p hp).1).symm)) fun p hp e => ho21 _ (.head _) p hp e.symm
        replace N21 : News s1.heap s1.heap.objs.size h21 ((s1.heap.objs.size + 1 + 1 + 1 + 1 + 1 + 1, o) :: ((T, listOf rows.toArray kt) :: ([(s1.heap.objs.size + 1 + 1, r2), (s1.heap.objs.size + 1 + 1 + 1, r3), (X, listOf vx.toArray kx), (Y, listOf vy.toArray ky)] ++ imm) ++ its21)) := N21
        generalize hR : (T, listOf rows.toArray kt) :: ([(s1.heap.objs.size + 1 + 1, r2), (s1.heap.objs.size + 1 + 1 + 1, r3), (X, listOf vx.toArray kx), (Y, listOf vy.toArray ky)] ++ imm) ++ its21 = R at b3 bY bT bo N21
        rename Fr _ _ _ _ => FS
        rename News _ _ _ _ => NS
        refine Stop.mk (st_cell FS NS bo (by rfl) ho0 ?_ (by rfl) (by rfl))
        clear FS NS
        intro h22 o22 F22 N22 e22
        have u6 : (s1.heap.objs.size + 1 + 1 + 1 + 1 + 1 + 1, o22) ∈ (s1.heap.objs.size + 1 + 1 + 1 + 1 + 1 + 1, o22) :: R := .head _
        have u3 : (s1.heap.objs.size + 1 + 1 + 1, r3) ∈ (s1.heap.objs.size + 1 + 1 + 1 + 1 + 1 + 1, o22) :: R := .tail _ b3
        have uY : (Y, listOf vy.toArray ky) ∈ (s1.heap.objs.size + 1 + 1 + 1 + 1 + 1 + 1, o22) :: R := .tail _ bY
        have uT : (T, listOf rows.toArray kt) ∈ (s1.heap.objs.size + 1 + 1 + 1 + 1 + 1 + 1, o22) :: R := .tail _ bT
        k_steps
        rename Fr _ _ _ _ => FS
        rename News _ _ _ _ => NS
        refine Stop.mk (srcC_list (by rfl) FS NS (uY) ?_)
        clear FS NS
        intro I hI S FI NI
        have hRf : Gr ((s1.heap.objs.size + 1 + 1 + 1 + 1 + 1 + 1, o22) :: R) (fun _ => True) ((s1.heap.objs.size + 1 + 1 + 1 + 1 + 1 + 1, o22) :: R) := .refl trivial
        refine comp_local S (by rw [sizeLine_eq]; omega) FI NI (by decide) (by rfl) (by rfl) (fun j ys nx => Gr ((s1.heap.objs.size + 1 + 1 + 1 + 1 + 1 + 1, o22) :: R) (fun add => All2 (NumIn w0 add) ys (((lawY ce).map fun other => Rat.divInt 1 (x + other)).take j)) nx) (.refl trivial) (fun i ys nx hj p hp => by rw [List.mem_singleton.mp hp]; exact hj.sub _ uY) ?_ (ret_E ?_)
        · intro C9 D9 j v ys nx h23 tk23 its23 oC m23 E23 hj hv23 hNs hx23 hJ ho23 F23 N23 Qc Qf hQ hQf
          refine hideG fun Gd hGd => ?_
          obtain ⟨y, hy, ty, rfl⟩ := hvy.get hv23
          refine hGd ?_
          clear hGd Gd
          have v6 : (s1.heap.objs.size + 1 + 1 + 1 + 1 + 1 + 1, o22) ∈ nx := hJ.sub _ u6
          have hne := law_ne (List.mem_of_getElem? hx) (List.mem_of_getElem? hy)
          have hz : ((lawY ce).map fun other => Rat.divInt 1 (x + other))[j]? = some (Rat.divInt 1 (x + y)) := by rw [List.getElem?_map, hy]; rfl
          refine tests0 ?_
          k_steps
          · rename_i a D' _ _ _ l1
            replace l1 : Fresh D' (nx ++ (C9, oC) :: (D9, LCg.lst ys) :: its23) := l1
            refine hideG fun Gd hGd => ?_
            obtain ⟨e1, e2⟩ := one_pos a
            refine hGd ?_
            clear hGd Gd
            refine hQ _ _ ?_
            refine cend1 (p := (D', _)) (by assumption) (by assumption) l1 ho23 (hJ.cons (q := (D', _)) (l1.sub fun p hp => List.mem_append_left _ hp) fun add h => all2_step h (fun _ _ h => NumIn.mono h fun _ h => .tail _ h) hz (numNew e1 e2))
          · rename_i a D' _ _ _ l1
            replace l1 : Fresh D' (nx ++ (C9, oC) :: (D9, LCg.lst ys) :: its23) := l1
            refine hideG fun Gd hGd => ?_
            obtain ⟨e1, e2⟩ := one_neg (show x + y < 0 by lia)
            refine hGd ?_
            clear hGd Gd
            rw [show -(x + y) = 0 - x - y by lia] at e2
            refine hQ _ _ ?_
            refine cend1 (p := (D', _)) (by assumption) (by assumption) l1 ho23 (hJ.cons (q := (D', _)) (l1.sub fun p hp => List.mem_append_left _ hp) fun add h => all2_step h (fun _ _ h => NumIn.mono h fun _ h => .tail _ h) hz (numNew e1 e2))
        · intro D23 ys23 nx h23 tk23 hf23 hJ23 F23 N23 ho23
          clear NI FI S
          k_steps
          rw [List.take_of_length_le (by rw [List.length_map]; omega)] at hJ23
          refine hideG fun Gd hGd => ?_
          obtain ⟨add, rfl, hfa, hA23⟩ := hJ23
          refine hGd ?_
          clear hGd Gd
          rename Fr _ _ _ _ => FS
          rename News _ _ _ _ => NS
          have hTin : (T, listOf rows.toArray kt) ∈ R := bT
          have hlen : rows.length ≤ 4 := by rw [hrows.length, List.length_take]; simp only [tableP, List.length_map]; omega
          have hRm : ∀ p ∈ R, p = (T, listOf rows.toArray kt) ∨ p ∈ [(s1.heap.objs.size + 1 + 1, r2), (s1.heap.objs.size + 1 + 1 + 1, r3), (X, listOf vx.toArray kx), (Y, listOf vy.toArray ky)] ++ imm ∨ p ∈ its21 := fun p hp => by
            rw [← hR] at hp
            rcases List.mem_cons.mp hp with h | hp
            · exact .inl h
            · exact .inr (List.mem_append.mp hp)
          have hRk : ∀ p ∈ [(s1.heap.objs.size + 1 + 1, r2), (s1.heap.objs.size + 1 + 1 + 1, r3), (X, listOf vx.toArray kx), (Y, listOf vy.toArray ky)] ++ imm, p ∈ R := fun p hp => by
            rw [← hR]; exact .tail _ (List.mem_append_left _ hp)
          have hRi : ∀ p ∈ its21, p ∈ R := fun p hp => by
            rw [← hR]; exact .tail _ (List.mem_append_right _ hp)
          have hkT : ∀ p ∈ [(s1.heap.objs.size + 1 + 1, r2), (s1.heap.objs.size + 1 + 1 + 1, r3), (X, listOf vx.toArray kx), (Y, listOf vy.toArray ky)] ++ imm, p.1 ≠ T := off_app (by walk_at "sub") fun p hp => (himm p hp).2
          have hoi : ∀ p ∈ its21, p.1 ≠ T ∧ p.1 ≠ s1.heap.objs.size + 1 + 1 + 1 + 1 + 1 + 1 := fun p hp => ⟨fun e => ho21 (T, listOf rows.toArray kt) (by walk_at "mem") p hp e.symm, fun e => ho21 _ (.head _) p hp e.symm⟩
          have hDT : @LT.lt Nat _ T D23 := hf23 _ uT
          have hDc : @LT.lt Nat _ (s1.heap.objs.size + 1 + 1 + 1 + 1 + 1 + 1) D23 := hf23 _ u6
          have haT : ∀ p ∈ add, @LT.lt Nat _ T p.1 ∧ @LT.lt Nat _ (s1.heap.objs.size + 1 + 1 + 1 + 1 + 1 + 1) p.1 := fun p hp => ⟨hfa p hp _ uT, hfa p hp _ u6⟩
          refine Stop.mk (li_append (vs := rows) (n := kt) (rest := (D23, LCg.lst ys23) :: (add ++ (s1.heap.objs.size + 1 + 1 + 1 + 1 + 1 + 1, o22) :: (([(s1.heap.objs.size + 1 + 1, r2), (s1.heap.objs.size + 1 + 1 + 1, r3), (X, listOf vx.toArray kx), (Y, listOf vy.toArray ky)] ++ imm) ++ its21))) FS (nsub NS (sub_cons (.tail _ (List.mem_append_right _ uT)) (sub_cons (.head _) (sub_app (fun p hp => .tail _ (List.mem_append_left _ hp)) (sub_cons (.tail _ (List.mem_append_right _ u6)) (sub_app (fun p hp => .tail _ (List.mem_append_right _ (.tail _ (hRk p hp)))) fun p hp => .tail _ (List.mem_append_right _ (.tail _ (hRi p hp))))))))) (off_cons (neGt hDT) (off_app (fun p hp => neGt (haT p hp).1) (off_cons (cb6 lTL) (off_app hkT fun p hp => (hoi p hp).1)))) (by rw [sizeLine_eq]; omega) fun h24 F24 N24 => ?_)
          clear FS NS
          k_steps
          rename Fr _ _ _ _ => FS
          rename News _ _ _ _ => NS
          have hz : (tableP ce)[k]? = some ((lawY ce).map fun other => Rat.divInt 1 (x + other)) := by rw [tableP, List.getElem?_map, hx]; rfl
          have his : Off its21 [(D23, LCg.lst ys23)] := fun p hp q hq => by
            rw [List.mem_singleton.mp hp]
            exact fun e => Nat.lt_irrefl _ (e ▸ hf23 q (.tail _ (hRi q hq)))
          have hia : Off its21 add := fun p hp q hq e => Nat.lt_irrefl _ (e ▸ hfa p hp q (.tail _ (hRi q hq)))
          refine hQ _ _ ?_
          refine lend (nx := (s1.heap.objs.size + 1 + 1 + 1 + 1 + 1 + 1, o22) :: (T, listOf (rows ++ [Value.ref D23]).toArray (kt + 1)) :: ([(s1.heap.objs.size + 1 + 1, r2), (s1.heap.objs.size + 1 + 1 + 1, r3), (X, listOf vx.toArray kx), (Y, listOf vy.toArray ky)] ++ ((D23, LCg.lst ys23) :: (add ++ imm)))) FS NS (fun p hp => .tail _ (.tail _ (List.mem_append_right _ (.tail _ (List.mem_append_right _ hp))))) (sub_cons (.tail _ (.tail _ (List.mem_append_right _ (.head _)))) (sub_cons (.head _) (sub_app (fun p hp => .tail _ (.tail _ (List.mem_append_right _ (.tail _ (List.mem_append_left _ (List.mem_append_left _ hp)))))) (sub_cons (.tail _ (.head _)) (sub_app (fun p hp => .tail _ (.tail _ (List.mem_append_left _ hp))) fun p hp => .tail _ (.tail _ (List.mem_append_right _ (.tail _ (List.mem_append_left _ (List.mem_append_right _ hp)))))))))) ?_ ⟨o22, _, rows ++ [Value.ref D23], kt + 1, (D23, LCg.lst ys23) :: (add ++ imm), rfl, e22, fun p hp => ?_, all2_step hrows (fun _ _ h => QRow.mono h fun p hp => .tail _ (List.mem_append_right _ hp)) hz ⟨D23, ys23, _, rfl, .head _, hA23.mono fun _ _ h => NumIn.mono h fun p hp => .tail _ (List.mem_append_left _ hp)⟩, by rfl, by rfl, by rfl⟩
          · refine .cons (fun q hq e => (hoi q hq).2 e.symm) (.cons (fun q hq e => (hoi q hq).1 e.symm) (.app (fun p hp => ho21 p (.tail _ (.tail _ (List.mem_append_left _ hp)))) (.cons (his _ (.head _)) (.app hia fun p hp => ho21 p (.tail _ (.tail _ (List.mem_append_right _ hp)))))))
          · rcases List.mem_cons.mp hp with rfl | hp
            · exact ⟨by show @LT.lt Nat _ (s1.heap.objs.size + 6) D23; omega, neN (by dsimp only; omega)⟩
            · rcases List.mem_append.mp hp with hp | hp
              · have := haT p hp
                exact ⟨by show @LT.lt Nat _ (s1.heap.objs.size + 6) p.1; omega, neN (by lia)⟩
              · exact himm p hp
      case tdone =>
        intro m21 nx h21 tk21 hp1_ F21 N21
        refine hideG fun Gd hGd => ?_
        obtain ⟨o, v0, rows, kt, imm, rfl, ho0, himm, hrows, qd, qx, qt⟩ := hp1_
        refine hGd ?_
        clear hGd Gd
        replace F21 := fr_ov F21 (Kn.all (ps := [("is_drawn", .bool (drawP ce 0 2 == 1)), ("x", .ref X), ("table", .ref T)]) ⟨qd, qx, qt, trivial⟩)
        clear NI FI S
        rw [hvxl, hXl, List.take_of_length_le (by simp only [tableP, List.length_map]; omega)] at hrows
        have himmL : ∀ p ∈ imm, @LT.lt Nat _ (s1.heap.objs.size + 6) p.1 := fun p hp => (himm p hp).1
        generalize hK : (s1.heap.objs.size + 1 + 1 + 1 + 1 + 1 + 1, o) :: (T, listOf rows.toArray kt) :: ([(s1.heap.objs.size + 1 + 1, r2), (s1.heap.objs.size + 1 + 1 + 1, r3), (X, listOf vx.toArray kx), (Y, listOf vy.toArray ky)] ++ imm) = K at N21
        have kX : (X, listOf vx.toArray kx) ∈ K := by rw [← hK]; walk_at "mem"
        have kY : (Y, listOf vy.toArray ky) ∈ K := by rw [← hK]; walk_at "mem"
        have kT : (T, listOf rows.toArray kt) ∈ K := by rw [← hK]; walk_at "mem"
        have k2 : (s1.heap.objs.size + 1 + 1, r2) ∈ K := by rw [← hK]; walk_at "mem"
        have k3 : (s1.heap.objs.size + 1 + 1 + 1, r3) ∈ K := by rw [← hK]; walk_at "mem"
        have hTab : QMat w0 K (.ref T) (tableP ce) := ⟨T, rows, kt, rfl, kT, hrows.mono fun _ _ h => QRow.mono h fun p hp => by rw [← hK]; walk_at "mem"⟩
        clear hK
        k_steps
        rename Fr _ _ _ _ => FS
        rename News _ _ _ _ => NS
        refine Stop.mk (srcC_list (by rfl) FS NS (kX) ?_)
        clear FS NS
        intro I hI S FI NI
        refine comp_cell S (by rw [sizeLine_eq]; omega) FI NI (by intro k; rfl) (by intro h; rfl) (by rfl) (by rfl) (fun i ys nx => Gr K (fun add => All2 (IRow add) ys ((wholeP (lawN ce) (lawX ce) (lawY ce)).take i)) nx) (.refl trivial) (fun i ys nx hj p hp => by rw [List.mem_singleton.mp hp]; exact hj.sub _ kX) ?_ (ret_A (by rfl) (by rfl) (by rfl) ?_)
        · intro C c D i v ys nx h30 tk30 its oC m30 oc E30 hi hv hn hx hJ ho F30 N30 Qc Qf hQ hQf
          refine hideG fun Gd hGd => ?_
          obtain ⟨x, hx1, tx, rfl⟩ := hvx.get hv
          refine hGd ?_
          clear hGd Gd
          have hxb : x.natAbs < 1000 := by have := lawX_rng (List.mem_of_getElem? hx1); omega
          have n2 : (s1.heap.objs.size + 1 + 1, r2) ∈ nx := hJ.sub _ k2
          refine tests0 ?_
          k_steps
          rename Fr _ _ _ _ => FS
          rename News _ _ _ _ => NS
          rename IsRange _ _ _ _ _ _ _ _ => RS
          refine Stop.mk (srcC_range (n := (lawN ce)) (by rfl) FS NS RS (by omega) (by omega) (by omega) (by omega) (by omega) ?_)
          clear FS NS RS
          intro I hI S FI NI
          have hGr : ∀ {n2 : Led} {P : Led → Prop}, Gr (nx ++ ((C, oC) :: (c, oc) :: (D, LCg.lst ys) :: its)) P n2 → ∀ p ∈ nx, p ∈ n2 := fun h p hp => h.sub _ (List.mem_append_left _ hp)
          refine comp_local S (by rw [sizeLine_eq]; omega) FI NI (by decide) (by rfl) (by rfl) (fun i2 ys2 nx2 => Gr (nx ++ ((C, oC) :: (c, oc) :: (D, LCg.lst ys) :: its)) (fun add => All2 IntIn ys2 ((wholeRow (lawN ce) (lawY ce) x).take i2)) nx2) (.refl trivial) (fun i ys nx hj p hp => nomatch hp) ?_ (ret_E ?_)
          · intro C3 D3 i3 v3 ys3 nx3 h3 tk3 its3 oC3 m3 E3 hi3 hp1_ hn3 hx3 hJ3 ho3 F3 N3 Qc Qf hQ hQf
            refine hideG fun Gd hGd => ?_
            obtain ⟨t3, hv3⟩ := hp1_
            refine hGd ?_
            clear hGd Gd
            rw [Int.zero_add] at hv3
            subst hv3
            have a3 : (s1.heap.objs.size + 1 + 1 + 1, r3) ∈ nx3 := hGr hJ3 _ (hJ.sub _ k3)
            have ac : (c, oc) ∈ nx3 := hJ3.sub _ (List.mem_append_right _ (.tail _ (.head _)))
            have aY : (Y, listOf vy.toArray ky) ∈ nx3 ++ ((C3, oC3) :: (D3, LCg.lst ys3) :: its3) := List.mem_append_left _ (hGr hJ3 _ (hJ.sub _ kY))
            have hi4 : i3 < 4 := by lia
            refine tests0 ?_
            k_steps
            rename Fr _ _ _ _ => FS
            rename News _ _ _ _ => NS
            refine Stop.mk (li_upto (y := i3) FS NS aY (by rw [sizeLine_eq]; omega) (fun D6 h6 F6 N6 hf6 => ?_) (by with_unfolding_all rfl) (by intro r; with_unfolding_all rfl))
            clear FS NS
            k_steps
            rename Fr _ _ _ _ => FS
            rename News _ _ _ _ => NS
            refine Stop.mk (li_from (x := i3 + 1) FS NS (.tail _ aY) (by rw [sizeLine_eq]; omega) (fun D7 h7 F7 N7 hf7 => ?_) (by with_unfolding_all rfl) (by intro r; with_unfolding_all rfl))
            clear FS NS
            k_steps
            rename Fr _ _ _ _ => FS
            rename News _ _ _ _ => NS
            refine Stop.mk (li_add FS NS (.tail _ (.head _)) (.head _) (by rw [List.length_take, List.length_drop, sizeLine_eq]; omega) fun D8 h8 F8 N8 hf8 => ?_)
            clear FS NS
            k_steps
            have hyb : ∀ y ∈ (lawY ce).take i3 ++ (lawY ce).drop (i3 + 1), y.natAbs < 1000 := fun y hy => by
              have hy2 : y ∈ lawY ce := (List.mem_append.mp hy).elim List.mem_of_mem_take List.mem_of_mem_drop
              have := lawY_rng hy2
              omega
            refine' Con.use (sums_con _ _ x tx ((lawY ce).take i3 ++ (lawY ce).drop (i3 + 1)) ⟨D8, vy.take i3 ++ vy.drop (i3 + 1), 0, rfl, .head _, (hvy.take _).append (hvy.drop _)⟩ (by rw [List.length_append, List.length_take, List.length_drop]; omega) hxb hyb) ?k1 ?k2 ?k3 ?k4 ?k5 ?kK ?kd ?ku ?_
            (case k1 => k_asm)
            (case k2 => k_asm)
            (case k3 => k_asm)
            (case k4 => k_asm)
            (case k5 => k_asm)
            (case kK => first | exact rfl | assumption)
            (case kd => ktr_room)
            (case ku => ktr_units)
            intro r9 n9 h9 tk9 F9 N9 hp1_
            refine hideG fun Gd hGd => ?_
            obtain ⟨rfl, t9, rfl⟩ := hp1_
            refine hGd ?_
            clear hGd Gd
            k_steps
            have hz : (wholeRow (lawN ce) (lawY ce) x)[i3]? = some (sumsP x ((lawY ce).take i3 ++ (lawY ce).drop (i3 + 1))) := by
              rw [wholeRow, List.getElem?_map, List.getElem?_range (show i3 < lawN ce from hi3)]; rfl
            refine hQ _ _ ?_
            refine cendG (by assumption) (by assumption) (P1 := fun _ => True) (((Gr.one (P := fun _ => True) (q := (D6, _)) hf6 trivial).cons (P' := fun _ => True) (q := (D7, _)) hf7 fun _ _ => trivial).cons (q := (D8, _)) hf8 fun add _ => trivial) ho3 fun add1 h1 hf1 => ?_
            exact hJ3.trans (P1 := fun _ => True) ⟨add1, rfl, hf1, trivial⟩ fun add1 add h k => all2_step h (fun _ _ h => h) hz ⟨_, rfl⟩
          · intro D3 ys3 nx3 h3 tk3 hf3 hJ3 F3 N3 ho3
            rw [List.take_of_length_le (by simp [wholeRow])] at hJ3
            have hu : (wholeP (lawN ce) (lawX ce) (lawY ce))[i]? = some (wholeRow (lawN ce) (lawY ce) x) := by rw [wholeP, List.getElem?_map, hx1]; rfl
            refine hQ _ _ ?_
            refine cendG F3 N3 (P1 := fun add => IRow add (.ref D3) (wholeRow (lawN ce) (lawY ce) x)) (hJ3.consB hf3 fun add h => ⟨_, _, _, rfl, .head _, h⟩) ho fun add1 h1 hf1 => ?_
            exact hJ.trans ⟨add1, rfl, hf1, h1⟩ fun add1 add h k => all2_step h (fun _ _ h => IRow.mono h fun p hp => List.mem_append_right _ hp) hu (IRow.mono k fun p hp => List.mem_append_left _ hp)
        · intro D30 ws nx h30 tk30 hf30 hJ30 F30 N30 ho30
          clear NI FI S
          have hwl : (wholeP (lawN ce) (lawX ce) (lawY ce)).length = lawN ce := by rw [wholeP, List.length_map, hXl]
          rw [List.take_of_length_le (by lia)] at hJ30
          have hsK : ∀ p ∈ K, p ∈ (D30, LCg.lst ws) :: nx := fun p hp => .tail _ (hJ30.sub p hp)
          have hWm : IMat ((D30, LCg.lst ws) :: nx) (.ref D30) (wholeP (lawN ce) (lawX ce) (lawY ce)) := by
            refine hideG fun Gd hGd => ?_
            obtain ⟨add, rfl, _, hA⟩ := hJ30
            refine hGd ?_
            clear hGd Gd
            exact ⟨D30, ws, _, rfl, .head _, hA.mono fun _ _ h => IRow.mono h fun p hp => .tail _ (List.mem_append_left _ hp)⟩
          clear hJ30
          generalize (D30, LCg.lst ws) :: nx = K2 at N30 hsK hWm
          replace kX := hsK _ kX
          replace kY := hsK _ kY
          replace kT := hsK _ kT
          replace k2 := hsK _ k2
          replace k3 := hsK _ k3
          replace hTab := QMat.mono hTab hsK
          clear hsK
          have hN4 : lawN ce ≤ 4 := hN.2
          k_steps
          refine' Con.use (Con.keep (spread_con _ _ (lawX ce) ⟨X, vx, kx, rfl, kX, hvx⟩ (by lia) fun _ h => xb h)) ?k1 ?k2 ?k3 ?k4 ?k5 ?kK ?kd ?ku ?_
          (case k1 => k_asm)
          (case k2 => k_asm)
          (case k3 => k_asm)
          (case k4 => k_asm)
          (case k5 => k_asm)
          (case kK => first | exact rfl | assumption)
          (case kd => ktr_room)
          (case ku => ktr_units)
          intro r31 n31 h31 tk31 F31 N31 hp1_
          refine hideG fun Gd hGd => ?_
          obtain ⟨rfl, t31, rfl⟩ := hp1_
          refine hGd ?_
          clear hGd Gd
          k_steps
          refine' Con.use (Con.keep (spread_con _ _ (lawY ce) ⟨Y, vy, ky, rfl, kY, hvy⟩ (by lia) fun _ h => yb h)) ?k1 ?k2 ?k3 ?k4 ?k5 ?kK ?kd ?ku ?_
          (case k1 => k_asm)
          (case k2 => k_asm)
          (case k3 => k_asm)
          (case k4 => k_asm)
          (case k5 => k_asm)
          (case kK => first | exact rfl | assumption)
          (case kd => ktr_room)
          (case ku => ktr_units)
          intro r32 n32 h32 tk32 F32 N32 hp1_
          refine hideG fun Gd hGd => ?_
          obtain ⟨rfl, t32, rfl⟩ := hp1_
          refine hGd ?_
          clear hGd Gd
          have hmul : IntMulOk (spreadP (lawX ce)) (spreadP (lawY ce)) := mulOk_of (spread_lt (by lia) fun _ h => x6 h) (spread_lt (by lia) fun _ h => y6 h) (by decide) (by decide)
          k_steps
          refine' Con.use (inv_con _ _ (tableP ce) hTab (by rw [table_len]; omega) (by rw [table_len]; omega) (fun r h => by rw [table_len, table_row h]) (fun r h => table_sz h)) ?k1 ?k2 ?k3 ?k4 ?k5 ?kK ?kd ?ku ?_
          (case k1 => k_asm)
          (case k2 => k_asm)
          (case k3 => k_asm)
          (case k4 => k_asm)
          (case k5 => k_asm)
          (case kK => first | exact rfl | assumption)
          (case kd => ktr_room)
          (case ku => ktr_units)
          intro r33 n33 h33 tk33 F33 N33 hp1_
          refine hideG fun Gd hGd => ?_
          obtain ⟨hs33, hR33⟩ := hp1_
          refine hGd ?_
          clear hGd Gd
          k_steps
          rename Fr _ _ _ _ => F34
          rename News _ _ _ _ => N34
          refine hideG fun Gd hGd => ?_
          obtain ⟨p34, N34⟩ := headE N34
          refine hGd ?_
          clear hGd Gd
          have hs34 : ∀ p ∈ n32, p ∈ p34 :: n33 := fun p hp => .tail _ (hs33 p hp)
          have hR34 : InvRes w0 (p34 :: n33) r33 (invP (tableP ce)) := by
            revert hR33
            cases invP (tableP ce) with
            | none => exact fun h => h
            | some C => exact fun h => QMat.mono h fun p hp => .tail _ hp
          generalize p34 :: n33 = K3 at N34 hs34 hR34
          clear hR33 hs33
          replace kX := hs34 _ kX
          replace kY := hs34 _ kY
          replace kT := hs34 _ kT
          replace k2 := hs34 _ k2
          replace k3 := hs34 _ k3
          replace hWm := IMat.mono hWm hs34
          have hLO := law_ok ce
          have hWl : (lawW ce).length = lawN ce := whole_len ce
          have hW4 : ∀ r ∈ lawW ce, r.length = (lawW ce).length := fun r h => by rw [hWl]; exact whole_row h
          refine Stop.mk (wpAny_If ?_)
          k_steps
          refine' Con.use (Con.keep (det_con _ _ (lawW ce) hWm (by lia) (by lia) hW4 fun r h x hx => Nat.lt_of_lt_of_le (whole_lt h x hx) (by decide))) ?k1 ?k2 ?k3 ?k4 ?k5 ?kK ?kd ?ku ?_
          (case k1 => k_asm)
          (case k2 => k_asm)
          (case k3 => k_asm)
          (case k4 => k_asm)
          (case k5 => k_asm)
          (case kK => first | exact rfl | assumption)
          (case kd => ktr_room)
          (case ku => ktr_units)
          intro r35 n35 h35 tk35 F35 N35 hp1_
          refine hideG fun Gd hGd => ?_
          obtain ⟨rfl, t35, rfl⟩ := hp1_
          refine hGd ?_
          clear hGd Gd
          rw [hLO.det1]
          k_steps
          clear N34 N30
          refine hideG fun Gd hGd => ?_
          obtain ⟨D30', ws', kw, hwe, kW, hWA⟩ := hWm
          refine hGd ?_
          clear hGd Gd
          cases hwe
          have hwsl := hWA.length
          rename Fr _ _ _ _ => FS
          rename News _ _ _ _ => NS
          refine Stop.mk (srcC_list (by rfl) FS NS (kW) ?_)
          clear FS NS
          intro I hI S FI NI
          have hsql : (sqP (lawW ce)).length = lawN ce := by rw [sqP, List.length_map, hWl]
          refine comp_local S (by rw [sizeLine_eq]; omega) FI NI (by decide) (by rfl) (by rfl) (fun i ys nx => Gr n35 (fun add => All2 (IRow add) ys ((sqP (lawW ce)).take i)) nx) (.refl trivial) (fun i ys nx hj p hp => by rw [List.mem_singleton.mp hp]; exact hj.sub _ kW) ?_ (ret_E ?_)
          · intro C D i v ys nx h36 tk36 its oC m36 E36 hi hv hn hx hJ ho F36 N36 Qc Qf hQ hQf
            refine hideG fun Gd hGd => ?_
            obtain ⟨row, hrow, b, us, kb, rfl, hb, hB⟩ := hWA.get hv
            refine hGd ?_
            clear hGd Gd
            have hbx : (b, listOf us.toArray kb) ∈ nx ++ ((C, oC) :: (D, LCg.lst ys) :: its) := List.mem_append_left _ (hJ.sub _ hb)
            have hul := hB.length
            have hrm := List.mem_of_getElem? hrow
            have hrl := whole_row hrm
            refine tests0 ?_
            k_steps
            rename Fr _ _ _ _ => FS
            rename News _ _ _ _ => NS
            refine Stop.mk (srcC_list (by rfl) FS NS (hbx) ?_)
            clear FS NS
            intro I hI S FI NI
            refine comp_local S (by rw [sizeLine_eq]; omega) FI NI (by decide) (by rfl) (by rfl) (fun i2 ys2 nx2 => nx2 = nx ++ ((C, oC) :: (D, LCg.lst ys) :: its) ∧ All2 IntIn ys2 ((row.map fun x => x * x).take i2)) ⟨rfl, trivial⟩ (fun i ys nx2 hj p hp => by rw [List.mem_singleton.mp hp, hj.1]; exact hbx) ?_ (ret_E ?_)
            · intro C3 D3 i3 v3 ys3 nx3 h3 tk3 its3 oC3 m3 E3 hi3 hv3 hn3 hx3 hp1_ ho3 F3 N3 Qc Qf hQ hQf
              refine hideG fun Gd hGd => ?_
              obtain ⟨rfl, hys3⟩ := hp1_
              obtain ⟨x, hx4, tx, rfl⟩ := hB.get hv3
              refine hGd ?_
              clear hGd Gd
              have hxb := whole_lt hrm x (List.mem_of_getElem? hx4)
              have hmul : IntMulOk x x := mulOk_of hxb hxb (by decide) (by decide)
              refine tests0 ?_
              k_steps
              refine hQ _ _ ?_
              exact cend0 (by assumption) (by assumption) ho3 ⟨rfl, all2_step hys3 (fun _ _ h => h) (x := x * x) (by rw [List.getElem?_map, hx4]; rfl) ⟨_, rfl⟩⟩
            · intro D3 ys3 nx3 h3 tk3 hf3 hp1_ F3 N3 ho3
              refine hideG fun Gd hGd => ?_
              obtain ⟨rfl, hys3⟩ := hp1_
              refine hGd ?_
              clear hGd Gd
              rw [List.take_of_length_le (by rw [List.length_map]; omega)] at hys3
              have hu : (sqP (lawW ce))[i]? = some (row.map fun x => x * x) := by rw [sqP, List.getElem?_map, hrow]; rfl
              refine hQ _ _ ?_
              refine cend1 F3 N3 hf3 ho (hJ.cons (q := (D3, _)) (fun p hp => hf3 p (List.mem_append_left _ hp)) fun add h => all2_step h (fun _ _ h => IRow.mono h fun _ h => .tail _ h) hu ⟨D3, ys3, _, rfl, .head _, hys3⟩)
          · intro D37 qs nx h37 tk37 hf37 hJ37 F37 N37 ho37
            clear NI FI S
            rw [List.take_of_length_le (by lia)] at hJ37
            have hs37 : ∀ p ∈ n35, p ∈ (D37, LCg.lst qs) :: nx := fun p hp => .tail _ (hJ37.sub p hp)
            have hQm : IMat ((D37, LCg.lst qs) :: nx) (.ref D37) (sqP (lawW ce)) := by
              refine hideG fun Gd hGd => ?_
              obtain ⟨add, rfl, _, hA⟩ := hJ37
              refine hGd ?_
              clear hGd Gd
              exact ⟨D37, qs, _, rfl, .head _, hA.mono fun _ _ h => IRow.mono h fun p hp => .tail _ (List.mem_append_left _ hp)⟩
            clear hJ37
            generalize (D37, LCg.lst qs) :: nx = K4 at N37 hs37 hQm
            replace kX := hs37 _ kX
            replace kY := hs37 _ kY
            replace kT := hs37 _ kT
            replace k2 := hs37 _ k2
            replace k3 := hs37 _ k3
            have hWm : IMat K4 (.ref D30) (lawW ce) := ⟨D30, _, _, rfl, hs37 _ kW, hWA.mono fun _ _ h => IRow.mono h hs37⟩
            replace hR34 : InvRes w0 K4 r33 (invP (tableP ce)) := by
              revert hR34
              cases invP (tableP ce) with
              | none => exact fun h => h
              | some C => exact fun h => QMat.mono h hs37
            have hq4 : ∀ r ∈ sqP (lawW ce), r.length = (sqP (lawW ce)).length := fun r h => by
              refine hideG fun Gd hGd => ?_
              obtain ⟨r0, h0, rfl⟩ := List.mem_map.mp h
              refine hGd ?_
              clear hGd Gd
              rw [hsql, List.length_map, whole_row h0]
            have hqs : ∀ r ∈ sqP (lawW ce), ∀ x ∈ r, x.natAbs < 2 ^ 22 := fun r h x hx => by
              refine hideG fun Gd hGd => ?_
              obtain ⟨r0, h0, rfl⟩ := List.mem_map.mp h
              obtain ⟨x0, hx0, rfl⟩ := List.mem_map.mp hx
              refine hGd ?_
              clear hGd Gd
              have := whole_lt h0 x0 hx0
              rw [Int.natAbs_mul]
              exact mul_lt this this
            k_steps
            refine' Con.use (Con.keep (det_con _ _ (sqP (lawW ce)) hQm (by lia) (by lia) hq4 hqs)) ?k1 ?k2 ?k3 ?k4 ?k5 ?kK ?kd ?ku ?_
            (case k1 => k_asm)
            (case k2 => k_asm)
            (case k3 => k_asm)
            (case k4 => k_asm)
            (case k5 => k_asm)
            (case kK => first | exact rfl | assumption)
            (case kd => ktr_room)
            (case ku => ktr_units)
            intro r38 n38 h38 tk38 F38 N38 hp1_
            refine hideG fun Gd hGd => ?_
            obtain ⟨rfl, t38, rfl⟩ := hp1_
            refine hGd ?_
            clear hGd Gd
            rw [hLO.det2]
            k_steps
            refine' Con.use (perm_con (lawN ce) _ _ (lawW ce) hWl hWm (by lia) (fun r h => by rw [whole_row h]; omega) fun r h x hx => Nat.lt_of_lt_of_le (whole_lt h x hx) (by decide)) ?k1 ?k2 ?k3 ?k4 ?k5 ?kK ?kd ?ku ?_
            (case k1 => k_asm)
            (case k2 => k_asm)
            (case k3 => k_asm)
            (case k4 => k_asm)
            (case k5 => k_asm)
            (case kK => first | exact rfl | assumption)
            (case kd => ktr_room)
            (case ku => ktr_units)
            intro r39 n39 h39 tk39 F39 N39 hp1_
            refine hideG fun Gd hGd => ?_
            obtain ⟨rfl, t39, rfl⟩ := hp1_
            refine hGd ?_
            clear hGd Gd
            have hmul2 : IntMulOk (spreadP (lawX ce) * spreadP (lawY ce)) (permN (lawN ce) (lawW ce)) := perm_mul ce
            clear N37 hs37
            k_steps
            clear N38 hQm
            refine Stop.mk (wpAny_If ?_)
            by_cases hS : spreadP (lawX ce) * spreadP (lawY ce) = 0
            · rw [hLO.none hS] at hR34
              have e33 : r33 = .none := hR34
              subst e33
              k_steps
            · refine hideG fun Gd hGd => ?_
              obtain ⟨Ci, hC, hC1, hC2, hC3, hC4, hC5, hC6⟩ := hLO.some hS
              rw [hC] at hR34
              obtain ⟨G, gs, kg, e33, hG, hGA⟩ := (show QMat w0 n39 r33 Ci from hR34)
              refine hGd ?_
              clear hGd Gd
              subst e33
              k_steps
              rename News _ _ _ _ => NS0
              have NS := nsub (a := n39) NS0 (fun p hp => .tail _ hp)
              clear NS0
              rename Fr _ _ _ _ => FS
              rename News _ _ _ _ => NS
              rename IsRange _ _ _ _ _ _ _ _ => RS
              refine Stop.mk (srcF_range (n := (lawN ce)) (by rfl) FS NS RS (by omega) (by omega) (by omega) (by omega) (by omega) ?_)
              clear FS NS RS
              intro I hI S FI NI
              refine for_src S FI NI (fun i m nx => LJ n39 X G ce Ci i m nx) ?lh0 (fun k m nx hj p hp => nomatch hp) ?lturn ?ldone
              case lh0 => exact ⟨rfl, by rfl, by rfl, by rfl, ⟨_, by rfl⟩, _, by rfl⟩
              case lturn =>
                intro i v m40 nx h40 tk40 its40 hi hp1_ hp2_ ho40 F40 N40 Qt hQ
                refine hideG fun Gd hGd => ?_
                obtain ⟨tv, hv⟩ := hp1_
                obtain ⟨rfl, qd, qx, qt, ⟨t41, q1⟩, t42, q2⟩ := hp2_
                refine hGd ?_
                clear hGd Gd
                rw [Int.zero_add] at hv
                subst hv
                clear NI FI S
                have hgl := hGA.length
                have hil : i < Ci.length := by lia
                refine hideG fun Gd hGd => ?_
                obtain ⟨row, hrowe⟩ : ∃ row, Ci[i]? = some row := ⟨_, List.getElem?_eq_getElem hil⟩
                obtain ⟨rowv, hrv, hrow⟩ := hGA.get' hrowe
                obtain ⟨b, us, kb, rfl, hb, hB⟩ := hrow
                refine hGd ?_
                clear hGd Gd
                have hul := hB.length
                have hrm : row ∈ Ci := List.mem_of_getElem? hrowe
                have hrl := hC2 _ hrm
                have hci : Ci.getD i [] = row := by rw [List.getD_eq_getElem?_getD, hrowe]; rfl
                have hbdd := all_bdd hC1 hC2 hC3 i (by lia)
                generalize hfo : (List.range i).foldl (fun tb a => rowQ (lawN ce) tb (Ci.getD a [])) (0, 1) = fo at q1 q2 hbdd
                replace F40 := fr_ov F40 (Kn.all (ps := [("is_drawn", .bool (drawP ce 0 2 == 1)), ("x", .ref X), ("told", .ref G), ("top", .int fo.1 t41), ("bottom", .int fo.2 t42)]) ⟨qd, qx, qt, q1, q2, trivial⟩)
                have w2 : (s1.heap.objs.size + 1 + 1, r2) ∈ nx ++ its40 := List.mem_append_left _ k2
                k_steps
                rename Fr _ _ _ _ => FS
                rename News _ _ _ _ => NS
                rename IsRange _ _ _ _ _ _ _ _ => RS
                refine Stop.mk (srcF_range (n := (lawN ce)) (by rfl) FS NS RS (by omega) (by omega) (by omega) (by omega) (by omega) ?_)
                clear FS NS RS
                intro I hI S FI NI
                refine for_src S FI NI (fun j m nx2 => IJ (nx ++ its40) X G ce row fo i j m nx2) ⟨rfl, by rfl, by rfl, by rfl, ⟨_, by rfl⟩, ⟨_, by rfl⟩, _, by rfl⟩ (fun k m nx hj p hp => nomatch hp) ?iturn ?idone
                case idone =>
                  intro m43 nx2 h43 tk43 hp1_ F43 N43
                  refine hideG fun Gd hGd => ?_
                  obtain ⟨rfl, z1, z2, z3, _, ⟨t44, z4⟩, t45, z5⟩ := hp1_
                  refine hGd ?_
                  clear hGd Gd
                  clear NI FI S
                  have hfs : (List.range (i + 1)).foldl (fun tb a => rowQ (lawN ce) tb (Ci.getD a [])) (0, 1) = (List.range (lawN ce)).foldl (fun tb s => stepQ tb (ent row s)) fo := by
                    rw [List.range_succ, List.foldl_append, hfo, ← hci]; rfl
                  k_steps
                  refine hQ _ _ ?_
                  exact lend0 F43 N43 ho40 ⟨rfl, z1, z2, z3, ⟨t44, by rw [hfs]; exact z4⟩, t45, by rw [hfs]; exact z5⟩
                case iturn =>
                  intro j v m43 nx2 h43 tk43 its43 hj hp1_ hp2_ ho43 F43 N43 Qt hQ
                  refine hideG fun Gd hGd => ?_
                  obtain ⟨tv2, hv⟩ := hp1_
                  obtain ⟨rfl, z1, z2, z3, ⟨t43, z4⟩, ⟨t44, z5⟩, t45, z6⟩ := hp2_
                  refine hGd ?_
                  clear hGd Gd
                  rw [Int.zero_add] at hv
                  subst hv
                  clear NI FI S
                  have hsub : ∀ p ∈ nx, p ∈ nx ++ its40 ++ its43 := fun p hp => List.mem_append_left _ (List.mem_append_left _ hp)
                  have uX := hsub _ kX
                  have uY := hsub _ kY
                  have u3 := hsub _ k3
                  have uG := hsub _ hG
                  have ub := hsub _ hb
                  have hjl : j < row.length := by lia
                  refine hideG fun Gd hGd => ?_
                  obtain ⟨q, hqr⟩ : ∃ q, row[j]? = some q := ⟨_, List.getElem?_eq_getElem hjl⟩
                  obtain ⟨vq, hvq, hnum⟩ := hB.get' hqr
                  have hqe : ent row j = q := by rw [ent, List.getD_eq_getElem?_getD, hqr]; rfl
                  obtain ⟨aq, ta, td, nq, rfl, hTq0⟩ := hnum
                  have hTq := hTq0.mono hsub
                  have hsz : Sz 1621 q := hC3 _ hrm _ (List.mem_of_getElem? hqr)
                  have h4 := hC4 i j (by lia) (by lia)
                  have h5 := fun h => hC5 h i j (by lia) (by lia)
                  rw [hci, hqe] at h4 h5
                  obtain ⟨x, hx⟩ : ∃ x, (lawX ce)[j]? = some x := ⟨_, List.getElem?_eq_getElem (by lia)⟩
                  obtain ⟨y, hy⟩ : ∃ y, (lawY ce)[i]? = some y := ⟨_, List.getElem?_eq_getElem (by lia)⟩
                  obtain ⟨_, hxi, tx, rfl⟩ := hvx.get' hx
                  obtain ⟨_, hyi, ty, rfl⟩ := hvy.get' hy
                  refine hGd ?_
                  clear hGd Gd
                  have hxm := List.mem_of_getElem? hx
                  have hym := List.mem_of_getElem? hy
                  have hxd : (lawX ce).getD j 0 = x := by rw [List.getD_eq_getElem?_getD, hx]; rfl
                  have hyd : (lawY ce).getD i 0 = y := by rw [List.getD_eq_getElem?_getD, hy]; rfl
                  have hnext : (List.range (j + 1)).foldl (fun tb s => stepQ tb (ent row s)) fo = stepQ ((List.range j).foldl (fun tb s => stepQ tb (ent row s)) fo) q := by
                    rw [List.range_succ, List.foldl_append, ← hqe]; rfl
                  have hbd2 := row_bdd hbdd (hC3 _ hrm) j (by lia)
                  generalize (List.range j).foldl (fun tb s => stepQ tb (ent row s)) fo = ft at z5 z6 hnext hbd2
                  rw [loP, upP, hxd, hyd] at h4
                  have hlx := lawX_len ce
                  have hly := lawY_len ce
                  have b1 : (sumsP x (lawY ce)).natAbs < 2 ^ 17 := sums_lt (by lia) (x6 hxm) fun _ h => y6 h
                  have b2 : (sumsP y (lawX ce)).natAbs < 2 ^ 17 := sums_lt (by lia) (y6 hym) fun _ h => x6 h
                  have b3 : (apartP (lawX ce) j).natAbs < 2 ^ 17 := apart_lt (by lia) fun _ h => x6 h
                  have b4 : (apartP (lawY ce) i).natAbs < 2 ^ 17 := apart_lt (by lia) fun _ h => y6 h
                  have b5 : (x + y).natAbs < 2 ^ 4 := by
                    have := x6 hxm
                    have := y6 hym
                    have := Int.natAbs_add_le x y
                    show (x + y).natAbs < 16
                    omega
                  have b6 : ((x + y) * apartP (lawX ce) j).natAbs < 2 ^ 21 := by rw [Int.natAbs_mul]; exact mul_lt b5 b3
                  have b7 : ((x + y) * apartP (lawX ce) j * apartP (lawY ce) i).natAbs < 2 ^ 38 := by rw [Int.natAbs_mul]; exact mul_lt b6 b4
                  have b8 : (sumsP x (lawY ce) * sumsP y (lawX ce)).natAbs < 2 ^ 34 := by rw [Int.natAbs_mul]; exact mul_lt b1 b2
                  have hd2 : ((q.den : Int)).natAbs < 2 ^ 1621 := by rw [Int.natAbs_natCast]; exact hsz.2
                  have c1 : IntMulOk (sumsP x (lawY ce)) (sumsP y (lawX ce)) := mulOk_of b1 b2 (by decide) (by decide)
                  have c2 : IntMulOk (x + y) (apartP (lawX ce) j) := mulOk_of b5 b3 (by decide) (by decide)
                  have c3 : IntMulOk ((x + y) * apartP (lawX ce) j) (apartP (lawY ce) i) := mulOk_of b6 b4 (by decide) (by decide)
                  have c4 : IntMulOk q.num ((x + y) * apartP (lawX ce) j * apartP (lawY ce) i) := mulOk_of hsz.1 b7 (by decide) (by decide)
                  have c5 : IntMulOk (sumsP x (lawY ce) * sumsP y (lawX ce)) (q.den : Int) := mulOk_of b8 (c := 1621) hd2 (by decide) (by decide)
                  have hBl : 1 + 1622 * (lawN ce * i) + 1622 * j ≤ 1048576 := by
                    have := Nat.mul_le_mul hN4 (show i ≤ 4 by lia)
                    omega
                  have c6 : IntMulOk ft.1 (q.den : Int) := mulOk_of hbd2.1 (c := 1621) hd2 hBl (by decide)
                  have c7 : IntMulOk q.num ft.2 := mulOk_of hsz.1 hbd2.2 (by decide) hBl
                  have c8 : IntMulOk ft.2 (q.den : Int) := mulOk_of hbd2.2 (c := 1621) hd2 hBl (by decide)
                  replace F43 := fr_ov F43 (Kn.all (ps := [("is_drawn", .bool (drawP ce 0 2 == 1)), ("x", .ref X), ("told", .ref G), ("at", .int i t43), ("top", .int ft.1 t44), ("bottom", .int ft.2 t45)]) ⟨z1, z2, z3, z4, z5, z6, trivial⟩)
                  k_steps
                  refine Stop.mk (li_itemN (by assumption) uG (by lia) hrv ?_)
                  k_steps
                  refine Stop.mk (li_itemN (by assumption) ub (by lia) hvq ?_)
                  k_steps
                  refine Stop.mk (li_itemN (by assumption) uX (by lia) hxi ?_)
                  k_steps
                  refine' Con.use (sums_con _ _ x tx (lawY ce) ⟨Y, vy, ky, rfl, uY, hvy⟩ (by lia) (xb hxm) fun _ h => yb h) ?k1 ?k2 ?k3 ?k4 ?k5 ?kK ?kd ?ku ?_
                  (case k1 => k_asm)
                  (case k2 => k_asm)
                  (case k3 => k_asm)
                  (case k4 => k_asm)
                  (case k5 => k_asm)
                  (case kK => first | exact rfl | assumption)
                  (case kd => ktr_room)
                  (case ku => ktr_units)
                  intro r50 n50 h50 tk50 F50 N50 hp1_
                  refine hideG fun Gd hGd => ?_
                  obtain ⟨rfl, t50, rfl⟩ := hp1_
                  refine hGd ?_
                  clear hGd Gd
                  k_steps
                  refine Stop.mk (li_itemN (by assumption) uY (by lia) hyi ?_)
                  k_steps
                  refine' Con.use (sums_con _ _ y ty (lawX ce) ⟨X, vx, kx, rfl, uX, hvx⟩ (by lia) (yb hym) fun _ h => xb h) ?k1 ?k2 ?k3 ?k4 ?k5 ?kK ?kd ?ku ?_
                  (case k1 => k_asm)
                  (case k2 => k_asm)
                  (case k3 => k_asm)
                  (case k4 => k_asm)
                  (case k5 => k_asm)
                  (case kK => first | exact rfl | assumption)
                  (case kd => ktr_room)
                  (case ku => ktr_units)
                  intro r51 n51 h51 tk51 F51 N51 hp1_
                  refine hideG fun Gd hGd => ?_
                  obtain ⟨rfl, t51, rfl⟩ := hp1_
                  refine hGd ?_
                  clear hGd Gd
                  k_steps
                  refine Stop.mk (li_itemN (by assumption) uX (by lia) hxi ?_)
                  k_steps
                  refine Stop.mk (li_itemN (by assumption) uY (by lia) hyi ?_)
                  k_steps
                  refine' Con.use (Con.keep (apart_con _ _ (lawX ce) j _ ⟨X, vx, kx, rfl, uX, hvx⟩ (by lia) (by lia) fun _ h => xb h)) ?k1 ?k2 ?k3 ?k4 ?k5 ?kK ?kd ?ku ?_
                  (case k1 => k_asm)
                  (case k2 => k_asm)
                  (case k3 => k_asm)
                  (case k4 => k_asm)
                  (case k5 => k_asm)
                  (case kK => first | exact rfl | assumption)
                  (case kd => ktr_room)
                  (case ku => ktr_units)
                  intro r52 n52 h52 tk52 F52 N52 hp1_
                  refine hideG fun Gd hGd => ?_
                  obtain ⟨rfl, t52, rfl⟩ := hp1_
                  refine hGd ?_
                  clear hGd Gd
                  k_steps
                  refine' Con.use (Con.keep (apart_con _ _ (lawY ce) i _ ⟨Y, vy, ky, rfl, uY, hvy⟩ (by lia) (by lia) fun _ h => yb h)) ?k1 ?k2 ?k3 ?k4 ?k5 ?kK ?kd ?ku ?_
                  (case k1 => k_asm)
                  (case k2 => k_asm)
                  (case k3 => k_asm)
                  (case k4 => k_asm)
                  (case k5 => k_asm)
                  (case kK => first | exact rfl | assumption)
                  (case kd => ktr_room)
                  (case ku => ktr_units)
                  intro r53 n53 h53 tk53 F53 N53 hp1_
                  refine hideG fun Gd hGd => ?_
                  obtain ⟨rfl, t53, rfl⟩ := hp1_
                  refine hGd ?_
                  clear hGd Gd
                  k_steps
                  refine Stop.mk (wpAny_If ?_)
                  k_steps
                  · rename q.num * _ ≠ _ => ha
                    exact absurd h4 ha
                  · skip
                    rename Fr _ _ _ _ => FS
                    rename News _ _ _ _ => NS
                    refine hQ _ _ ?_
                    exact lend FS NS (fun p hp => .tail _ (List.mem_append_right _ hp)) (fun p hp => .tail _ (List.mem_append_left _ hp)) ho43 ⟨rfl, by rfl, by rfl, by rfl, ⟨_, by rfl⟩, ⟨_, by rw [hnext]; rfl⟩, _, by rw [hnext]; rfl⟩
                  · rename drawP ce 0 2 ≠ 1 => hd
                    rename (q.den : Int) ≠ 1 => ha
                    exact absurd (by rw [h5 hd]; rfl) ha
                  · skip
                    rename Fr _ _ _ _ => FS
                    rename News _ _ _ _ => NS
                    refine hQ _ _ ?_
                    exact lend FS NS (fun p hp => .tail _ (List.mem_append_right _ hp)) (fun p hp => .tail _ (List.mem_append_left _ hp)) ho43 ⟨rfl, by rfl, by rfl, by rfl, ⟨_, by rfl⟩, ⟨_, by rw [hnext]; rfl⟩, _, by rw [hnext]; rfl⟩
              case ldone =>
                intro m40 nx h40 tk40 hp1_ F40 N40
                refine hideG fun Gd hGd => ?_
                obtain ⟨rfl, qd, qx, qt, ⟨t41, q1⟩, t42, q2⟩ := hp1_
                refine hGd ?_
                clear hGd Gd
                replace N40 := N40
                replace F40 := fr_ov F40 (Kn.all (ps := [("x", .ref X), ("top", .int (allQ (lawN ce) Ci).1 t41), ("bottom", .int (allQ (lawN ce) Ci).2 t42)]) ⟨qx, q1, q2, trivial⟩)
                clear NI FI S
                have hb0 := all_bdd hC1 hC2 hC3 (lawN ce) (Nat.le_refl _)
                have hsx := sum_abs (l := lawX ce) fun _ h => x6 h
                have hsy := sum_abs (l := lawY ce) fun _ h => y6 h
                have hs3 := Int.natAbs_add_le (lawX ce).sum (lawY ce).sum
                have hmul3 : IntMulOk ((lawX ce).sum + (lawY ce).sum) (allQ (lawN ce) Ci).2 := IntMulOk.of_left (intBits_le_64 (by lia) (by lia))
                k_steps
                rename Fr _ _ _ _ => FS
                rename News _ _ _ _ => NS
                refine Stop.mk (sumK (by rfl) FS NS (li_isList NS kX) (ints_are hvx) fun h41 tk41 t43 F41 N41 => ?_)
                clear FS NS
                k_steps
                rename Fr _ _ _ _ => FS
                rename News _ _ _ _ => NS
                refine Stop.mk (sumK (by rfl) FS NS (li_isList NS kY) (ints_are hvy) fun h42 tk42 t44 F42 N42 => ?_)
                clear FS NS
                k_steps
    refine wpAny_If ?_
    k_steps
    · rename drawP ce 0 2 = 1 => hdr
      rename News _ _ _ _ => NS
      have NS2 : News s1.heap s1.heap.objs.size _ ((P, listOf #[.ref C2, .int ((2 : Nat) : Int) t9] 0) :: [(C2, LCg.lst cw), (s1.heap.objs.size + 1, p1), (s1.heap.objs.size + 1 + 1, p2), (s1.heap.objs.size + 1 + 1 + 1, q3), (s1.heap.objs.size + 1 + 1 + 1 + 1, q4), (s1.heap.objs.size + 1 + 1 + 1 + 1 + 1, q5), (s1.heap.objs.size + 1 + 1 + 1 + 1 + 1 + 1, q6)]) := nsub NS (by walk_at "sub")
      clear NS
      have hoffK : ∀ p ∈ [(C2, LCg.lst cw), (s1.heap.objs.size + 1, p1), (s1.heap.objs.size + 1 + 1, p2), (s1.heap.objs.size + 1 + 1 + 1, q3), (s1.heap.objs.size + 1 + 1 + 1 + 1, q4), (s1.heap.objs.size + 1 + 1 + 1 + 1 + 1, q5), (s1.heap.objs.size + 1 + 1 + 1 + 1 + 1 + 1, q6)], p.1 ≠ P := by walk_at "sub"
      have kC : (C2, LCg.lst cw) ∈ [(C2, LCg.lst cw), (s1.heap.objs.size + 1, p1), (s1.heap.objs.size + 1 + 1, p2), (s1.heap.objs.size + 1 + 1 + 1, q3), (s1.heap.objs.size + 1 + 1 + 1 + 1, q4), (s1.heap.objs.size + 1 + 1 + 1 + 1 + 1, q5), (s1.heap.objs.size + 1 + 1 + 1 + 1 + 1 + 1, q6)] := .head _
      have k1 : (s1.heap.objs.size + 1, p1) ∈ [(C2, LCg.lst cw), (s1.heap.objs.size + 1, p1), (s1.heap.objs.size + 1 + 1, p2), (s1.heap.objs.size + 1 + 1 + 1, q3), (s1.heap.objs.size + 1 + 1 + 1 + 1, q4), (s1.heap.objs.size + 1 + 1 + 1 + 1 + 1, q5), (s1.heap.objs.size + 1 + 1 + 1 + 1 + 1 + 1, q6)] := by walk_at "mem"
      have k2 : (s1.heap.objs.size + 1 + 1, p2) ∈ [(C2, LCg.lst cw), (s1.heap.objs.size + 1, p1), (s1.heap.objs.size + 1 + 1, p2), (s1.heap.objs.size + 1 + 1 + 1, q3), (s1.heap.objs.size + 1 + 1 + 1 + 1, q4), (s1.heap.objs.size + 1 + 1 + 1 + 1 + 1, q5), (s1.heap.objs.size + 1 + 1 + 1 + 1 + 1 + 1, q6)] := by walk_at "mem"
      have k3 : (s1.heap.objs.size + 1 + 1 + 1, q3) ∈ [(C2, LCg.lst cw), (s1.heap.objs.size + 1, p1), (s1.heap.objs.size + 1 + 1, p2), (s1.heap.objs.size + 1 + 1 + 1, q3), (s1.heap.objs.size + 1 + 1 + 1 + 1, q4), (s1.heap.objs.size + 1 + 1 + 1 + 1 + 1, q5), (s1.heap.objs.size + 1 + 1 + 1 + 1 + 1 + 1, q6)] := by walk_at "mem"
      have k6 : (s1.heap.objs.size + 1 + 1 + 1 + 1 + 1 + 1, q6) ∈ [(C2, LCg.lst cw), (s1.heap.objs.size + 1, p1), (s1.heap.objs.size + 1 + 1, p2), (s1.heap.objs.size + 1 + 1 + 1, q3), (s1.heap.objs.size + 1 + 1 + 1 + 1, q4), (s1.heap.objs.size + 1 + 1 + 1 + 1 + 1, q5), (s1.heap.objs.size + 1 + 1 + 1 + 1 + 1 + 1, q6)] := by walk_at "mem"
      generalize hK : [(C2, LCg.lst cw), (s1.heap.objs.size + 1, p1), (s1.heap.objs.size + 1 + 1, p2), (s1.heap.objs.size + 1 + 1 + 1, q3), (s1.heap.objs.size + 1 + 1 + 1 + 1, q4), (s1.heap.objs.size + 1 + 1 + 1 + 1 + 1, q5), (s1.heap.objs.size + 1 + 1 + 1 + 1 + 1 + 1, q6)] = K at NS2 hoffK kC k1 k2 k3 k6
      rename Fr _ _ _ _ => FS
      rename News _ _ _ _ => NS
      rename IsRange _ _ _ _ _ _ _ _ => RS
      refine Stop.mk (srcC_range (n := (nP (drawP ce 1 3))) (by rfl) FS NS RS (by omega) (by omega) (by omega) (by omega) (by omega) ?_)
      clear FS NS RS
      intro I hI S FI NI
      refine comp_local S (by rw [sizeLine_eq]; omega) FI NI (by decide) (by rfl) (by rfl) (fun i ys nx => (∃ t, nx = (P, listOf #[.ref C2, .int ((2 + i : Nat) : Int) t] 0) :: K) ∧ All2 IntIn ys (((List.range (lawN ce)).map fun (i : Nat) => 2 * drawP ce (2 + i) 6 - 4).take i)) ⟨⟨_, rfl⟩, trivial⟩ (fun i ys nx hj p hp => nomatch hp) ?_ (ret_A (by rfl) (by rfl) (by rfl) ?_)
      · intro Cc D1 i v ys nx h10 tk10 its10 oC m10 E10 hi hv hNs hx hp1_ ho10 F10 N10 Qc Qf hQ hQf
        refine hideG fun Gd hGd => ?_
        obtain ⟨⟨tt, rfl⟩, hys10⟩ := hp1_
        refine hGd ?_
        clear hGd Gd
        have kk1 : (s1.heap.objs.size + 1, p1) ∈ ((P, listOf #[.ref C2, .int ((2 + i : Nat) : Int) tt] 0) :: K) ++ ((Cc, oC) :: (D1, LCg.lst ys) :: its10) := List.mem_append_left _ (.tail _ k1)
        have hmul : IntMulOk 2 (drawP ce (2 + i) 6) := IntMulOk.of_left (by decide)
        refine tests0 ?_
        k_steps
        refine' Con.use (draw_con (K ++ ((Cc, oC) :: (D1, LCg.lst ys) :: its10)) P C2 cw 0 _ ce (2 + i) 6 _ _ (fun p hp => (List.mem_append.mp hp).elim (hoffK p) fun hq e => ho10 _ (.head _) p hq e.symm) (List.mem_append_left _ kC) hys (by lia) (by lia) (by decide) (by decide)) ?k1 ?k2 ?k3 ?k4 ?k5 ?kK ?kd ?ku ?_
        (case k1 => k_asm)
        (case k2 => k_asm)
        (case k3 => k_asm)
        (case k4 => k_asm)
        (case k5 => k_asm)
        (case kK => first | exact rfl | assumption)
        (case kd => ktr_room)
        (case ku => ktr_units)
        intro r11 n11 h11 tk11 F11 N11 hp1_
        refine hideG fun Gd hGd => ?_
        obtain ⟨⟨t11, rfl⟩, t12, rfl⟩ := hp1_
        refine hGd ?_
        clear hGd Gd
        k_steps
        have hz : ((List.range (lawN ce)).map fun (i : Nat) => 2 * drawP ce (2 + i) 6 - 4)[i]? = some (2 * drawP ce (2 + i) 6 - 4) := by
          rw [List.getElem?_map, List.getElem?_range (show i < lawN ce from hi)]; rfl
        refine hQ _ _ ?_
        exact cend0 (nx := (P, listOf #[.ref C2, .int ((2 + i + 1 : Nat) : Int) t12] 0) :: K) F11 N11 (.cons (fun q hq => ho10 _ (.head _) q hq) fun p hp => ho10 p (.tail _ hp)) ⟨⟨t12, rfl⟩, all2_step hys10 (fun _ _ h => h) hz ⟨_, rfl⟩⟩
      · intro X vx nx h10 tk10 hf10 hJ10 F10 N10 ho10
        refine hideG fun Gd hGd => ?_
        obtain ⟨⟨tt, rfl⟩, hvx⟩ := hJ10
        refine hGd ?_
        clear hGd Gd
        clear NI FI S
        have hXK : ∀ p ∈ K, @LT.lt Nat _ p.1 X := fun p hp => hf10 p (.tail _ hp)
        have hXP : @LT.lt Nat _ P X := hf10 _ (.head _)
        have NS3 : News s1.heap s1.heap.objs.size _ ((P, listOf #[.ref C2, .int ((2 + nP (drawP ce 1 3) : Nat) : Int) tt] 0) :: (X, LCg.lst vx) :: K) := nsub N10 (by walk_at "sub")
        clear N10
        have hoffX : ∀ p ∈ (X, LCg.lst vx) :: K, p.1 ≠ P := off_cons (neGt hXP) hoffK
        have j2 : (s1.heap.objs.size + 1 + 1, p2) ∈ (P, listOf #[.ref C2, .int ((2 + nP (drawP ce 1 3) : Nat) : Int) tt] 0) :: (X, LCg.lst vx) :: K := .tail _ (.tail _ k2)
        k_steps
        rename Fr _ _ _ _ => FS
        rename News _ _ _ _ => NS
        rename IsRange _ _ _ _ _ _ _ _ => RS
        refine Stop.mk (srcC_range (n := (nP (drawP ce 1 3))) (by rfl) FS NS RS (by omega) (by omega) (by omega) (by omega) (by omega) ?_)
        clear FS NS RS
        intro I hI S FI NI
        refine comp_local S (by rw [sizeLine_eq]; omega) FI NI (by decide) (by rfl) (by rfl) (fun i ys nx => (∃ t, nx = (P, listOf #[.ref C2, .int ((2 + nP (drawP ce 1 3) + i : Nat) : Int) t] 0) :: (X, LCg.lst vx) :: K) ∧ All2 IntIn ys (((List.range (lawN ce)).map fun (i : Nat) => 2 * drawP ce (2 + lawN ce + i) 6 - 5).take i)) ⟨⟨_, rfl⟩, trivial⟩ (fun i ys nx hj p hp => nomatch hp) ?_ (ret_E ?_)
        · intro Cc D1 i v ys nx h11 tk11 its11 oC m11 E11 hi hv hNs hx hp1_ ho11 F11 N11 Qc Qf hQ hQf
          refine hideG fun Gd hGd => ?_
          obtain ⟨⟨tu, rfl⟩, hys11⟩ := hp1_
          refine hGd ?_
          clear hGd Gd
          have kk1 : (s1.heap.objs.size + 1, p1) ∈ ((P, listOf #[.ref C2, .int ((2 + nP (drawP ce 1 3) + i : Nat) : Int) tu] 0) :: (X, LCg.lst vx) :: K) ++ ((Cc, oC) :: (D1, LCg.lst ys) :: its11) := List.mem_append_left _ (.tail _ (.tail _ k1))
          have hmul : IntMulOk 2 (drawP ce (2 + nP (drawP ce 1 3) + i) 6) := IntMulOk.of_left (by decide)
          refine tests0 ?_
          k_steps
          refine' Con.use (draw_con (((X, LCg.lst vx) :: K) ++ ((Cc, oC) :: (D1, LCg.lst ys) :: its11)) P C2 cw 0 _ ce (2 + nP (drawP ce 1 3) + i) 6 _ _ (fun p hp => (List.mem_append.mp hp).elim (hoffX p) fun hq e => ho11 _ (.head _) p hq e.symm) (List.mem_append_left _ (.tail _ kC)) hys (by lia) (by lia) (by decide) (by decide)) ?k1 ?k2 ?k3 ?k4 ?k5 ?kK ?kd ?ku ?_
          (case k1 => k_asm)
          (case k2 => k_asm)
          (case k3 => k_asm)
          (case k4 => k_asm)
          (case k5 => k_asm)
          (case kK => first | exact rfl | assumption)
          (case kd => ktr_room)
          (case ku => ktr_units)
          intro r12 n12 h12 tk12 F12 N12 hp1_
          refine hideG fun Gd hGd => ?_
          obtain ⟨⟨t12, rfl⟩, t13, rfl⟩ := hp1_
          refine hGd ?_
          clear hGd Gd
          k_steps
          have hz : ((List.range (lawN ce)).map fun (i : Nat) => 2 * drawP ce (2 + lawN ce + i) 6 - 5)[i]? = some (2 * drawP ce (2 + nP (drawP ce 1 3) + i) 6 - 5) := by
            rw [List.getElem?_map, List.getElem?_range (show i < lawN ce from hi)]; rfl
          refine hQ _ _ ?_
          exact cend0 (nx := (P, listOf #[.ref C2, .int ((2 + nP (drawP ce 1 3) + i + 1 : Nat) : Int) t13] 0) :: (X, LCg.lst vx) :: K) F12 N12 (.cons (fun q hq => ho11 _ (.head _) q hq) fun p hp => ho11 p (.tail _ hp)) ⟨⟨t13, rfl⟩, all2_step hys11 (fun _ _ h => h) hz ⟨_, rfl⟩⟩
        · intro Y vy nx h11 tk11 hf11 hp1_ F11 N11 ho11
          refine hideG fun Gd hGd => ?_
          obtain ⟨⟨tu, rfl⟩, hvy⟩ := hp1_
          refine hGd ?_
          clear hGd Gd
          have n3 : (s1.heap.objs.size + 1 + 1 + 1, q3) ∈ (Y, LCg.lst vy) :: (P, listOf #[.ref C2, .int ((2 + nP (drawP ce 1 3) + nP (drawP ce 1 3) : Nat) : Int) tu] 0) :: (X, LCg.lst vx) :: K := .tail _ (.tail _ (.tail _ k3))
          have hXY : @LT.lt Nat _ X Y := hf11 (X, LCg.lst vx) (.tail _ (.head _))
          k_steps
          rename Fr _ _ _ _ => FS
          rename News _ _ _ _ => NS
          refine Stop.mk (st_cellU FS NS n3 (by rfl) d3 ?_ (by rfl) (by rfl))
          intro h12 p3 F12 N12 e3
          k_steps
          have t1 : ∀ f : Nat → Int, ((List.range (lawN ce)).map f).take (nP (drawP ce 1 3)) = (List.range (lawN ce)).map f := fun f => List.take_of_length_le (by rw [List.length_map, List.length_range]; exact Nat.le_refl _)
          rw [t1] at hvx hvy
          have hlX : lawX ce = (List.range (lawN ce)).map fun (i : Nat) => 2 * drawP ce (2 + i) 6 - 4 := by rw [lawX, if_pos hdr]
          have hlY : lawY ce = (List.range (lawN ce)).map fun (i : Nat) => 2 * drawP ce (2 + lawN ce + i) 6 - 5 := by rw [lawY, if_pos hdr]
          refine ⟨rfl, h12, _, _, X, Y, vx, vy, vx.length, vy.length, q6, p2, p3, tn, rfl, F12, nsub N12 ?_, d6, e2, e3, hXK _ k6, Nat.lt_trans (hXK _ k6) hXY, by rw [hlX]; exact hvx, by rw [hlY]; exact hvy, by rfl, by rfl⟩
          have z6 : @LT.lt Nat _ (s1.heap.objs.size + 6) X := hXK _ k6
          have z7 : @LT.lt Nat _ (s1.heap.objs.size + 6) Y := Nat.lt_trans z6 hXY
          exact sub_cons (mem_upd_ne (.tail _ (.tail _ (.tail _ k6))) cn63) (sub_cons (mem_upd_ne (.tail _ (.tail _ (.tail _ k2))) cn23) (sub_cons (mem_upd_self (.tail _ (.tail _ (.tail _ k3)))) (sub_cons (mem_upd_ne (.tail _ (.tail _ (.head _))) (cb3 z6).symm) (sub_cons (mem_upd_ne (.head _) (cb3 z7).symm) sub_nil))))
    · rename drawP ce 0 2 ≠ 1 => hdr
      rename News _ _ _ _ => NS
      have NS2 : News s1.heap s1.heap.objs.size _ ((P, listOf #[.ref C2, .int ((2 : Nat) : Int) t9] 0) :: [(C2, LCg.lst cw), (s1.heap.objs.size + 1, p1), (s1.heap.objs.size + 1 + 1, p2), (s1.heap.objs.size + 1 + 1 + 1, q3), (s1.heap.objs.size + 1 + 1 + 1 + 1, q4), (s1.heap.objs.size + 1 + 1 + 1 + 1 + 1, q5), (s1.heap.objs.size + 1 + 1 + 1 + 1 + 1 + 1, q6)]) := nsub NS (by walk_at "sub")
      clear NS
      have hoffK : ∀ p ∈ [(C2, LCg.lst cw), (s1.heap.objs.size + 1, p1), (s1.heap.objs.size + 1 + 1, p2), (s1.heap.objs.size + 1 + 1 + 1, q3), (s1.heap.objs.size + 1 + 1 + 1 + 1, q4), (s1.heap.objs.size + 1 + 1 + 1 + 1 + 1, q5), (s1.heap.objs.size + 1 + 1 + 1 + 1 + 1 + 1, q6)], p.1 ≠ P := by walk_at "sub"
      refine' Con.use (draw_con _ P C2 cw 0 _ ce 2 4 _ _ hoffK (.head _) hys (by lia) (by decide) (by decide) (by decide)) ?k1 ?k2 ?k3 ?k4 ?k5 ?kK ?kd ?ku ?_
      (case k1 => k_asm)
      (case k2 => k_asm)
      (case k3 => k_asm)
      (case k4 => k_asm)
      (case k5 => k_asm)
      (case kK => first | exact rfl | assumption)
      (case kd => ktr_room)
      (case ku => ktr_units)
      intro r10 n10 h10 tk10 F10 N10 hp1_
      refine hideG fun Gd hGd => ?_
      obtain ⟨⟨t10, rfl⟩, t11, rfl⟩ := hp1_
      refine hGd ?_
      clear hGd Gd
      k_steps
      refine' Con.use (draw_con _ P C2 cw 0 _ ce 3 3 _ _ hoffK (.head _) hys (by lia) (by decide) (by decide) (by decide)) ?k1 ?k2 ?k3 ?k4 ?k5 ?kK ?kd ?ku ?_
      (case k1 => k_asm)
      (case k2 => k_asm)
      (case k3 => k_asm)
      (case k4 => k_asm)
      (case k5 => k_asm)
      (case kK => first | exact rfl | assumption)
      (case kd => ktr_room)
      (case ku => ktr_units)
      intro r11 n11 h11 tk11 F11 N11 hp1_
      refine hideG fun Gd hGd => ?_
      obtain ⟨⟨t12, rfl⟩, t13, rfl⟩ := hp1_
      refine hGd ?_
      clear hGd Gd
      k_steps
      rename Fr _ _ _ _ => FS
      rename News _ _ _ _ => NS
      have Na : News s1.heap s1.heap.objs.size _ [(s1.heap.objs.size + 1 + 1 + 1 + 1, q4), (s1.heap.objs.size + 1 + 1 + 1 + 1 + 1, q5), (s1.heap.objs.size + 1 + 1, p2), (s1.heap.objs.size + 1 + 1 + 1, q3), (s1.heap.objs.size + 1 + 1 + 1 + 1 + 1 + 1, q6)] := nsub NS (by walk_at "sub")
      clear NS
      refine Stop.mk (st_cell FS Na (by walk_at "sub") (by rfl) d4 ?_ (by rfl) (by rfl))
      clear FS Na
      intro h13 p4 F13 N13 e4
      k_steps
      rename Fr _ _ _ _ => FS
      rename News _ _ _ _ => NS
      have Na : News s1.heap s1.heap.objs.size _ [(s1.heap.objs.size + 1 + 1 + 1 + 1 + 1, q5), (s1.heap.objs.size + 1 + 1 + 1 + 1, p4), (s1.heap.objs.size + 1 + 1, p2), (s1.heap.objs.size + 1 + 1 + 1, q3), (s1.heap.objs.size + 1 + 1 + 1 + 1 + 1 + 1, q6)] := nsub NS (by walk_at "sub")
      clear NS
      refine Stop.mk (st_cell FS Na (by walk_at "sub") (by rfl) d5 ?_ (by rfl) (by rfl))
      clear FS Na
      intro h14 p5 F14 N14 e5
      have k4 : (s1.heap.objs.size + 1 + 1 + 1 + 1, p4) ∈ [(s1.heap.objs.size + 1 + 1 + 1 + 1 + 1, p5), (s1.heap.objs.size + 1 + 1 + 1 + 1, p4), (s1.heap.objs.size + 1 + 1, p2), (s1.heap.objs.size + 1 + 1 + 1, q3), (s1.heap.objs.size + 1 + 1 + 1 + 1 + 1 + 1, q6)] := by walk_at "mem"
      have k5 : (s1.heap.objs.size + 1 + 1 + 1 + 1 + 1, p5) ∈ [(s1.heap.objs.size + 1 + 1 + 1 + 1 + 1, p5), (s1.heap.objs.size + 1 + 1 + 1 + 1, p4), (s1.heap.objs.size + 1 + 1, p2), (s1.heap.objs.size + 1 + 1 + 1, q3), (s1.heap.objs.size + 1 + 1 + 1 + 1 + 1 + 1, q6)] := by walk_at "mem"
      have k2 : (s1.heap.objs.size + 1 + 1, p2) ∈ [(s1.heap.objs.size + 1 + 1 + 1 + 1 + 1, p5), (s1.heap.objs.size + 1 + 1 + 1 + 1, p4), (s1.heap.objs.size + 1 + 1, p2), (s1.heap.objs.size + 1 + 1 + 1, q3), (s1.heap.objs.size + 1 + 1 + 1 + 1 + 1 + 1, q6)] := by walk_at "mem"
      have k3 : (s1.heap.objs.size + 1 + 1 + 1, q3) ∈ [(s1.heap.objs.size + 1 + 1 + 1 + 1 + 1, p5), (s1.heap.objs.size + 1 + 1 + 1 + 1, p4), (s1.heap.objs.size + 1 + 1, p2), (s1.heap.objs.size + 1 + 1 + 1, q3), (s1.heap.objs.size + 1 + 1 + 1 + 1 + 1 + 1, q6)] := by walk_at "mem"
      have k6 : (s1.heap.objs.size + 1 + 1 + 1 + 1 + 1 + 1, q6) ∈ [(s1.heap.objs.size + 1 + 1 + 1 + 1 + 1, p5), (s1.heap.objs.size + 1 + 1 + 1 + 1, p4), (s1.heap.objs.size + 1 + 1, p2), (s1.heap.objs.size + 1 + 1 + 1, q3), (s1.heap.objs.size + 1 + 1 + 1 + 1 + 1 + 1, q6)] := by walk_at "mem"
      generalize hK : [(s1.heap.objs.size + 1 + 1 + 1 + 1 + 1, p5), (s1.heap.objs.size + 1 + 1 + 1 + 1, p4), (s1.heap.objs.size + 1 + 1, p2), (s1.heap.objs.size + 1 + 1 + 1, q3), (s1.heap.objs.size + 1 + 1 + 1 + 1 + 1 + 1, q6)] = K at N14 k2 k3 k4 k5 k6
      k_steps
      rename Fr _ _ _ _ => FS
      rename News _ _ _ _ => NS
      rename IsRange _ _ _ _ _ _ _ _ => RS
      refine Stop.mk (srcC_range (n := (nP (drawP ce 1 3))) (by rfl) FS NS RS (by omega) (by omega) (by omega) (by omega) (by omega) ?_)
      clear FS NS RS
      intro I hI S FI NI
      refine comp_local S (by rw [sizeLine_eq]; omega) FI NI (by decide) (by rfl) (by rfl) (fun i ys nx => nx = K ∧ All2 IntIn ys (((List.range (lawN ce)).map fun (i : Nat) => drawP ce 2 4 + (i : Int)).take i)) ⟨rfl, trivial⟩ (fun i ys nx hj p hp => nomatch hp) ?_ (ret_E ?_)
      · intro Cc D1 i v ys nx h15 tk15 its15 oC m15 E15 hi hp1_ hNs hx hp2_ ho15 F15 N15 Qc Qf hQ hQf
        refine hideG fun Gd hGd => ?_
        obtain ⟨tv, hv⟩ := hp1_
        obtain ⟨rfl, hys15⟩ := hp2_
        refine hGd ?_
        clear hGd Gd
        rw [Int.zero_add] at hv
        subst hv
        have kk4 := List.mem_append_left ((Cc, oC) :: (D1, LCg.lst ys) :: its15) k4
        refine tests0 ?_
        k_steps
        have hz : ((List.range (lawN ce)).map fun (i : Nat) => drawP ce 2 4 + (i : Int))[i]? = some (drawP ce 2 4 + (i : Int)) := by
          rw [List.getElem?_map, List.getElem?_range (show i < lawN ce from hi)]; rfl
        refine hQ _ _ ?_
        exact cend0 (by assumption) (by assumption) ho15 ⟨rfl, all2_step hys15 (fun _ _ h => h) hz ⟨_, rfl⟩⟩
      · intro X vx nx h15 tk15 hf15 hp1_ F15 N15 ho15
        refine hideG fun Gd hGd => ?_
        obtain ⟨rfl, hvx⟩ := hp1_
        refine hGd ?_
        clear hGd Gd
        replace F15 := F15
        replace N15 := N15
        clear NI FI S
        have kk2 : (s1.heap.objs.size + 1 + 1, p2) ∈ (X, LCg.lst vx) :: nx := .tail _ k2
        k_steps
        have kk5 : (s1.heap.objs.size + 1 + 1 + 1 + 1 + 1, p5) ∈ (X, LCg.lst vx) :: nx := .tail _ k5
        rename Fr _ _ _ _ => FS
        rename News _ _ _ _ => NS
        rename IsRange _ _ _ _ _ _ _ _ => RS
        refine Stop.mk (srcC_range (n := (nP (drawP ce 1 3))) (by rfl) FS NS RS (by omega) (by omega) (by omega) (by omega) (by omega) ?_)
        clear FS NS RS
        intro I hI S FI NI
        refine comp_local S (by rw [sizeLine_eq]; omega) FI NI (by decide) (by rfl) (by rfl) (fun i ys nx2 => nx2 = (X, LCg.lst vx) :: nx ∧ All2 IntIn ys (((List.range (lawN ce)).map fun (i : Nat) => 1 + drawP ce 3 3 + (i : Int)).take i)) ⟨rfl, trivial⟩ (fun i ys nx hj p hp => nomatch hp) ?_ (ret_E ?_)
        · intro Cc D1 i v ys nx2 h16 tk16 its16 oC m16 E16 hi hp1_ hNs hx hp2_ ho16 F16 N16 Qc Qf hQ hQf
          refine hideG fun Gd hGd => ?_
          obtain ⟨tv, hv⟩ := hp1_
          obtain ⟨rfl, hys16⟩ := hp2_
          refine hGd ?_
          clear hGd Gd
          rw [Int.zero_add] at hv
          subst hv
          have kk6 := List.mem_append_left ((Cc, oC) :: (D1, LCg.lst ys) :: its16) kk5
          refine tests0 ?_
          k_steps
          have hz : ((List.range (lawN ce)).map fun (i : Nat) => 1 + drawP ce 3 3 + (i : Int))[i]? = some (1 + drawP ce 3 3 + (i : Int)) := by
            rw [List.getElem?_map, List.getElem?_range (show i < lawN ce from hi)]; rfl
          refine hQ _ _ ?_
          exact cend0 (by assumption) (by assumption) ho16 ⟨rfl, all2_step hys16 (fun _ _ h => h) hz ⟨_, rfl⟩⟩
        · intro Y vy nx2 h16 tk16 hf16 hp1_ F16 N16 ho16
          refine hideG fun Gd hGd => ?_
          obtain ⟨rfl, hvy⟩ := hp1_
          refine hGd ?_
          clear hGd Gd
          replace F16 := F16
          replace N16 := N16
          clear NI FI S
          have hXY : @LT.lt Nat _ X Y := hf16 (X, LCg.lst vx) (.head _)
          have z6 : @LT.lt Nat _ (s1.heap.objs.size + 1 + 1 + 1 + 1 + 1 + 1) X := hf15 _ k6
          k_steps
          rename Fr _ _ _ _ => FS
          rename News _ _ _ _ => NS
          have Na := nsub (a := (Y, LCg.lst vy) :: (X, LCg.lst vx) :: nx) NS (by walk_at "sub")
          clear NS
          have n3 : (s1.heap.objs.size + 1 + 1 + 1, q3) ∈ (Y, LCg.lst vy) :: (X, LCg.lst vx) :: nx := .tail _ (.tail _ k3)
          refine Stop.mk (st_cellU FS Na n3 (by rfl) d3 ?_ (by rfl) (by rfl))
          intro h17 p3 F17 N17 e3
          k_steps
          have t1 : ∀ f : Nat → Int, ((List.range (lawN ce)).map f).take (nP (drawP ce 1 3)) = (List.range (lawN ce)).map f := fun f => List.take_of_length_le (by rw [List.length_map, List.length_range]; exact Nat.le_refl _)
          rw [t1] at hvx hvy
          have hlX : lawX ce = (List.range (lawN ce)).map fun (i : Nat) => drawP ce 2 4 + (i : Int) := by rw [lawX, if_neg hdr]
          have hlY : lawY ce = (List.range (lawN ce)).map fun (i : Nat) => 1 + drawP ce 3 3 + (i : Int) := by rw [lawY, if_neg hdr]
          refine ⟨rfl, h17, _, _, X, Y, vx, vy, vx.length, vy.length, q6, p2, p3, tn, rfl, F17, nsub N17 ?_, d6, e2, e3, z6, Nat.lt_trans z6 hXY, by rw [hlX]; exact hvx, by rw [hlY]; exact hvy, by rfl, by rfl⟩
          have z8 : @LT.lt Nat _ (s1.heap.objs.size + 6) X := z6
          have z7 : @LT.lt Nat _ (s1.heap.objs.size + 6) Y := Nat.lt_trans z6 hXY
          exact sub_cons (mem_upd_ne (.tail _ (.tail _ k6)) cn63) (sub_cons (mem_upd_ne (.tail _ (.tail _ k2)) cn23) (sub_cons (mem_upd_self (.tail _ (.tail _ k3))) (sub_cons (mem_upd_ne (.tail _ (.head _)) (cb3 z8).symm) (sub_cons (mem_upd_ne (.head _) (cb3 z7).symm) sub_nil))))
set_option Elab.async false
end
end Mine
theorem PySem.Challenge.cw_xm0074_01_holds : PySem.Challenge.rw_xm0074_01.Holds := by
  exact Mine.law_all
